import PyProof.Rows.All
import Wide.All
import OpenK.AllK
import Wide.FinOn
import KE.KStateDown
import Lean
import PyProof.ReprRoads
import KE.KExcIs
import HandS.Base
import HandS.Call
import HandS.List
import HandS.Comp
import HandS.Ends
import HandS.Exc
import HandS.ExcOwn
import HandS.ExcInit
import HandS.ExcField
import HandS.ExcIs
import HandS.TryOnly
import HandS.Dict
import HandS.Iter
import HandS.Text
import HandS.More
import HandS.Words
import HandS.WordsList
import HandS.WordsDict
import HandS.WordsExc
import HandS.Defaults
import HandS.IsInst
import HandS.Wide
import HandS.Zip
import HandS.Conv
import HandS.Codes
import HandS.TupAny
import HandS.DeepEq
import HandS.Head0
import HandS.Head1
import HandS.Head2
import HandS.HeadEnd
import HandS.HeadHook1
import HandS.HeadHook2
import HandS.HeadNt
import KE.GoesMore
import KE.GoesEnum
import HandS.Rev
import HandS.Walk
import PyProof.CallFns
import KE.GoesComp
import KE.GoesRaise
import HandS.CallSlots
import HandS.GenList
import OpenK.XSeg
import PyProof.StrBlock2
import HandS.OwnEq
import HandS.ClsMeth
import PyProof.InstNe
import PySem.Challenge.RW_fewfetches_k07_whole_slab_form_is_one
import KE.SortData
import KE.KDictPairs
import HandS.SortOrd
import HandS.SortRule
import HandS.SetFor
import HandS.Strs
import HandS.SortInts
import HandS.SetKeys
import HandS.TupSets
import HandS.SetBool
import HandS.Deep
import HandS.DictComp
import HandS.DictTup
import HandS.Small
set_option Elab.async false
set_option linter.all false
set_option maxRecDepth 100000
set_option maxHeartbeats 4000000
/-! What all our proofs share: how a caller takes a def, heaps, an exception's isinstance, repr of data. -/
namespace Q
open PySem PySem.Spec PyProof.Rows L2
/-! ### a def as its callers take it -/
structure Cal (P : Program) (w : World) (K : PySem.W.Frag) (mg : Str → Option Value) (base : Heap) (CX : CXT) (k : Nat) (x : Str) (ps : List Str) (dvs : List V) (sp : Sp) : Prop where
  ex : ∃ (f : Addr) (fd : FuncData) (ds : List Value), FnOk P w K mg base CX k f fd ps sp ∧ mg x = some (.ref f) ∧ PySem.W.keepIn K (.ref f) = true ∧ Binds K fd ps ds ∧ Vals dvs ds
section
variable {X : Cx} {CX : CXT} {k : Nat} {ps : List Str} {sp : Sp} {dvs : List V} {E : XK} {x : Str} {p pos : Pos} {e : Expr} {es : List Expr} {t : TA}
theorem pe_cal (C : Cal X.prog X.w X.K X.mg X.base CX k x ps dvs sp) (hr : Room k X.A) (hx : Passes CX X E) (ha : PA X (e :: es) t) (hg : Gl X x := by rfl) (hdb : (x == ("__debug__" : Str)) = false := by decide)
    (he : starEach (e :: es) X.env = (false, eval e X.env) :: starEach es X.env := by rfl) (hpl : (backTo pos (starEach es X.env)).any (·.1) = false := by rfl) :
    PE X (.Call (.Name x p) (e :: es) [] pos) (tCall sp dvs E t) := by
  obtain ⟨f, fd, ds, G, g, kp, b, v⟩ := C.ex
  exact pe_call G hr hg g kp b v hx ha hdb he hpl
theorem pe_cal0 (C : Cal X.prog X.w X.K X.mg X.base CX k x ps dvs sp) (hr : Room k X.A) (hx : Passes CX X E) (hg : Gl X x := by rfl) (hdb : (x == ("__debug__" : Str)) = false := by decide) :
    PE X (.Call (.Name x p) [] [] pos) (tCall sp dvs E tNil) := by
  obtain ⟨f, fd, ds, G, g, kp, b, v⟩ := C.ex
  exact pe_call0 G hr hg g kp b v hx hdb
end
section
variable {X : Cx} {CX : CXT} {k : Nat} {ps : List Str} {sp : Sp} {E : L2.St → XK} {x : Str} {p pos : Pos} {e : Expr} {es : List Expr} {t : TA}
theorem pe_calS (C : Cal X.prog X.w X.K X.mg X.base CX k x ps [] sp) (hr : Room k X.A) (hx : ∀ σ, PassesAt CX X σ (E σ)) (ha : PA X (e :: es) t) (hg : Gl X x := by rfl) (hdb : (x == ("__debug__" : Str)) = false := by decide)
    (he : starEach (e :: es) X.env = (false, eval e X.env) :: starEach es X.env := by rfl) (hpl : (backTo pos (starEach es X.env)).any (·.1) = false := by rfl) :
    PE X (.Call (.Name x p) (e :: es) [] pos) (tCallS sp E t) := by
  obtain ⟨f, fd, ds, G, g, kp, b, v⟩ := C.ex
  cases v
  exact pe_callS G hr hg g kp b hx ha hdb he hpl
end
/-! ### an instance made by an __init__ that may raise, in a try's body -/
section
variable {X : Cx} {CX : CXT} {k : Nat} {f C : Addr} {fd : FuncData} {ps : List Str} {sp : Sp} {E : L2.St → XK} {x : Str} {p pos : Pos} {e : Expr} {es : List Expr} {t : TA}
theorem run_newS {pins : List (Addr × Obj)} {σ : L2.St} {H : Hp} {s : Shared} {Q : VK} {us : List Value} {vs : List V} (M : Mk X.K C f) (F : FnOk X.prog X.w X.K X.mg X.base CX k f fd ps sp) (hr : Room (k + 1) X.A) (hb : Binds X.K fd ps [])
    (hx : PassesAt CX X σ (E σ)) (I : Inv X pins σ H s) (r : Vals vs us)
    (h : ∀ y dy, H y = none → H dy = none → dy ≠ y → sp (.ref y :: vs) (upd (upd H dy (.own y)) y (.ins C dy [])) (fun v H2 => v = .non ∧ Q (.ref y) H2) (E σ)) :
    wpAny (model X.prog X.w) X.A (call (.ref C) us) (EP X pins σ Q) X.xe s := by
  have n1 : H (s.heap.objs.size + 1) = none := I.hok.fresh (Nat.le_succ _)
  have n0 : H s.heap.objs.size = none := I.hok.fresh (Nat.le_refl _)
  have todo := h _ _ n1 n0 (Nat.ne_of_lt (Nat.lt_succ_self _))
  have J := Inv.made (C := C) I
  have rr : Vals (V.ref (s.heap.objs.size + 1) :: vs) (Value.ref (s.heap.objs.size + 1) :: us) := .cons rfl r
  have ln : (Value.ref (s.heap.objs.size + 1) :: us).length = ps.length := by
    have e1 := rr.length
    have e2 := F.len _ _ _ _ todo
    omega
  have bb := hb _ (Value.ref (s.heap.objs.size + 1) :: us) J.kIn (by rw [List.append_nil]; exact ln)
  rw [List.append_nil] at bb
  refine wpAny_call (make_map (f := f) I.kIn M.makes M.init (beq_iff_eq.mp M.fn) (codeAny_mono
    (F.run _ X.stack _ _ ⟨Value.ref (s.heap.objs.size + 1) :: us, []⟩ _ _ _ (E σ) (hr.make C us []) (J.env0.make C us []) bb rr todo) fun r s' z => ?_))
  cases r with
  | error er => exact hx pins _ _ er s' J z
  | ok fl =>
    cases fl with
    | ret u =>
      obtain ⟨v, H', I3, rv, ev, q3⟩ := J.after z
      subst ev
      exact ⟨rv, V.ref (s.heap.objs.size + 1), H', I3, rfl, q3⟩
    | next => exact z.elim
    | brk => exact z.elim
    | cont => exact z.elim
def tNewS (C : Addr) (sp : Sp) (E : L2.St → XK) (t : TA) : TE := fun σ H Q => t σ H fun vs H1 => ∀ y dy, H1 y = none → H1 dy = none → dy ≠ y →
  sp (.ref y :: vs) (upd (upd H1 dy (.own y)) y (.ins C dy [])) (fun v H2 => v = .non ∧ Q (.ref y) H2) (E σ)
theorem pe_newS (M : Mk X.K C f) (F : FnOk X.prog X.w X.K X.mg X.base CX k f fd ps sp) (hr : Room (k + 1) X.A) (hm : X.mg x = some (.ref C)) (hb : Binds X.K fd ps []) (hx : ∀ σ, PassesAt CX X σ (E σ))
    (ha : PA X (e :: es) t) (hg : Gl X x := by rfl) (hdb : (x == ("__debug__" : Str)) = false := by decide) (he : starEach (e :: es) X.env = (false, eval e X.env) :: starEach es X.env := by rfl)
    (hpl : (backTo pos (starEach es X.env)).any (·.1) = false := by rfl) : PE X (.Call (.Name x p) (e :: es) [] pos) (tNewS C sp E t) := by
  refine ⟨fun pins s σ H Q I h => wpAny_Call_Name_kw (ld_glob I hg hm ?_ hdb)⟩
  refine PySem.W.callWith_K (h₀ := X.base) I.ok.mod.kin M.kp (thn (ha.run pos pins s σ H _ I h) fun us s1 ⟨vs, H1, I1, r, q⟩ => ⟨I1.kIn, ?_⟩) he hpl
  exact run_newS M F hr hb (hx σ) I1 r q
end
/-! ### isinstance of a caught exception, its dict there or not -/
def rIsX (K : PySem.W.Frag) (D a : Addr) (cls : Value) (d : Option Addr) : List V → Hp → VK → Prop := fun xs H Q => cls = .ref D ∧ (∀ dd, d = some dd → ∃ o, H dd = some o) ∧ rIsE K D a xs H Q
theorem call_isX {X : Cx} {a D : Addr} {oe : Obj} {cls : Value} {d : Option Addr} {pn : List (Addr × Obj)} (T : ExcC X.K D) (hz : Zc cls d oe) (hf : ∃ vs, oe.data = .fields vs) : CallR (X.suite a ((a, oe) :: pn)) (.builtin "isinstance") (rIsX X.K D a cls d) := by
  intro pins s σ H xs us Q I r h
  obtain ⟨rfl, there, c, cv, b, rfl, hcv, e, q⟩ := h
  obtain ⟨u1, u2, rfl, r1, r2⟩ := vals2 r
  obtain rfl : u1 = Value.ref a := r1
  obtain rfl := hcv _ r2
  have got := (I.pin (a, oe) (List.mem_append_left _ List.mem_cons_self)).1
  obtain ⟨vs, hv⟩ := hf
  have nc : PySem.W.notCls oe := by
    unfold PySem.W.notCls
    rw [hv]
  obtain ⟨od, hod⟩ : ∃ od : Option Obj, PySem.W.InstAt s.heap a oe D od := by
    cases d with
    | none => exact ⟨none, got, hz.1, nc, by rw [hz.2]; trivial⟩
    | some dd =>
      obtain ⟨o, ho⟩ := there dd rfl
      obtain ⟨u, hu⟩ := objOk_get (I.hok dd o ho)
      exact ⟨some u, got, hz.1, nc, by rw [hz.2]; exact hu⟩
  exact PySem.W.kia_one (PySem.W.kitx_exc (od := od) (by obtain ⟨cd, hc, _⟩ := PySem.W.any_some T.hd; rw [hc]; rfl) T.hg T.hk T.hs T.ha T.hn T.ht T.hm) I.kIn hod e (fun z => nomatch z) fun tk => ⟨.bl b, H, I.kept (t' := tk) fun _ _ z => z, rfl, q⟩
/-! ### repr of data that stands in the heap: asked where no repr runs around -/
def rReprD (K : PySem.W.Frag) : List V → Hp → VK → Prop := fun xs H Q => ∃ (x : V) (d : PyData), xs = [x] ∧ Dp K H x d ∧ (∃ a, x = .ref a) ∧ d.showable = true ∧ d.hasDict = false ∧ d.depth ≤ 60 ∧ d.shown.length ≤ sizeLine ∧ Q (.str d.shown) H
theorem call_reprD {X : Cx} (hg : X.A.guards = some []) (hu : X.A.units + 64 < cLine) : CallR X (.builtin "repr") (rReprD X.K) := by
  intro pins s σ H xs us Q I r h
  obtain ⟨x, d, rfl, hD, ⟨a, rfl⟩, hs, hno, hdp, hl, q⟩ := h
  obtain ⟨u, rfl, r1⟩ := vals1 r
  obtain rfl : u = Value.ref a := r1
  obtain ⟨as, rd⟩ := Dp.reads I d _ _ hD rfl
  refine repr_of_reads' rd hs (fun z => by rw [hno] at z; cases z) hg (by omega) (fun _ _ e => e) (fun h' t tk hk => ⟨.str d.shown, H, I.kept (t' := tk) hk, ⟨t, rfl⟩, q⟩) hl
/-! ### defs that ask for this: their promise is kept where no repr runs around -/
structure FnG (P : Program) (w : World) (K : PySem.W.Frag) (mg : Str → Option Value) (base : Heap) (CX : CXT) (k : Nat) (f : Addr) (fd : FuncData) (ps : List Str) (sp : Sp) : Prop where
  len : ∀ vs H Q E, sp vs H Q E → vs.length = ps.length
  run : ∀ (A : Around) (outer : List Env) (s : Shared) (H : Hp) (args : Args) (us : List Value) (vs : List V) (Q : VK) (E : XK), A.guards = some [] → Room k A → Env0 P w K mg base A outer s H → BindsTo s fd args (ps.zip us) → Vals vs us →
    sp vs H Q E → codeAny (model P w) A (.call (.ref f) args) (CR CX outer P w H s Q E) s
theorem FnG.of {P : Program} {w : World} {K : PySem.W.Frag} {mg : Str → Option Value} {base : Heap} {CX : CXT} {k : Nat} {f : Addr} {fd : FuncData} {ps : List Str} {sp : Sp} (F : FnOk P w K mg base CX k f fd ps sp) : FnG P w K mg base CX k f fd ps sp :=
  ⟨F.len, fun A outer s H args us vs Q E _ => F.run A outer s H args us vs Q E⟩
section
variable {P : Program} {w : World} {K : PySem.W.Frag} {mg : Str → Option Value} {base : Heap} {x qual : Str} {params : Arguments} {body : List Stmt} {scope : Scope} {dvs : List V} {kws : List (Str × V)} {f : Addr} {fd : FuncData} {CX : CXT} {N ps : List Str} {k : Nat} {sp : Sp}
theorem funG (F : FunD K x qual params body scope dvs kws f fd) (S : FnScope N ps scope) (len : ∀ vs H Q E, sp vs H Q E → vs.length = ps.length)
    (hbody : ∀ (cdv : Value) (A : Around) (outer : List Env) (s : Shared) (H : Hp) (vs : List V) (Q : VK) (E : XK), A.guards = some [] → Room k (A.deeper (envOfC qual scope s.heap.objs.size f cdv)) → sp vs H Q E →
      ∃ t, PSs (cxOf CX P w K mg base N qual scope f cdv A outer s H E) body t ∧ t { nx := fun _ H' => Q .non H', rt := Q } (start N vs) H) : FnG P w K mg base CX (k + 1) f fd ps sp := by
  obtain ⟨oc, od, dV, kV, doc, pm, an, cdv, ct, osl, rfl, lk, hcd, -, -⟩ := F.ex
  refine ⟨len, fun A outer s H args us vs Q E gd hr e0 hb r todo => ?_⟩
  have hlen := len _ _ _ _ todo
  have inH : K.In s.heap := e0.mod.kin.keeps fun b o z => (e0.bs b o z).1
  have noLim : s.heap.NoLimit := e0.mod.nolimit.keeps fun b o z => (e0.bs b o z).1
  refine codeAny_call_function hr.depth (inH _ _ lk) rfl S.co S.gen rfl (PySem.W.codeRec_of inH hcd) (hb _ _ _ _ (wpAny_newFunctionEnv_cells S.kind (fun y hy => ?_) fun env he s1 entered => ?_))
  · rcases S.par y.1 (List.of_mem_zip (show (y.1, y.2) ∈ ps.zip us from hy)).1 with c | c
    · exact .inl c
    · exact .inr ⟨c, PySem.W.cellsFrom_some _ _ _ (.inl c)⟩
  · subst he
    obtain ⟨t, ht, hq⟩ := hbody cdv A outer s H vs Q E gd (hr.deeper _) todo
    have J : Inv (cxOf CX P w K mg base N qual scope f cdv A outer s H E) [] (start N vs) H s1 := inv_start S hr.hd e0 hlen r entered
    refine ⟨noLim.keeps entered.toInCall.keep, codeAny_func (wpAny_mono (ht.run [] s1 (start N vs) H _ J hq) (fun fl s' over => ?_) fun _ _ z => z)⟩
    cases fl with
    | ret u => exact let ⟨v, _, H', J', rv, qv⟩ := over; ⟨v, H', J'.os, J'.bare, J'.base, J'.hok, rv, qv⟩
    | next => exact let ⟨_, H', J', qv⟩ := over; ⟨V.non, H', J'.os, J'.bare, J'.base, J'.hok, rfl, qv⟩
    | brk => exact let ⟨_, _, _, z⟩ := over; False.elim z
    | cont => exact let ⟨_, _, _, z⟩ := over; False.elim z
end
structure CalG (P : Program) (w : World) (K : PySem.W.Frag) (mg : Str → Option Value) (base : Heap) (CX : CXT) (k : Nat) (x : Str) (ps : List Str) (dvs : List V) (sp : Sp) : Prop where
  ex : ∃ (f : Addr) (fd : FuncData) (ds : List Value), FnG P w K mg base CX k f fd ps sp ∧ mg x = some (.ref f) ∧ PySem.W.keepIn K (.ref f) = true ∧ Binds K fd ps ds ∧ Vals dvs ds
section
variable {X : Cx} {CX : CXT} {k : Nat} {ps : List Str} {sp : Sp} {dvs : List V} {E : XK} {x : Str} {p pos : Pos} {e : Expr} {es : List Expr} {t : TA}
theorem pe_calG (C : CalG X.prog X.w X.K X.mg X.base CX k x ps dvs sp) (gd : X.A.guards = some []) (hr : Room k X.A) (hx : Passes CX X E) (ha : PA X (e :: es) t) (hg : Gl X x := by rfl) (hdb : (x == ("__debug__" : Str)) = false := by decide)
    (he : starEach (e :: es) X.env = (false, eval e X.env) :: starEach es X.env := by rfl) (hpl : (backTo pos (starEach es X.env)).any (·.1) = false := by rfl) :
    PE X (.Call (.Name x p) (e :: es) [] pos) (tCall sp dvs E t) := by
  obtain ⟨f, fd, ds, G, g, kp, hb, hd⟩ := C.ex
  refine ⟨fun pins s σ H Q I h => wpAny_Call_Name_kw (ld_glob I hg g ?_ hdb)⟩
  refine PySem.W.callWith_K (h₀ := X.base) I.ok.mod.kin kp (thn (ha.run pos pins s σ H _ I h) fun us s1 ⟨vs, H1, I1, r, q⟩ => ⟨I1.kIn, ?_⟩) he hpl
  have rr : Vals (vs ++ dvs) (us ++ ds) := r.append hd
  have ln : (us ++ ds).length = ps.length := rr.length.symm.trans (G.len _ _ _ _ q)
  refine wpAny_call (codeAny_mono (G.run X.A X.stack s1 H1 ⟨us, []⟩ _ _ Q E gd hr I1.env0 (hb s1 us I1.kIn ln) rr q) fun res s' z => ?_)
  cases res with
  | error er => exact hx pins σ H1 s1 er s' I1 z
  | ok fl =>
    cases fl with
    | ret u => exact I1.after z
    | next => exact z.elim
    | brk => exact z.elim
    | cont => exact z.elim
end
/-! ### the law's end, its def's promise kept where no repr runs around -/
section
open PySem.W
/-- the heap in which the script alone is tracked (as the object that it is), or nothing -/
def scriptH (K : Frag) (a : Addr) (vs : List Value) (ns : List Int) : Hp := fun b => if b = a ∧ K.lookup a = none then some (.frz { cls := .type "list", data := .seq vs.toArray } (.lst (ns.map V.int))) else none
theorem scriptH_some {K : Frag} {a b : Addr} {vs : List Value} {ns : List Int} {u : HO} (h : scriptH K a vs ns b = some u) : b = a ∧ K.lookup a = none ∧ u = .frz { cls := .type "list", data := .seq vs.toArray } (.lst (ns.map V.int)) := by
  unfold scriptH at h
  split at h
  · rename_i c
    exact ⟨c.1, c.2, (Option.some.inj h).symm⟩
  · cases h
theorem law_callG {P : Program} {w : World} {K : Frag} {mg mb : Str → Option Value} {CX : CXT} {k : Nat} {fa a : Addr} {fd : FuncData} {x : Str} {sp : Sp} {s₁ : Shared} {vs : List Value} {ns : List Int}
    (KX : K.In s₁.heap) (hns : s₁.heap.Ns mainGlobals mg) (hb : s₁.heap.Ns builtinsNs mb) (hbb : ∀ x : Str, x ≠ "__name__" → mb x = bootBuiltins x) (hlim : s₁.heap.NoLimit) (hg : s₁.gens = #[])
    (ha : s₁.heap.get? a = some { cls := .type "list", data := .seq vs.toArray }) (hi : IntsAre vs ns) (hl : ns.length ≤ sizeLine) (hr : Room k callerA)
    (F : ∀ base : Heap, K.In base → base.Ns mainGlobals mg → FnG P w K mg base CX k fa fd [x] sp) (hbind : ∀ (s : Shared) (u : Value), BindsTo s fd ⟨[u], []⟩ [(x, u)])
    (hsp : ∀ H : Hp, Only H → SqL K H a (ns.map V.int) → sp [.ref a] H (fun v _ => v = .bl true) fun _ _ _ => False) (hCX : ∀ H e s', CX [] H s₁ (fun _ _ _ => False) e s' → False) :
    codeAny (model P w) callerA (.call (.ref fa) ⟨[.ref a], []⟩) (fun r s' => r = .ok (.ret (.bool true)) ∧ OldK s₁.heap s'.heap ∧ s'.os = s₁.os ∧ AllBare s'.gens) s₁ := by
  generalize hH : scriptH K a vs ns = H
  have only : Only H := fun b => by
    cases q : H b with
    | none => exact .inl rfl
    | some u =>
      rw [← hH] at q
      obtain ⟨-, -, rfl⟩ := scriptH_some q
      exact .inr ⟨_, _, rfl⟩
  have ok : HOk P w H s₁.heap := fun b u q => by
    rw [← hH] at q
    obtain ⟨rfl, -, rfl⟩ := scriptH_some q
    exact ⟨ha, by rw [List.length_map]; exact hl, vs, _, vals_ints hi, ha⟩
  have isA : ∀ b u, H b = some u → b = a ∧ K.lookup a = none := fun b u q => by
    rw [← hH] at q
    exact ⟨(scriptH_some q).1, (scriptH_some q).2.1⟩
  have seen : SqL K H a (ns.map V.int) := by
    cases hk : K.lookup a with
    | some o =>
      have z := KX a o hk
      rw [ha] at z
      cases z
      exact .inr ⟨_, vs.toArray, _, hk, rfl, rfl, rfl, by rw [List.size_toArray, hi.length]; exact hl, by simpa using vals_ints hi⟩
    | none => exact .inl (.inr ⟨{ cls := .type "list", data := .seq vs.toArray }, by rw [← hH]; unfold scriptH; rw [if_pos ⟨rfl, hk⟩]⟩)
  have dictFree : ∀ {b : Addr} {o : Obj} {es : Array DictEntry} {ep : Nat}, s₁.heap.get? b = some o → o.data = .dict es ep → H b = none := fun {b o es ep} e d => by
    cases q : H b with
    | none => rfl
    | some u =>
      obtain ⟨rfl, -⟩ := isA b u q
      rw [ha] at e
      cases e
      cases d
  have nsOn : ∀ {b : Addr} {m : Str → Option Value}, s₁.heap.Ns b m → (hidT s₁.heap H).Ns b m := fun {b m} ⟨o, es, ep, e, d, r⟩ => ⟨o, es, ep, hidT_get e (dictFree e d), d, r⟩
  have kinB : K.In (hidT s₁.heap H) := fun b o e => hidT_get (KX b o e) (by
    cases q : H b with
    | none => rfl
    | some u =>
      obtain ⟨rfl, z⟩ := isA b u q
      rw [z] at e
      cases e)
  have e0 : Env0 P w K mg (hidT s₁.heap H) callerA [] s₁ H :=
    ⟨rfl, ⟨kinB, nsOn hns, ⟨mb, nsOn hb, hbb⟩, let ⟨mc, h1, h2⟩ := hlim; ⟨mc, nsOn h1, h2⟩⟩, fun b o e => of_hidT e, Nat.le_of_eq (hidT_size _ _), trivial, fun b hb => absurd (show b ∈ ([] : List Addr) from hb) (by simp), ok, .of_eq hg⟩
  refine codeAny_mono ((F _ kinB (nsOn hns)).run callerA [] s₁ H ⟨[.ref a], []⟩ [.ref a] [.ref a] _ _ rfl hr e0 (hbind s₁ (.ref a)) (.cons rfl .nil) (hsp H only seen)) fun res s' z => ?_
  cases res with
  | error e => exact (hCX H e s' z).elim
  | ok fl =>
    cases fl with
    | ret u =>
      obtain ⟨v, H', os, bare, un, hok', rv, qv⟩ := z
      have ev : v = .bl true := qv
      subst ev
      obtain rfl : u = Value.bool true := rv
      refine ⟨rfl, OldK.of_keep fun b o e => ?_, os, bare⟩
      cases q : H b with
      | none => exact un.keep b o e q (fun z => absurd (show b ∈ ([] : List Addr) from z) (by simp)) (by simp)
      | some u =>
        rcases only b with z | ⟨ob, xs, z⟩
        · rw [z] at q
          cases q
        · have now := (hok' b _ (un.frzs b ob _ z)).1
          have old := (ok b _ z).1
          rw [e] at old
          cases old
          exact now
    | next => exact z.elim
    | brk => exact z.elim
    | cont => exact z.elim
theorem walk_ofG {l : PySem.W.OpenLaw} {n k : Nat} {q : Program} {loose : List Str} {XP : (Str → Option Value) → Heap → Prop} {YP : World → Heap → Prop} {d : DefRec} {CX : CXT} {x : Str}
    (hn : l.most = some n) (hn2 : n ≤ sizeLine) (hdf : d.params.defaults = []) (hr : Room k callerA)
    (F : ∀ (w : World) (mg : Str → Option Value) (fa : Addr) (h : Heap), YP w h → h.Ns mainGlobals mg → mg d.name = some (.ref fa) →
      ∃ (K : PySem.W.Frag) (fd : FuncData) (sp : Sp), K.In h ∧ (∀ (s : Shared) (u : Value), BindsTo s fd ⟨[u], []⟩ [(x, u)]) ∧
        (∀ (H : Hp) (a : Addr) (ns : List Int), ns.length ≤ n → Only H → SqL K H a (ns.map V.int) → sp [.ref a] H (fun v _ => v = .bl true) fun _ _ _ => False) ∧
        ∀ base : Heap, K.In base → base.Ns mainGlobals mg → FnG l.prog w K mg base CX k fa fd [x] sp)
    (hCX : ∀ (H : Hp) (s : Shared) (e : Value) (s' : Shared), CX [] H s (fun _ _ _ => False) e s' → False) : PySem.W.WalkO q loose XP YP l.row.toRowW d [] (fun f vs => PySem.call f vs) := by
  refine Att.attach_call hn hdf fun w s₀ s₁ mg mb fa o pm cd doc a vs ns G Y _ _ _ hmg hobj hints hlen hg => ?_
  obtain ⟨K, fd, sp, KX, hbd, hsp, hF⟩ := F w mg fa _ Y G.T.g hmg
  exact law_callG KX G.T.g G.T.b G.T.builtins G.T.nolimit hg hobj hints (Nat.le_trans hlen hn2) hr hF hbd (fun H hO hS => hsp H a ns hlen hO hS) fun H e s' => hCX H s₁ e s'
end
/-! ### facts of the top, told by one Bool -/
section
open PySem.W
def obsF (fb : Frag → Bool) (fn : List He.DefD) (K : Frag) : He.AlD := (fb K && fn.all fun d => d.ok K, fn.map fun d => He.fnW K d.at_)
def SaysF (fb : Frag → Bool) (fn : List He.DefD) (K : Frag) : Prop := obsF fb fn K = He.valD fn
def obsFG (n : Nat) (fb : Frag → Bool) (fn : List He.DefD) (g : Addr → Option Obj) : He.AlD := obsF fb fn (He.frG g (He5.asA g n))
def hookF (n : Nat) (fb : Frag → Bool) (fn : List He.DefD) : Hook where
  α := He.AlD
  obs := fun s => obsFG n fb fn s.heap.get?
  val := fun _ => He.valD fn
  says := fun _ h => ∃ K : Frag, K.In h ∧ SaysF fb fn K
  of := fun _ _ e => ⟨_, He.frG_in, e⟩
  keeps := fun _ _ _ ⟨K, inK, c⟩ k => ⟨K, Frag.In.keeps inK k, c⟩
theorem obsFG_eq {n : Nat} {fb : Frag → Bool} {fn : List He.DefD} {g : Addr → Option Obj} {s : Shared} (h : ∀ a, g a = s.heap.get? a) : obsFG n fb fn g = (hookF n fb fn).obs s := by
  obtain rfl : g = s.heap.get? := funext h
  rfl
theorem SaysF.all {fb : Frag → Bool} {fn : List He.DefD} {K : Frag} (c : SaysF fb fn K) : fb K = true ∧ ∀ d ∈ fn, d.ok K = true := by
  have z : (fb K && fn.all fun d => d.ok K) = true := congrArg (fun z : He.AlD => z.1) c
  exact ⟨(Bool.and_eq_true_iff.mp z).1, List.all_eq_true.mp (Bool.and_eq_true_iff.mp z).2⟩
theorem SaysF.def_ {fb : Frag → Bool} {fn : List He.DefD} {K : Frag} (c : SaysF fb fn K) {d : He.DefD} (h : d ∈ fn) : ∃ fd, FunD K d.name d.qual d.params d.body d.scope (d.dvs K) (d.kws K) (He.fAd K d.at_) fd := by
  have e : fn.map (fun d => He.fnW K d.at_) = fn.map He.DefD.val := congrArg (fun z : He.AlD => z.2) c
  exact He.DefD.funD (List.map_inj_left.mp e d h) (c.all.2 d h)
end
/-! ### an own exception class with an __init__ of its own, as one Bool -/
section
open PySem.W
def oexB (K : Frag) (C : Addr) : Bool := (match K.lookup C with
  | some ⟨.type "type", _, .cls cd, sl⟩ => (match cd.mro, sl.toList with
    | .ref C' :: bm, [_, _, _, _, some (.builtin n), _] => C' == C && (n == "ValueError.__new__" && (!cd.hasDel && (cd.hasDict && HandSPX.refsVE bm)))
    | _, _ => false)
  | _ => false) && (decide (findIn K (.ref C) "__setattr__" = some (some (.builtin "object.__setattr__"))) && (decide (subIn K (.ref C) (.type "BaseException") = some true) && (decide (typeIn K (.ref C) = some (.type "type")) && keepIn K (.ref C))))
theorem oexB_ok {K : Frag} {C : Addr} (h : oexB K C = true) : OexC K C := by
  obtain ⟨h1, h⟩ := He.ba h
  obtain ⟨h2, h⟩ := He.ba h
  obtain ⟨h3, h⟩ := He.ba h
  obtain ⟨h4, h5⟩ := He.ba h
  refine ⟨?_, of_decide_eq_true h2, of_decide_eq_true h3, of_decide_eq_true h4, h5⟩
  split at h1
  · rename_i dd cd sl found
    split at h1
    · rename_i C' bm k0 k1 k2 k3 n k5 isMro isSl
      obtain ⟨e1, h1⟩ := He.ba h1
      obtain ⟨e2, h1⟩ := He.ba h1
      obtain ⟨e3, h1⟩ := He.ba h1
      obtain ⟨e4, e5⟩ := He.ba h1
      obtain rfl := beq_iff_eq.mp e1
      obtain rfl := beq_iff_eq.mp e2
      obtain ⟨nm, bs, mro, ns, qn, hd, sn, sub, ab, col, del⟩ := cd
      obtain ⟨l⟩ := sl
      dsimp only at isMro isSl e3 e4
      subst isMro isSl e4
      obtain rfl : del = false := by simpa using e3
      exact ⟨nm, qn, ns, bs, bm, sn, sub, ab, col, dd, k0, k1, k2, k3, k5, found, e5⟩
    · cases h1
  · cases h1
def excB (K : Frag) (D : Addr) : Bool := decide (findIn K (.ref D) "__getattribute__" = some (some (.builtin "BaseException.__getattribute__"))) && (decide (findIn K (.ref D) "__getattr__" = some none) && (decide (subIn K (.ref D) (.type "BaseException") = some true) && (hasDictIn K D &&
  (decide (findIn K (.ref D) "__class__" = some (some (.builtin "object.__class__"))) && (decide (specialIn K (.builtin "object.__class__") "__get__" = some (some (.builtin "getset_descriptor.__get__"))) && (decide (takesIn K (.builtin "object.__class__") = some true) && decide (mroIn K D (.type "object") = some true)))))))
theorem excB_ok {K : Frag} {D : Addr} (h : excB K D = true) : ExcC K D := by
  obtain ⟨h1, h⟩ := He.ba h
  obtain ⟨h2, h⟩ := He.ba h
  obtain ⟨h3, h⟩ := He.ba h
  obtain ⟨h4, h⟩ := He.ba h
  obtain ⟨h5, h⟩ := He.ba h
  obtain ⟨h6, h⟩ := He.ba h
  obtain ⟨h7, h8⟩ := He.ba h
  exact ⟨of_decide_eq_true h1, of_decide_eq_true h2, of_decide_eq_true h3, h4, of_decide_eq_true h5, of_decide_eq_true h6, of_decide_eq_true h7, of_decide_eq_true h8⟩
theorem xfC_of {K : Frag} {D : Addr} (h : ExcC K D) : XfC K D := ⟨h.hg, h.hk, h.hs, h.hd⟩
end
/-! ### constants of the top; heaps that part at one address alone; the laws' bag of draws -/
section
variable {X : Cx} {x : Str} {pos : Pos}
theorem pe_gint {i : Int} (h : ∃ t, X.mg x = some (.int i t)) (hg : Gl X x := by rfl) (hd : (x == ("__debug__" : Str)) = false := by decide) : PE X (.Name x pos) (tC (.int i)) := by
  obtain ⟨t, e⟩ := h
  exact pe_glob hg e ⟨t, rfl⟩ hd
theorem pe_gstr {z : Str} (h : ∃ t, X.mg x = some (.str z t)) (hg : Gl X x := by rfl) (hd : (x == ("__debug__" : Str)) = false := by decide) : PE X (.Name x pos) (tC (.str z)) := by
  obtain ⟨t, e⟩ := h
  exact pe_glob hg e ⟨t, rfl⟩ hd
end
/-- H' is H but at b -/
def Off (b : Addr) (H H' : Hp) : Prop := ∀ a, a ≠ b → H' a = H a
theorem Off.refl (b : Addr) (H : Hp) : Off b H H := fun _ _ => rfl
theorem Off.trans {b : Addr} {H H1 H2 : Hp} (h : Off b H H1) (h' : Off b H1 H2) : Off b H H2 := fun a n => (h' a n).trans (h a n)
theorem Off.upd {b : Addr} {H : Hp} {o : HO} : Off b H (upd H b o) := fun _ n => upd_ne n
theorem Off.at {b a : Addr} {H H' : Hp} {o : HO} (h : Off b H H') (n : a ≠ b) (e : H a = some o) : H' a = some o := (h a n).trans e
theorem same_new {H : Hp} {p : Addr} {o : HO} (h : H p = none) : Same H (upd H p o) := fun b x e => by
  rw [upd_ne (ne_of_none e h)]
  exact e
/-- all that was tracked, but for the object at b, is as it was -/
def Kb (b : Addr) (H H' : Hp) : Prop := ∀ a o, a ≠ b → H a = some o → H' a = some o
theorem Kb.refl (b : Addr) (H : Hp) : Kb b H H := fun _ _ _ e => e
theorem Kb.trans {b : Addr} {H H1 H2 : Hp} (h : Kb b H H1) (h' : Kb b H1 H2) : Kb b H H2 := fun a o n e => h' a o n (h a o n e)
theorem Off.kb {b : Addr} {H H' : Hp} (h : Off b H H') : Kb b H H' := fun _ _ n e => h.at n e
theorem Kb.of_same {b : Addr} {H H' : Hp} (h : Same H H') : Kb b H H' := fun a o _ e => h a o e
theorem kb_new {b : Addr} {H : Hp} {p : Addr} {o : HO} (h : H p = none) : Kb b H (L2.upd H p o) := .of_same (same_new h)
abbrev bagO (c : Addr) (p r k m : Int) : HO := .lst [.ref c, .int p, .int r, .int k, .int m]
/-- a bag at b, its cells at c, of which at most n draws were made -/
def BagAt (H : Hp) (b c : Addr) (n : Int) : Prop := ∃ (ns : List Int) (p : Nat) (r k m : Int), H b = some (bagO c p r k m) ∧ H c = some (.lst (ns.map V.int)) ∧ 0 ≤ k ∧ k ≤ n ∧ 0 ≤ m ∧ m < 2147483647
theorem BagAt.mono {H : Hp} {b c : Addr} {n n' : Int} (h : BagAt H b c n) (l : n ≤ n') : BagAt H b c n' := by
  obtain ⟨ns, p, r, k, m, h1, h2, h3, h4, h5, h6⟩ := h
  exact ⟨ns, p, r, k, m, h1, h2, h3, Int.le_trans h4 l, h5, h6⟩
theorem BagAt.there {H : Hp} {b c : Addr} {n : Int} (h : BagAt H b c n) : (∃ o, H b = some o) ∧ ∃ o, H c = some o := by
  obtain ⟨ns, p, r, k, m, h1, h2, _⟩ := h
  exact ⟨⟨_, h1⟩, _, h2⟩
theorem BagAt.new {H : Hp} {a b c : Addr} {n : Int} (h : BagAt H b c n) (na : H a = none) : a ≠ b ∧ a ≠ c := by
  obtain ⟨⟨_, h1⟩, _, h2⟩ := h.there
  exact ⟨(ne_of_none h1 na).symm, (ne_of_none h2 na).symm⟩
theorem BagAt.two {H : Hp} {b c : Addr} {n : Int} (h : BagAt H b c n) : c ≠ b := fun z => by
  obtain ⟨ns, p, r, k, m, h1, h2, _⟩ := h
  rw [z, h1] at h2
  cases ns with
  | nil => cases h2
  | cons n ns => cases h2
/-- the bag stays where what was tracked stays -/
theorem BagAt.same {H H' : Hp} {b c : Addr} {n : Int} (h : BagAt H b c n) (e : Same H H') : BagAt H' b c n := by
  obtain ⟨ns, p, r, k, m, h1, h2, h3⟩ := h
  exact ⟨ns, p, r, k, m, e _ _ h1, e _ _ h2, h3⟩
theorem BagAt.upd {H : Hp} {a b c : Addr} {n : Int} {o : HO} (h : BagAt H b c n) (nb : a ≠ b) (nc : a ≠ c) : BagAt (L2.upd H a o) b c n := by
  obtain ⟨ns, p, r, k, m, h1, h2, h3⟩ := h
  exact ⟨ns, p, r, k, m, by rw [upd_ne nb.symm]; exact h1, by rw [upd_ne nc.symm]; exact h2, h3⟩
theorem BagAt.updNew {H : Hp} {a b c : Addr} {n : Int} {o : HO} (h : BagAt H b c n) (na : H a = none) : BagAt (L2.upd H a o) b c n := h.upd (h.new na).1 (h.new na).2
/-- _law_bag(script) -/
def spBag (K : PySem.W.Frag) : Sp := fun vs H Q _ => ∃ (a : Addr) (ns : List Int), vs = [.ref a] ∧ SqL K H a (ns.map V.int) ∧ ∀ b c H', H b = none → H c = none → Same H H' → BagAt H' b c 0 → Q (.ref b) H'
/-- _law_draw(bag, limit): a number from 0 to limit - 1, the bag turned -/
def spDraw : Sp := fun vs H Q _ => ∃ (b c : Addr) (lim n : Int), vs = [.ref b, .int lim] ∧ BagAt H b c n ∧ 0 < lim ∧ lim < 2 ^ 200 ∧ n < 2 ^ 60 ∧ ∀ (r : Int) (H' : Hp), 0 ≤ r → r < lim → Off b H H' → BagAt H' b c (n + 1) → Q (.int r) H'
theorem cut63 {ns : List Int} : cutV (ns.map V.int) none (some 63) = (ns.take 63).map V.int := by
  unfold cutV
  rw [show HT.sIx (ns.map V.int).length (ns.map V.int).length (some 63) = min 63 (ns.map V.int).length from HT.sIx_nat _ _ 63, HT.sIx_none, List.drop_zero, Nat.sub_zero, ← List.map_take]
  congr 1
  rw [List.length_map, Nat.min_comm]
  by_cases h : ns.length ≤ 63
  · rw [Nat.min_eq_left h, List.take_of_length_le (Nat.le_refl _), List.take_of_length_le h]
  · rw [Nat.min_eq_right (by omega)]
/-! ### own exceptions whose __init__ stores its arguments, one a field -/
/-- __init__(self, ..) of the class at C keeps this: the fields are fs of the arguments -/
def spXI (C : Addr) (n : Nat) (fs : List V → List (Str × V)) : Sp := fun vs H Q _ => ∃ (a : Addr) (ws : List V), vs = .ref a :: ws ∧ ws.length = n ∧ H a = some (exo a C none) ∧
  ∀ dx, H dx = none → dx ≠ a → Q .non (L2.upd (L2.upd H dx (exd dx (fs ws))) a (exo a C (some dx)))
/-- C(e, ..): for every new d the error, its dict at d -/
def tMkF (C : Addr) (n : Nat) (fs : List V → List (Str × V)) (ta : TA) : L2.St → Hp → XK → Prop := fun σ H Q => ta σ H fun vs H1 => vs.length = n ∧ ∀ d, H1 d = none → Q (.ref C) (some d) (L2.upd H1 d (.xd (fs vs)))
theorem pmk_fld {X : Cx} {CX : CXT} {x : Str} {C fI : Addr} {k n : Nat} {fd : FuncData} {ps : List Str} {fs : List V → List (Str × V)} {e : Expr} {es : List Expr} {ta : TA} {p pos : Pos} (T : OexC X.K C) (iC : PySem.W.findIn X.K (.ref C) "__init__" = some (some (.ref fI))) (tI : PySem.W.typeIn X.K (.ref fI) = some (.type "function"))
    (F1 : FnOk X.prog X.w X.K X.mg X.base CX k fI fd ps (spXI C n fs)) (hr : Room (k + 1) X.A) (hb : Binds X.K fd ps []) (hx : Passes CX X (fun _ _ _ => False)) (hm : X.mg x = some (.ref C)) (hn : n ≤ 1000) (ha : PA X (e :: es) ta)
    (mono : ∀ σ H (R R' : List V → Hp → Prop), (∀ vs H1, R vs H1 → R' vs H1) → ta σ H R → ta σ H R') (hg : Gl X x := by rfl)
    (hdb : (x == ("__debug__" : Str)) = false := by decide) (he : starEach (e :: es) X.env = (false, eval e X.env) :: starEach es X.env := by rfl) (hpl : (backTo pos (starEach es X.env)).any (·.1) = false := by rfl) :
    PMk X (.Call (.Name x p) (e :: es) [] pos) (tMkF C n fs ta) := by
  have base := pmk_oex (p := p) (pos := pos) (dvs := []) (ds := []) T iC tI F1 hr hb .nil hx hg hm ha hdb he hpl
  intro pins s σ H Q I h
  refine base pins s σ H Q I (mono σ H _ _ (fun vs H1 q => ?_) h)
  obtain ⟨hl, q⟩ := q
  refine ⟨by omega, fun a na => ⟨a, vs, by rw [List.append_nil], hl, upd_same, fun dx nd ne => ⟨rfl, dx, fs vs, upd_same, by rw [upd_ne ne, upd_same], ?_, ?_⟩⟩⟩
  · rw [upd_ne ne] at nd
    exact nd
  · have nd1 : H1 dx = none := by
      rw [upd_ne ne] at nd
      exact nd
    have e : L2.upd (L2.del (L2.upd (L2.upd (L2.upd H1 a (exo a C none)) dx (exd dx (fs vs))) a (exo a C (some dx))) a) dx (.xd (fs vs)) = L2.upd H1 dx (.xd (fs vs)) := by
      funext b
      by_cases h1 : b = dx
      · rw [h1, upd_same, upd_same]
      · rw [upd_ne h1, upd_ne h1]
        by_cases h2 : b = a
        · rw [h2, del_same, na]
        · rw [del_ne h2, upd_ne h2, upd_ne h1, upd_ne h2]
    rw [e]
    exact q dx nd1
theorem xi_two {H : Hp} {a dx C : Addr} {f1 f2 : Str} {y1 y2 : V} (ne : dx ≠ a) : L2.upd (L2.upd (L2.upd H dx (exd dx [(f1, y1)])) a (exo a C (some dx))) dx (exd dx [(f2, y2), (f1, y1)]) = L2.upd (L2.upd H dx (exd dx [(f2, y2), (f1, y1)])) a (exo a C (some dx)) := by
  funext b
  by_cases h1 : b = dx
  · rw [h1, upd_same, upd_ne ne, upd_same]
  · by_cases h2 : b = a
    · rw [h2, upd_ne ne.symm, upd_same, upd_same]
    · rw [upd_ne h1, upd_ne h2, upd_ne h1, upd_ne h2, upd_ne h1]
/-! ### what a value is, by its built-in class -/
inductive Kn (H : Hp) : V → String → Prop
  | non : Kn H .non "NoneType"
  | bl (b : Bool) : Kn H (.bl b) "bool"
  | int (i : Int) : Kn H (.int i) "int"
  | str (x : Str) : Kn H (.str x) "str"
  | lst {a : Addr} {xs : List V} (e : H a = some (.lst xs)) : Kn H (.ref a) "list"
  | tup {a : Addr} {xs : List V} (e : H a = some (.tup xs)) : Kn H (.ref a) "tuple"
  | dct {a : Addr} {kvs : List (Key × V)} (e : H a = some (.dK kvs)) : Kn H (.ref a) "dict"
theorem Kn.ty {K : PySem.W.Frag} {H : Hp} {v : V} {T : String} (h : Kn H v T) : TyX K H v (.type T) := by
  cases h with
  | non => exact .base .non
  | bl b => exact .base (.bl b)
  | int i => exact .base (.int i)
  | str x => exact .base (.str x)
  | lst e => exact .base (.lst e)
  | tup e => exact .base (.tup e)
  | dct e => exact .base (.dK e)
def wholeV (v : V) (lo hi : Int) : Bool := match v with
  | .int i => decide (lo ≤ i) && decide (i ≤ hi)
  | _ => false
/-- an int, a truth, or neither -/
theorem Kn.whole {K : PySem.W.Frag} {H : Hp} {v : V} {T : String} (h : Kn H v T) : (∃ i, v = .int i ∧ PySem.W.kitOne K (.type T) (.type "int") = some true ∧ PySem.W.kitOne K (.type T) (.type "bool") = some false) ∨
    (((PySem.W.kitOne K (.type T) (.type "int") = some true ∧ PySem.W.kitOne K (.type T) (.type "bool") = some true) ∨ PySem.W.kitOne K (.type T) (.type "int") = some false) ∧ (∀ i, v ≠ .int i) ∧ ∀ lo hi, wholeV v lo hi = false) := by
  cases h with
  | int i => exact .inl ⟨i, rfl, kit_ty (by decide +kernel), kit_ty (by decide +kernel)⟩
  | bl b => exact .inr ⟨.inl ⟨kit_ty (by decide +kernel), kit_ty (by decide +kernel)⟩, (fun _ z => nomatch z), fun _ _ => rfl⟩
  | non => exact .inr ⟨.inr (kit_ty (by decide +kernel)), (fun _ z => nomatch z), fun _ _ => rfl⟩
  | str x => exact .inr ⟨.inr (kit_ty (by decide +kernel)), (fun _ z => nomatch z), fun _ _ => rfl⟩
  | lst e => exact .inr ⟨.inr (kit_ty (by decide +kernel)), (fun _ z => nomatch z), fun _ _ => rfl⟩
  | tup e => exact .inr ⟨.inr (kit_ty (by decide +kernel)), (fun _ z => nomatch z), fun _ _ => rfl⟩
  | dct e => exact .inr ⟨.inr (kit_ty (by decide +kernel)), (fun _ z => nomatch z), fun _ _ => rfl⟩
/-- isinstance(v, (list, tuple)) -/
def seqT (T : String) : Bool := decide (T = "list") || decide (T = "tuple")
theorem Kn.seq {K : PySem.W.Frag} {H : Hp} {v : V} {T : String} (h : Kn H v T) : PySem.W.kitAny K (.type T) [.type "list", .type "tuple"] = some (seqT T) := by
  have two : ∀ {a b : Bool}, PySem.W.kitOne K (.type T) (.type "list") = some a → PySem.W.kitOne K (.type T) (.type "tuple") = some b → PySem.W.kitAny K (.type T) [.type "list", .type "tuple"] = some (a || b) := fun {a b} e1 e2 =>
    kitAny_cons e1 (fun ea => by rw [ea]; exact kitAny_cons e2 (fun eb => by rw [eb]; exact kitAny_nil) (fun eb => by rw [eb]; rfl)) (fun ea => by rw [ea]; rfl)
  cases h with
  | int i => exact two (a := false) (b := false) (kit_ty (by decide +kernel)) (kit_ty (by decide +kernel))
  | bl b => exact two (a := false) (b := false) (kit_ty (by decide +kernel)) (kit_ty (by decide +kernel))
  | non => exact two (a := false) (b := false) (kit_ty (by decide +kernel)) (kit_ty (by decide +kernel))
  | str x => exact two (a := false) (b := false) (kit_ty (by decide +kernel)) (kit_ty (by decide +kernel))
  | lst e => exact two (a := true) (b := false) (kit_ty (by decide +kernel)) (kit_ty (by decide +kernel))
  | tup e => exact two (a := false) (b := true) (kit_ty (by decide +kernel)) (kit_ty (by decide +kernel))
  | dct e => exact two (a := false) (b := false) (kit_ty (by decide +kernel)) (kit_ty (by decide +kernel))
/-- the items of a list or a tuple; none of another thing -/
def seqOf (H : Hp) : V → Option (List V)
  | .ref a => match H a with
    | some (.lst xs) => some xs
    | some (.tup xs) => some xs
    | _ => none
  | _ => none
theorem Kn.seqSome {H : Hp} {v : V} {T : String} (h : Kn H v T) : (seqT T = true ∧ ∃ a xs, v = .ref a ∧ seqOf H v = some xs ∧ ((H a = some (.lst xs)) ∨ H a = some (.tup xs))) ∨ (seqT T = false ∧ seqOf H v = none) := by
  cases h with
  | @lst a xs e => exact .inl ⟨rfl, a, xs, rfl, by simp only [seqOf, e], .inl e⟩
  | @tup a xs e => exact .inl ⟨rfl, a, xs, rfl, by simp only [seqOf, e], .inr e⟩
  | dct e => exact .inr ⟨rfl, by simp only [seqOf, e]⟩
  | int i => exact .inr ⟨rfl, rfl⟩
  | bl b => exact .inr ⟨rfl, rfl⟩
  | non => exact .inr ⟨rfl, rfl⟩
  | str x => exact .inr ⟨rfl, rfl⟩
theorem seqOf_lst {H : Hp} {a : Addr} {xs : List V} (h : H a = some (.lst xs)) : seqOf H (.ref a) = some xs := by simp only [seqOf, h]
theorem seqOf_tup {H : Hp} {a : Addr} {xs : List V} (h : H a = some (.tup xs)) : seqOf H (.ref a) = some xs := by simp only [seqOf, h]
theorem Kn.keep {H H' : Hp} {v : V} {T : String} (h : Kn H v T) (k : ∀ a o, v = .ref a → H a = some o → H' a = some o) : Kn H' v T := by
  cases h with
  | non => exact .non
  | bl b => exact .bl b
  | int i => exact .int i
  | str x => exact .str x
  | lst e => exact .lst (k _ _ rfl e)
  | tup e => exact .tup (k _ _ rfl e)
  | dct e => exact .dct (k _ _ rfl e)
theorem Kn.same {H H' : Hp} {v : V} {T : String} (h : Kn H v T) (k : Same H H') : Kn H' v T := h.keep fun a o _ e => k a o e
theorem Kn.seqOf {H H' : Hp} {v : V} {T : String} (h : Kn H v T) (k : Same H H') : seqOf H' v = Q.seqOf H v := by
  cases h with
  | lst e => simp only [Q.seqOf, k _ _ e, e]
  | tup e => simp only [Q.seqOf, k _ _ e, e]
  | dct e => simp only [Q.seqOf, k _ _ e, e]
  | _ => rfl
theorem seqOf_same {H H' : Hp} {v : V} {xs : List V} (h : seqOf H v = some xs) (k : Same H H') : seqOf H' v = some xs := by
  cases v with
  | ref a =>
    simp only [seqOf] at h ⊢
    cases e : H a with
    | none => rw [e] at h; cases h
    | some o =>
      rw [k _ _ e]
      rw [e] at h
      exact h
  | _ => cases h
/-- is_whole(thing, low, high), all three given -/
def spWhole : Sp := fun vs H Q _ => ∃ (v : V) (lo hi : Int) (T : String), vs = [v, .int lo, .int hi] ∧ Kn H v T ∧ Q (.bl (wholeV v lo hi)) H
/-! ### a list or a tuple, whichever -/
def Sq (K : PySem.W.Frag) (H : Hp) (a : Addr) (xs : List V) : Prop := SqL K H a xs ∨ SqT K H a xs
theorem sq_of {K : PySem.W.Frag} {H : Hp} {a : Addr} {xs : List V} (h : H a = some (.lst xs) ∨ H a = some (.tup xs)) : Sq K H a xs := h.elim (fun e => .inl (SqL.of e)) fun e => .inr (SqT.of e)
theorem sqT_same {K : PySem.W.Frag} {H H' : Hp} {a : Addr} {xs : List V} (e : Same H H') (h : SqT K H a xs) : SqT K H' a xs := by
  rcases h with (h | ⟨o, h⟩) | h
  · exact .inl (.inl (e _ _ h))
  · exact .inl (.inr ⟨o, e _ _ h⟩)
  · exact .inr h
theorem Sq.same {K : PySem.W.Frag} {H H' : Hp} {a : Addr} {xs : List V} (h : Sq K H a xs) (e : Same H H') : Sq K H' a xs := h.elim (fun z => .inl (e.seq z)) fun z => .inr (sqT_same e z)
theorem rix_of {K : PySem.W.Frag} {H : Hp} {a : Addr} {xs : List V} {i : Int} {v : V} {R : VK} (h : Sq K H a xs) (e : atI xs i = some v) (q : R v H) : rIx K (.ref a) (.int i) H R :=
  h.elim (fun z => .inl ⟨a, xs, i, v, rfl, rfl, z, e, q⟩) fun z => .inr (.inl ⟨a, xs, i, v, rfl, rfl, z, e, q⟩)
@[irreducible] def rTupOf (K : PySem.W.Frag) : List V → Hp → VK → Prop := fun xs H R => ∃ p ys, xs = [V.ref p] ∧ ((SqL K H p ys ∧ ∀ l, H l = none → R (.ref l) (L2.upd H l (.tup ys))) ∨ (SqT K H p ys ∧ R (.ref p) H))
theorem call_tupOf {X : Cx} : CallR X (.type "tuple") (rTupOf X.K) := by
  unfold rTupOf
  exact call_tuple_of
theorem tupOf_of {K : PySem.W.Frag} {H : Hp} {a : Addr} {xs : List V} {R : VK} (h : Sq K H a xs) (q : ∀ (l : Addr) (H' : Hp), SqT K H' l xs → Same H H' → (∀ b, H b = none → b ≠ l → H' b = none) → R (.ref l) H') : rTupOf K [.ref a] H R := by
  unfold rTupOf
  exact ⟨a, xs, rfl, h.elim (fun z => .inl ⟨z, fun l hl => q l _ (SqT.of upd_same) (same_new hl) fun b e n => by rw [upd_ne n]; exact e⟩) fun z => .inr ⟨z, q a H z (Same.refl H) fun b e _ => e⟩⟩
/-! ### rows of whole numbers as data -/
theorem dpAll_ints {K : PySem.W.Frag} {H : Hp} : ∀ ns : List Int, DpAll K H (ns.map V.int) (ns.map PyData.int)
  | [] => .nil
  | n :: ns => .cons (.int n) (dpAll_ints ns)
theorem lay_ints : ∀ ns : List Int, PyData.canLayAll0 (ns.map PyData.int) = true
  | [] => rfl
  | n :: ns => by
    show (true && PyData.canLayAll0 (ns.map PyData.int)) = true
    rw [lay_ints ns]
    rfl
theorem depth_ints : ∀ ns : List Int, PyData.depthAll (ns.map PyData.int) = 0
  | [] => rfl
  | n :: ns => by
    show max 0 (PyData.depthAll (ns.map PyData.int)) = 0
    rw [depth_ints ns]
    rfl
theorem shaped_ints (ns : List Int) : SeqAt.shaped (.tuple (ns.map PyData.int)) = true := by
  show (PyData.canLayAll0 (ns.map PyData.int) && decide (PyData.depthAll (ns.map PyData.int) + 1 ≤ 64)) = true
  rw [lay_ints, depth_ints]
  rfl
theorem eqvAll_ints : ∀ ns ms : List Int, PyData.eqvAll (ns.map PyData.int) (ms.map PyData.int) = decide (ns = ms)
  | [], [] => rfl
  | [], _ :: _ => rfl
  | _ :: _, [] => rfl
  | n :: ns, m :: ms => by
    show ((n == m) && PyData.eqvAll (ns.map PyData.int) (ms.map PyData.int)) = _
    rw [eqvAll_ints ns ms]
    by_cases h : n = m
    · subst h
      rw [beq_self_eq_true, Bool.true_and]
      by_cases h2 : ns = ms
      · rw [decide_eq_true h2, h2]
        exact (decide_eq_true rfl).symm
      · rw [decide_eq_false h2]
        exact (decide_eq_false fun z => h2 (List.cons.inj z).2).symm
    · rw [beq_eq_false_iff_ne.mpr h, Bool.false_and]
      exact (decide_eq_false fun z => h (List.cons.inj z).1).symm
theorem eqv_ints (ns ms : List Int) : PyData.eqv (.tuple (ns.map PyData.int)) (.tuple (ms.map PyData.int)) = decide (ns = ms) := eqvAll_ints ns ms
theorem dp_ints {K : PySem.W.Frag} {H : Hp} {p : Addr} {ns : List Int} (h : SqT K H p (ns.map V.int)) : Dp K H (.ref p) (.tuple (ns.map PyData.int)) := .tup h (dpAll_ints ns)
theorem ix_nat {n j : Nat} (h : j < n) : ixN n (j : Int) = some j := by
  unfold ixN
  rw [if_pos (by omega), if_pos (by omega), Int.toNat_natCast]
/-- tuple(a list that stands) is new -/
theorem tupL_of {K : PySem.W.Frag} {H : Hp} {a : Addr} {xs : List V} {R : VK} (h : SqL K H a xs) (q : ∀ l : Addr, H l = none → R (.ref l) (L2.upd H l (.tup xs))) : rTupOf K [.ref a] H R := by
  unfold rTupOf
  exact ⟨a, xs, rfl, .inl ⟨h, q⟩⟩
/-! ### data stand where what was tracked stands -/
mutual
theorem dp_same {K : PySem.W.Frag} {H H' : Hp} (e : Same H H') : ∀ (d : PyData) (v : V), Dp K H v d → Dp K H' v d
  | .none, _, h => by
    cases h
    exact .non
  | .bool b, _, h => by
    cases h
    exact .bl b
  | .int i, _, h => by
    cases h
    exact .int i
  | .str x, _, h => by
    cases h
    exact .str x
  | .list ds, _, h => by
    cases h with
    | lst s a => exact .lst (e.seq s) (dpAll_same e ds _ a)
  | .tuple ds, _, h => by
    cases h with
    | tup s a => exact .tup (sqT_same e s) (dpAll_same e ds _ a)
  | .dict _, _, h => by cases h
theorem dpAll_same {K : PySem.W.Frag} {H H' : Hp} (e : Same H H') : ∀ (ds : List PyData) (vs : List V), DpAll K H vs ds → DpAll K H' vs ds
  | [], _, h => by
    cases h
    exact .nil
  | d :: ds, _, h => by
    cases h with
    | cons a b => exact .cons (dp_same e d _ a) (dpAll_same e ds _ b)
end
end Q

set_option maxRecDepth 100000
set_option maxHeartbeats 4000000
/-! Loops and zips over a list or a tuple, whichever it is. -/
namespace Q
open PySem PySem.Spec PyProof.Rows L2
/-- a list (true), a tuple (false) -/
def SqB (k : Bool) (K : PySem.W.Frag) (H : Hp) (a : Addr) (xs : List V) : Prop := match k with
  | true => SqL K H a xs
  | false => SqT K H a xs
theorem Sq.b {K : PySem.W.Frag} {H : Hp} {a : Addr} {xs : List V} (h : Sq K H a xs) : ∃ k, SqB k K H a xs := h.elim (fun z => ⟨true, z⟩) fun z => ⟨false, z⟩
theorem SqB.sq {k : Bool} {K : PySem.W.Frag} {H : Hp} {a : Addr} {xs : List V} (h : SqB k K H a xs) : Sq K H a xs := match k, h with
  | true, h => .inl h
  | false, h => .inr h
theorem SqB.same {k : Bool} {K : PySem.W.Frag} {H H' : Hp} {a : Addr} {xs : List V} (h : SqB k K H a xs) (e : Same H H') : SqB k K H' a xs := match k, h with
  | true, h => e.seq h
  | false, h => sqT_same e h
def ItS (k : Bool) (K : PySem.W.Frag) (a : Addr) : It := match k with
  | true => Itl K a
  | false => Itt K a
def iSeq (K : PySem.W.Frag) (tl : TE) : TI := fun σ H R => tl σ H fun x H1 => ∃ a xs k, x = .ref a ∧ SqB k K H1 a xs ∧ R (ItS k K a) H1
section
variable {X : Cx} {tg : Expr}
theorem pi_seq {l : Expr} {tl : TE} (hl : PE X l tl) : PI X tg l (iSeq X.K tl) := by
  refine ⟨fun pins s σ H R I h => ?_⟩
  refine thn (hl.run pins s σ H _ I h) fun v s1 ⟨x, H1, I1, r1, q1⟩ => ?_
  obtain ⟨a, xs, k, e, hq, q⟩ := q1
  subst e
  cases r1
  have new : ∀ b ∈ [s1.heap.objs.size], FpOk X pins H1 b := fun b hb => by
    have e : b = s1.heap.objs.size := by simpa using hb
    subst e
    exact I1.fpOk (Nat.le_refl _) (I1.hok.fresh (Nat.le_refl _))
  cases k with
  | true =>
    obtain ⟨its, rv, p, hz⟩ := I1.list hq
    refine wpAny_pyIter_list p.isList ?_
    exact ⟨s1.heap.objs.size, [s1.heap.objs.size], _, _, H1, rfl, I1.kept (t' := s1.toks) fun b o e => Heap.get?_push_of_some _ e, turn_list a _, ⟨_, Heap.get?_push_size _ rfl, rfl, rfl⟩, new, q⟩
  | false =>
    obtain ⟨its, rv, p, hz⟩ := I1.tuple hq
    refine wpAny_pyIter_tuple (show s1.heap.IsTuple a its.toArray from p) ?_
    exact ⟨s1.heap.objs.size, [s1.heap.objs.size], _, _, H1, rfl, I1.kept (t' := s1.toks) fun b o e => Heap.get?_push_of_some _ e, turn_tuple a _, ⟨_, Heap.get?_push_size _ rfl, rfl, rfl⟩, new, q⟩
end
theorem for_seq {K : PySem.W.Frag} {k : Bool} {a : Addr} {xs : List V} {g : TG} {tb : TS} {D : Ends} {σ : L2.St} {H : Hp} (Pv : Nat → L2.St → Hp → Prop) (h0 : Pv 0 σ H) (hl : ∀ i σ H, i ≤ xs.length → Pv i σ H → SqB k K H a xs)
    (hs : ∀ i x σ H, xs[i]? = some x → Pv i σ H → g x σ H fun σ2 H2 => tb { D with nx := Pv (i + 1), ct := Pv (i + 1), bk := D.nx } σ2 H2) (hd : ∀ σ H, Pv xs.length σ H → D.nx σ H) :
    ∃ W : Nat → Nat → L2.St → Hp → Prop, (∃ m, W 0 m σ H) ∧ ∀ i m σ H, W i m σ H →
      ((ItS k K a).stop i H ∧ D.nx σ H) ∨ ((ItS k K a).go i H ∧ ∃ N : L2.St → Hp → Prop, (∀ σ' H', N σ' H' → ∃ m', m' < m ∧ W (i + 1) m' σ' H') ∧ ∀ x H', (ItS k K a).yld i H x H' → g x σ H' fun σ2 H2 => tb { D with nx := N, ct := N, bk := D.nx } σ2 H2) := by
  cases k with
  | true => exact for_list Pv h0 hl hs hd
  | false => exact for_tup Pv h0 hl hs hd
/-! ### zip -/
def itB (k : Bool) (h : Heap) (it l : Addr) (i : Nat) : Prop := match k with
  | true => h.IsListIter it l i
  | false => h.IsTupleIter it l i
def isB (k : Bool) (h : Heap) (l : Addr) (its : List Value) : Prop := match k with
  | true => h.IsList l its.toArray
  | false => h.IsTuple l its.toArray
theorem drawsB {P : Program} {w : World} {A : Around} {k : Bool} {it l : Addr} {its : List Value} (hh : A.handled = none) (ne : l ≠ it) :
    Draws P w A it [it, l] its.length (fun i v => its[i]? = some v) (fun i h => itB k h it l i ∧ isB k h l its) := by
  cases k with
  | true =>
    have D := Draws.list (prog := P) (w := w) hh it l ne its.toArray
    simp only [List.size_toArray, List.getElem?_toArray] at D
    exact D
  | false =>
    have D := Draws.tuple (prog := P) (w := w) hh it l ne its.toArray
    simp only [List.size_toArray, List.getElem?_toArray] at D
    exact D
theorem seqB {X : Cx} {pins : List (Addr × Obj)} {σ : L2.St} {H : Hp} {s : Shared} {k : Bool} {a : Addr} {xs : List V} (I : Inv X pins σ H s) (h : SqB k X.K H a xs) : ∃ its, Vals xs its ∧ isB k s.heap a its ∧ a < s.heap.objs.size := by
  cases k with
  | true =>
    obtain ⟨its, rv, p, _⟩ := I.list h
    exact ⟨its, rv, p.isList, p.lt⟩
  | false =>
    obtain ⟨its, rv, p, _⟩ := I.tuple h
    obtain ⟨o, ho, _⟩ := id p
    exact ⟨its, rv, p, Heap.lt_size ho⟩
theorem seqB_inj {X : Cx} {pins : List (Addr × Obj)} {σ : L2.St} {H : Hp} {s : Shared} {k : Bool} {a : Addr} {xs ys : List V} (I : Inv X pins σ H s) (h : SqB k X.K H a xs) (h' : SqB k X.K H a ys) : ys = xs := by
  cases k with
  | true => exact I.list_inj h' h
  | false => exact I.tuple_inj h' h
/-- the two as they stand at each turn, the items in new pairs -/
def ItzS (k1 k2 : Bool) (K : PySem.W.Frag) (a b : Addr) : It :=
  ⟨fun i H => ∃ (xs ys : List V) (x y : V), SqB k1 K H a xs ∧ SqB k2 K H b ys ∧ xs[i]? = some x ∧ ys[i]? = some y,
    fun i H v H' => ∃ T x y, v = .ref T ∧ H T = none ∧ H' = upd H T (.tup [x, y]) ∧ (∀ xs, SqB k1 K H a xs → xs[i]? = some x) ∧ ∀ ys, SqB k2 K H b ys → ys[i]? = some y,
    fun i H => ∃ xs ys : List V, SqB k1 K H a xs ∧ SqB k2 K H b ys ∧ xs.length = i ∧ ys.length = i⟩
theorem itB_at {k : Bool} {h h' : Heap} {it l : Addr} {i : Nat} (st : itB k h it l i) (q : ∀ o, h.get? it = some o → h'.get? it = some o) : itB k h' it l i := by
  cases k with
  | true => exact Heap.IsListIter.at st q
  | false => exact Heap.IsTupleIter.at st q
theorem itB_ob {k : Bool} {h : Heap} {it l : Addr} {i : Nat} (st : itB k h it l i) : ∃ o, h.get? it = some o ∧ ∀ v, o.data ≠ .cell v := by
  cases k with
  | true =>
    obtain ⟨o, e, _, d⟩ := st
    exact ⟨o, e, fun v q => by rw [d] at q; cases q⟩
  | false =>
    obtain ⟨o, e, _, d⟩ := st
    exact ⟨o, e, fun v q => by rw [d] at q; cases q⟩
theorem turn_zipS {P : Program} {w : World} {K : PySem.W.Frag} {elts : List Expr} {kk : Nat} {tpos : Pos} {k1 k2 : Bool} {a b z TI TO i1 i2 : Addr} (S : ZipSep2 z TI TO i1 i2 [i1, a] [i2, b]) (n1 : a ≠ i1) (n2 : b ≠ i2) :
    Turn P w K (.Tuple elts kk tpos) (ItzS k1 k2 K a b) [z, TI, TO, i1, i2] z (fun i h => IsZip h z TI TO .none ∧ IsTupOf2 h TI (.ref i1) (.ref i2) ∧ (∃ x y, IsTupOf2 h TO x y) ∧ itB k1 h i1 a i ∧ itB k2 h i2 b i) where
  mem := by simp
  obj := fun i h st c hc => by
    obtain ⟨hz, hTI, ⟨x, y, hTO⟩, t1, t2⟩ := st
    have e' : c = z ∨ c = TI ∨ c = TO ∨ c = i1 ∨ c = i2 := by simpa using hc
    rcases e' with rfl | rfl | rfl | rfl | rfl
    · exact ⟨_, hz, fun v q => nomatch q⟩
    · exact ⟨_, hTI, fun v q => nomatch q⟩
    · exact ⟨_, hTO, fun v q => nomatch q⟩
    · exact itB_ob t1
    · exact itB_ob t2
  keep := fun i h h' st k => by
    obtain ⟨hz, hTI, ⟨x, y, hTO⟩, h1, h2⟩ := st
    exact ⟨k z (by simp) _ hz, k TI (by simp) _ hTI, ⟨x, y, k TO (by simp) _ hTO⟩, itB_at h1 fun o q => k i1 (by simp) o q, itB_at h2 fun o q => k i2 (by simp) o q⟩
  item := by
    intro X hP hw hK hc i pins s σ H E I hf st hg
    subst hP hw hK
    obtain ⟨hz, hTI, ⟨x0, y0, hTO⟩, h1, h2⟩ := st
    obtain ⟨xs, ys, x, y, hqx, hqy, hx, hy⟩ := hg
    obtain ⟨its, rv, p, _⟩ := seqB I hqx
    obtain ⟨its2, rv2, p2, _⟩ := seqB I hqy
    obtain ⟨u, hu, ru⟩ := rv.get hx
    obtain ⟨u2, hu2, ru2⟩ := rv2.get hy
    have hzl : z < s.heap.objs.size := Heap.lt_size hz
    have hh : X.A.in1.handled = none := I.ok.hd hc
    refine wpAny_pyNext_zipD2_item S (drawsB (k := k1) (its := its) hh n1) (drawsB (k := k2) (its := its2) hh n2) hz hTI hTO ⟨h1, p⟩ ⟨h2, p2⟩ (List.getElem?_eq_some_iff.mp hu).1 (List.getElem?_eq_some_iff.mp hu2).1
      fun v1 v2 h' tk e1 e2 z' TO' st1 st2 hT hsz hk => ?_
    obtain rfl : u = v1 := Option.some.inj (hu.symm.trans e1)
    obtain rfl : u2 = v2 := Option.some.inj (hu2.symm.trans e2)
    refine ⟨_, rfl, wpAny_letOwnedTupleGo_zip (s := { s with heap := h', toks := tk }) z' fun h'' z'' sb => ?_⟩
    have hT2 : h''.get? s.heap.objs.size = some { cls := .type "tuple", data := .seq #[u, u2] } := (sb.2 _ (Nat.ne_of_gt hzl)).trans hT
    have new : ObjOk X.prog X.w (upd H s.heap.objs.size (.tup [x, y])) h'' s.heap.objs.size (.tup [x, y]) :=
      ⟨by show 2 ≤ sizeLine; decide, [u, u2], .cons ru (.cons ru2 .nil), ⟨_, hT2, rfl, _, rfl⟩⟩
    have I1 : Inv X pins σ (upd H s.heap.objs.size (.tup [x, y])) { s with heap := h'', toks := tk } :=
      I.turnedNew (t' := tk) (ch := [z, TI, TO, i1, i2]) (fun c o hb q => (sb.2 c (fun q' => hb (by simp [q']))).trans (hk c o (fun q' => hb (by simp [q'])) (fun q' => hb (by simp [q'])) (fun q' => hb (by simp [q'])) (fun q' => hb (by simp [q'])) q)) hf (Nat.le_refl _) new
    refine ⟨.ref s.heap.objs.size, _, I1, rfl, ⟨_, x, y, rfl, I.hok.fresh (Nat.le_refl _), rfl, fun l hl => by rw [seqB_inj I hqx hl]; exact hx, fun l hl => by rw [seqB_inj I hqy hl]; exact hy⟩, ⟨z'', ?_, ⟨u, u2, ?_⟩, ?_, ?_⟩, fun c hcm => ?_⟩
    · exact (sb.2 _ S.TIz).trans (hk _ _ S.TIz S.TITO S.TIi1 S.TIi2 hTI)
    · exact (sb.2 _ S.TOz).trans TO'
    · exact itB_at st1.1 fun o q => (sb.2 _ S.zi1.symm).trans q
    · exact itB_at st2.1 fun o q => (sb.2 _ S.zi2.symm).trans q
    · have hlt : c < s.heap.objs.size := by
        have e' : c = z ∨ c = TI ∨ c = TO ∨ c = i1 ∨ c = i2 := by simpa using hcm
        rcases e' with rfl | rfl | rfl | rfl | rfl
        · exact hzl
        · exact Heap.lt_size hTI
        · exact Heap.lt_size hTO
        · obtain ⟨_, e1, _⟩ := itB_ob h1; exact Heap.lt_size e1
        · obtain ⟨_, e1, _⟩ := itB_ob h2; exact Heap.lt_size e1
      rw [upd_ne (Nat.ne_of_lt hlt)]
      exact (hf c hcm).1
  done := by
    intro X hP hw hK hc i pins s σ H E I hf st hg
    subst hP hw hK
    obtain ⟨hz, hTI, ⟨x0, y0, hTO⟩, h1, h2⟩ := st
    obtain ⟨xs, ys, hqx, hqy, e1, e2⟩ := hg
    obtain ⟨its, rv, p, _⟩ := seqB I hqx
    obtain ⟨its2, rv2, p2, _⟩ := seqB I hqy
    have l1 := rv.length
    have l2 := rv2.length
    have hh : X.A.in1.handled = none := I.ok.hd hc
    exact wpAny_pyNext_zipD2_end S (drawsB (k := k1) (its := its) hh n1) (drawsB (k := k2) (its := its2) hh n2) hz hTI hTO ⟨h1, p⟩ ⟨h2, p2⟩ (by omega) (by omega) (.inl (by omega)) fun h' tk hk => ⟨rfl, I.turnedL (t' := tk) (ch := [z, TI, TO, i1, i2]) (fun c o hb q =>
      hk c o (fun q' => hb (by simp [q'])) (fun q' => hb (by simp [q'])) (fun q' => hb (by simp [q'])) (fun q' => hb (by simp [q'])) q) hf⟩
  self := fun A i s Q E st h => wpAny_pyIter_zip st.1 h
def obB (k : Bool) (l : Addr) : Obj := match k with
  | true => { cls := .type "list_iterator", data := .fields #[.ref l, .int 0 0] }
  | false => { cls := .type "tuple_iterator", data := .fields #[.ref l, .int 0 0] }
theorem beginsB {k : Bool} {l : Addr} {its : List Value} : Begins (.ref l) (obB k l) fun h => isB k h l its := by
  cases k with
  | true => exact begins_list l its.toArray
  | false => exact begins_tuple l its.toArray
theorem itB_new {k : Bool} {h : Heap} {it l : Addr} (e : h.get? it = some (obB k l)) : itB k h it l 0 := by
  cases k with
  | true => exact ⟨_, e, rfl, rfl⟩
  | false => exact ⟨_, e, rfl, rfl⟩
def iZipS (K : PySem.W.Frag) (ta : TA) : TI := fun σ H R => ta σ H fun vs H1 => ∃ a b xs ys k1 k2, vs = [.ref a, .ref b] ∧ SqB k1 K H1 a xs ∧ SqB k2 K H1 b ys ∧ R (ItzS k1 k2 K a b) H1
theorem pi_zipS {X : Cx} {e e2 : Expr} {ta : TA} {p pos tpos : Pos} {elts : List Expr} {kk : Nat} (hg : Gl X "zip") (hm : X.mg "zip" = none) (ha : PA X [e, e2] ta)
    (hs : starEach [e, e2] X.env = (false, eval e X.env) :: starEach [e2] X.env := by rfl) (hpl : (backTo pos (starEach [e2] X.env)).any (·.1) = false := by rfl) :
    PI X (.Tuple elts kk tpos) (.Call (.Name "zip" p) [e, e2] [] pos) (iZipS X.K ta) := by
  refine ⟨fun pins s σ H R I h => ?_⟩
  refine Call_ (ld_blt I hg hm PyProof.Rows.boot_zip (PyProof.Rows.callWith_type1 (thn (ha.run pos pins s σ H _ I h) fun us s1 ⟨vs, H1, I1, r1, q1⟩ => ?_) hs hpl))
  obtain ⟨a, b, xs, ys, k1, k2, rfl, hqx, hqy, q⟩ := q1
  obtain ⟨u1, u2, rfl, rr1, rr2⟩ := vals2 r1
  obtain rfl : u1 = Value.ref a := rr1
  obtain rfl : u2 = Value.ref b := rr2
  obtain ⟨its, rv, p1, la⟩ := seqB I1 hqx
  obtain ⟨its2, rv2, p2, lb⟩ := seqB I1 hqy
  refine zip_begins2 (beginsB (k := k1)) (beginsB (k := k2)) p1 p2 fun h' hz hTI hTO g1 g2 hsz hk => wpAny_pyIter_zip hz ?_
  have I2 : Inv X pins σ H1 { s1 with heap := h' } := I1.kept (t' := s1.toks) hk
  refine ⟨s1.heap.objs.size + 4, [s1.heap.objs.size + 4, s1.heap.objs.size + 2, s1.heap.objs.size + 3, s1.heap.objs.size, s1.heap.objs.size + 1], _, _, H1, rfl, I2,
    turn_zipS (zip_sep2 (fp1 := [a]) (fp2 := [b]) (fun c hc => by obtain rfl := List.mem_singleton.mp hc; exact la) (fun c hc => by obtain rfl := List.mem_singleton.mp hc; exact lb)) (Nat.ne_of_lt la) (Nat.ne_of_lt (Nat.lt_succ_of_lt lb)), ⟨hz, hTI, ⟨_, _, hTO⟩, itB_new g1, itB_new g2⟩, fun c hcm => ?_, q⟩
  have e' : c = s1.heap.objs.size + 4 ∨ c = s1.heap.objs.size + 2 ∨ c = s1.heap.objs.size + 3 ∨ c = s1.heap.objs.size ∨ c = s1.heap.objs.size + 1 := by simpa using hcm
  have hle : s1.heap.objs.size ≤ c := by
    rcases e' with z | z | z | z | z
    · rw [z]; exact Nat.le_add_right _ _
    · rw [z]; exact Nat.le_add_right _ _
    · rw [z]; exact Nat.le_add_right _ _
    · rw [z]; exact Nat.le_refl _
    · rw [z]; exact Nat.le_add_right _ _
  exact I1.fpOk hle (I1.hok.fresh hle)
/-- a loop over zip of two of one length -/
theorem for_zipS {K : PySem.W.Frag} {k1 k2 : Bool} {a b : Addr} {xs ys : List V} {g : TG} {tb : TS} {D : Ends} {σ : L2.St} {H : Hp} (hl : xs.length = ys.length) (Pv : Nat → L2.St → Hp → Prop) (h0 : Pv 0 σ H) (hq : ∀ i σ H, Pv i σ H → SqB k1 K H a xs ∧ SqB k2 K H b ys)
    (hs : ∀ (i : Nat) (x y : V) (T : Addr) (σ : L2.St) (H : Hp), xs[i]? = some x → ys[i]? = some y → Pv i σ H → H T = none → g (.ref T) σ (upd H T (.tup [x, y])) fun σ2 H2 => tb { D with nx := Pv (i + 1), ct := Pv (i + 1), bk := D.nx } σ2 H2) (hd : ∀ σ H, Pv xs.length σ H → D.nx σ H) :
    ∃ W : Nat → Nat → L2.St → Hp → Prop, (∃ m, W 0 m σ H) ∧ ∀ i m σ H, W i m σ H →
      ((ItzS k1 k2 K a b).stop i H ∧ D.nx σ H) ∨ ((ItzS k1 k2 K a b).go i H ∧ ∃ N : L2.St → Hp → Prop, (∀ σ' H', N σ' H' → ∃ m', m' < m ∧ W (i + 1) m' σ' H') ∧ ∀ v H', (ItzS k1 k2 K a b).yld i H v H' → g v σ H' fun σ2 H2 => tb { D with nx := N, ct := N, bk := D.nx } σ2 H2) := by
  refine ⟨fun i m σ H => m = xs.length - i ∧ i ≤ xs.length ∧ Pv i σ H, ⟨xs.length, rfl, Nat.zero_le _, h0⟩, ?_⟩
  rintro i m σ H ⟨rfl, hi, p⟩
  obtain ⟨qx, qy⟩ := hq i σ H p
  by_cases hlt : i < xs.length
  · have hx : xs[i]? = some xs[i] := List.getElem?_eq_getElem hlt
    have hlt2 : i < ys.length := by omega
    have hy : ys[i]? = some ys[i] := List.getElem?_eq_getElem hlt2
    refine .inr ⟨⟨xs, ys, _, _, qx, qy, hx, hy⟩, Pv (i + 1), fun σ' H' p' => ⟨xs.length - (i + 1), by omega, rfl, hlt, p'⟩, fun v H' y => ?_⟩
    obtain ⟨T, x', y', rfl, hT, rfl, f1, f2⟩ := y
    exact hs i x' y' T σ H (f1 xs qx) (f2 ys qy) p hT
  · obtain rfl : i = xs.length := by omega
    exact .inl ⟨⟨xs, ys, qx, qy, rfl, by omega⟩, hd σ H p⟩
end Q

set_option maxRecDepth 100000
set_option maxHeartbeats 4000000
/-! More that the laws share: own errors without arguments, repr of any data, small data, whole numbers in rows. -/
namespace Q
open PySem PySem.Spec PyProof.Rows L2
/-- X(), X an own exception class without own __init__ -/
theorem pmk_own0 {X : Cx} {C : Addr} {x : Str} {p pos : Pos} (q : PySem.W.excIn X.K C He.veBase "ValueError.__new__" = true) (gC : X.mg x = some (.ref C)) (kC : PySem.W.keepIn X.K (.ref C) = true) (r : Raises X (.ref C)) (hg : Gl X x := by rfl)
    (hdb : (x == ("__debug__" : Str)) = false := by decide) : PMk X (.Call (.Name x p) [] [] pos) (fun _ H Q => Q (.ref C) none H) := by
  intro pins s σ H Q I h
  refine wpAny_Call_Name_kw (ld_glob I hg gC ?_ hdb)
  refine PySem.W.callWith_K0 I.kIn kC ?_
  show wpAny _ _ (call (.ref C) []) _ _ _
  obtain ⟨bm, N, nm, qn, bs, hdct, sn, sub, ab, col, dd, k0, k1, k2, k3, k5, mN, hC, hN, hni, T⟩ := exc_obj I.kIn q
  refine wpAny_call_exc_subT PySem.F.excBase_ValueError T hC hN hni (fun h' e hm => ?_) (by show 0 ≤ sizeLine; exact Nat.zero_le _)
  exact mk_of I hm r h (I.hok.gone hm.new)
/-- repr of data: asked where no repr runs around -/
def rReprV (K : PySem.W.Frag) : List V → Hp → VK → Prop := fun xs H Q => ∃ (x : V) (d : PyData), xs = [x] ∧ Dp K H x d ∧ d.showable = true ∧ d.hasDict = false ∧ d.depth ≤ 60 ∧ d.shown.length ≤ sizeLine ∧ Q (.str d.shown) H
theorem call_reprV {X : Cx} (hg : X.A.guards = some []) (hu : X.A.units + 64 < cLine) : CallR X (.builtin "repr") (rReprV X.K) := by
  intro pins s σ H xs us Q I r h
  obtain ⟨x, d, rfl, hD, hs, hno, hdp, hl, q⟩ := h
  obtain ⟨u, rfl, r1⟩ := vals1 r
  have D := hD
  cases hD with
  | non =>
    obtain rfl : u = Value.none := r1
    exact PySem.P.repr_of_none ⟨.str _, H, I.tok _, ⟨_, rfl⟩, q⟩
  | bl b =>
    obtain rfl : u = Value.bool b := r1
    exact PySem.P.repr_of_bool ⟨.str _, H, I.tok _, ⟨_, by cases b <;> rfl⟩, q⟩
  | int i =>
    obtain ⟨t, rfl⟩ := r1
    exact PySem.P.repr_of_int (of_decide_eq_true hs) ⟨.str _, H, I.tok _, ⟨_, rfl⟩, q⟩
  | str z =>
    obtain ⟨t, rfl⟩ := r1
    exact PySem.P.repr_of_str ⟨.str _, H, I.tok _, ⟨_, rfl⟩, q⟩ hl
  | lst hq da =>
    exact call_reprD hg hu pins s σ H _ _ Q I r ⟨_, _, rfl, D, ⟨_, rfl⟩, hs, hno, hdp, hl, q⟩
  | tup hq da =>
    exact call_reprD hg hu pins s σ H _ _ Q I r ⟨_, _, rfl, D, ⟨_, rfl⟩, hs, hno, hdp, hl, q⟩
theorem call_reprVS {X : Cx} {a : Addr} {pn : List (Addr × Obj)} (hg : X.A.guards = some []) (hu : X.A.units + 64 < cLine) : CallR (X.suite a pn) (.builtin "repr") (rReprV X.K) := call_reprV (X := X.suite a pn) hg hu
/-! ### whole numbers, with bounds or without -/
def loB (lo : V) (i : Int) : Bool := match lo with
  | .int l => decide (l ≤ i)
  | _ => true
def hiB (hi : V) (i : Int) : Bool := match hi with
  | .int h => decide (i ≤ h)
  | _ => true
def wholeG (v lo hi : V) : Bool := match v with
  | .int i => loB lo i && hiB hi i
  | _ => false
def Bnd (v : V) : Prop := v = .non ∨ ∃ i, v = .int i
theorem wholeG_int {v : V} {lo hi : Int} : wholeG v (.int lo) (.int hi) = wholeV v lo hi := by cases v <;> rfl
theorem wholeG_no {v lo hi : V} (h : ∀ i, v ≠ .int i) : wholeG v lo hi = false := by
  cases v with
  | int i => exact absurd rfl (h i)
  | _ => rfl
def spWholeG : Sp := fun vs H Q _ => ∃ (v lo hi : V) (T : String), vs = [v, lo, hi] ∧ Kn H v T ∧ Bnd lo ∧ Bnd hi ∧ Q (.bl (wholeG v lo hi)) H
/-! ### rows and their numbers; both read from the back -/
def prodR : List Int → Int
  | [] => 1
  | w :: ws => prodR ws * w
def numR : List Int → List Int → Int
  | w :: ws, v :: vs => numR ws vs * w + v
  | _, _ => 0
def digs : List Int → Int → List Int
  | [], _ => []
  | w :: ws, n => n % w :: digs ws (n / w)
def quoR : List Int → Int → Int
  | [], n => n
  | w :: ws, n => quoR ws (n / w)
/-- each in its width -/
def InR : List Int → List Int → Prop
  | [], [] => True
  | w :: ws, v :: vs => 0 ≤ v ∧ v < w ∧ InR ws vs
  | _, _ => False
theorem InR.len : ∀ {ws vs : List Int}, InR ws vs → vs.length = ws.length
  | [], [], _ => rfl
  | [], _ :: _, h => h.elim
  | _ :: _, [], h => h.elim
  | _ :: ws, _ :: vs, h => by
    have := InR.len (ws := ws) (vs := vs) h.2.2
    simp [this]
theorem InR.get : ∀ {ws vs : List Int} {i : Nat} {w v : Int}, InR ws vs → ws[i]? = some w → vs[i]? = some v → 0 ≤ v ∧ v < w
  | [], _, _, _, _, _, h, _ => by simp at h
  | _ :: _, [], _, _, _, h, _, _ => h.elim
  | a :: ws, b :: vs, 0, w, v, h, h1, h2 => by
    simp at h1 h2
    subst h1 h2
    exact ⟨h.1, h.2.1⟩
  | a :: ws, b :: vs, i + 1, w, v, h, h1, h2 => InR.get (ws := ws) (vs := vs) (i := i) h.2.2 (by simpa using h1) (by simpa using h2)
theorem InR.of_get : ∀ {ws vs : List Int}, vs.length = ws.length → (∀ (i : Nat) (w v : Int), ws[i]? = some w → vs[i]? = some v → 0 ≤ v ∧ v < w) → InR ws vs
  | [], [], _, _ => trivial
  | [], _ :: _, h, _ => by simp at h
  | _ :: _, [], h, _ => by simp at h
  | a :: ws, b :: vs, h, k => by
    have z := k 0 a b rfl rfl
    exact ⟨z.1, z.2, InR.of_get (by simpa using h) fun i w v h1 h2 => k (i + 1) w v (by simpa using h1) (by simpa using h2)⟩
theorem InR.rev {ws vs : List Int} (h : InR ws vs) : InR ws.reverse vs.reverse := by
  have hl := h.len
  refine InR.of_get (by rw [List.length_reverse, List.length_reverse, hl]) fun i w v h1 h2 => ?_
  have hi : i < ws.length := by
    have := (List.getElem?_eq_some_iff.mp h1).1
    rwa [List.length_reverse] at this
  rw [List.getElem?_reverse hi] at h1
  rw [List.getElem?_reverse (by omega), hl] at h2
  exact h.get h1 h2
theorem num_bounds : ∀ {ws vs : List Int}, InR ws vs → 0 ≤ numR ws vs ∧ numR ws vs < prodR ws
  | [], [], _ => ⟨Int.le_refl _, by decide⟩
  | [], _ :: _, h => h.elim
  | _ :: _, [], h => h.elim
  | w :: ws, v :: vs, ⟨h0, h1, h⟩ => by
    obtain ⟨a, b⟩ := num_bounds (ws := ws) (vs := vs) h
    show 0 ≤ numR ws vs * w + v ∧ numR ws vs * w + v < prodR ws * w
    have w0 : 0 < w := by omega
    have e1 : 0 ≤ numR ws vs * w := Int.mul_nonneg a (Int.le_of_lt w0)
    have e2 : (numR ws vs + 1) * w ≤ prodR ws * w := Int.mul_le_mul_of_nonneg_right (by omega) (Int.le_of_lt w0)
    rw [Int.add_mul, Int.one_mul] at e2
    constructor <;> omega
theorem digs_num : ∀ {ws vs : List Int}, InR ws vs → digs ws (numR ws vs) = vs
  | [], [], _ => rfl
  | [], _ :: _, h => h.elim
  | _ :: _, [], h => h.elim
  | w :: ws, v :: vs, ⟨h0, h1, h⟩ => by
    have e1 : (numR ws vs * w + v) % w = v := by
      rw [Int.add_comm, Int.add_mul_emod_self_right]
      exact Int.emod_eq_of_lt h0 h1
    have e2 : (numR ws vs * w + v) / w = numR ws vs := by
      rw [Int.add_comm, Int.add_mul_ediv_right _ _ (by omega), Int.ediv_eq_zero_of_lt h0 h1, Int.zero_add]
    show (numR ws vs * w + v) % w :: digs ws ((numR ws vs * w + v) / w) = v :: vs
    rw [e1, e2, digs_num h]
theorem digs_len : ∀ (ws : List Int) (n : Int), (digs ws n).length = ws.length
  | [], _ => rfl
  | w :: ws, n => by
    show (digs ws (n / w)).length + 1 = ws.length + 1
    rw [digs_len]
theorem digs_in : ∀ {ws : List Int} {n : Int}, (∀ w ∈ ws, 0 < w) → 0 ≤ n → n < prodR ws → InR ws (digs ws n) ∧ numR ws (digs ws n) = n
  | [], n, _, h0, h1 => ⟨trivial, by
    have : n < 1 := h1
    show (0 : Int) = n
    omega⟩
  | w :: ws, n, hw, h0, h1 => by
    have w0 : 0 < w := hw w List.mem_cons_self
    have q0 : 0 ≤ n / w := Int.ediv_nonneg h0 (Int.le_of_lt w0)
    have q1 : n / w < prodR ws := Int.ediv_lt_of_lt_mul w0 h1
    obtain ⟨a, b⟩ := digs_in (ws := ws) (n := n / w) (fun x m => hw x (List.mem_cons_of_mem _ m)) q0 q1
    refine ⟨⟨Int.emod_nonneg _ (by omega), Int.emod_lt_of_pos _ w0, a⟩, ?_⟩
    show numR ws (digs ws (n / w)) * w + n % w = n
    rw [b, Int.mul_comm]
    exact Int.mul_ediv_add_emod n w
theorem digs_snoc : ∀ (ws : List Int) (w n : Int), digs (ws ++ [w]) n = digs ws n ++ [quoR ws n % w] ∧ quoR (ws ++ [w]) n = quoR ws n / w
  | [], w, n => ⟨rfl, rfl⟩
  | a :: ws, w, n => by
    obtain ⟨e1, e2⟩ := digs_snoc ws w (n / a)
    exact ⟨by show n % a :: digs (ws ++ [w]) (n / a) = n % a :: (digs ws (n / a) ++ [quoR ws (n / a) % w]); rw [e1], e2⟩
theorem prodR_pos : ∀ {ws : List Int}, (∀ w ∈ ws, 0 < w) → 0 < prodR ws
  | [], _ => by decide
  | w :: ws, h => Int.mul_pos (prodR_pos fun x m => h x (List.mem_cons_of_mem _ m)) (h w List.mem_cons_self)
theorem take_rev {α : Type} {l : List α} {i : Nat} {x : α} (h : l[i]? = some x) : (l.take (i + 1)).reverse = x :: (l.take i).reverse := by
  rw [List.take_add_one, h, List.reverse_append]
  rfl
theorem getMap {ws : List Int} {i : Nat} {x : V} (h : (ws.map V.int)[i]? = some x) : ∃ w, ws[i]? = some w ∧ x = .int w := by
  rw [List.getElem?_map] at h
  cases e : ws[i]? with
  | none => rw [e] at h; cases h
  | some w => rw [e] at h; exact ⟨w, rfl, (Option.some.inj h).symm⟩
/-! ### what check_widths and check_row look at -/
def unI : V → Int
  | .int i => i
  | _ => 0
def widthsOk (o : Option (List V)) : Bool := match o with
  | some xs => (decide (1 ≤ xs.length) && decide (xs.length ≤ 3)) && (xs.all (fun v => wholeV v 1 64) && decide (prodR (xs.map unI).reverse ≤ 4096))
  | none => false
def allIn : List Int → List V → Bool
  | w :: ws, x :: xs => wholeV x 0 (w - 1) && allIn ws xs
  | _, _ => true
def rowOk (ws : List Int) (o : Option (List V)) : Bool := match o with
  | some xs => decide (xs.length = ws.length) && allIn ws xs
  | none => false
theorem whole_is {v : V} {lo hi : Int} (h : wholeV v lo hi = true) : ∃ i, v = .int i ∧ lo ≤ i ∧ i ≤ hi := by
  cases v with
  | int i =>
    have z : (decide (lo ≤ i) && decide (i ≤ hi)) = true := h
    rw [Bool.and_eq_true] at z
    exact ⟨i, rfl, of_decide_eq_true z.1, of_decide_eq_true z.2⟩
  | _ => cases h
theorem all_whole {lo hi : Int} : ∀ {xs : List V}, xs.all (fun v => wholeV v lo hi) = true → xs = (xs.map unI).map V.int ∧ ∀ w ∈ xs.map unI, lo ≤ w ∧ w ≤ hi
  | [], _ => ⟨rfl, fun _ m => by cases m⟩
  | x :: xs, h => by
    rw [List.all_cons, Bool.and_eq_true] at h
    obtain ⟨i, rfl, h1, h2⟩ := whole_is h.1
    obtain ⟨e, k⟩ := all_whole h.2
    refine ⟨by rw [List.map_cons, List.map_cons, ← e]; rfl, fun w m => ?_⟩
    rcases List.mem_cons.mp (show w ∈ i :: xs.map unI from m) with rfl | m
    · exact ⟨h1, h2⟩
    · exact k w m
theorem unI_int (ns : List Int) : (ns.map V.int).map unI = ns := by
  rw [List.map_map]
  exact List.map_id'' (fun _ => rfl) ns
theorem allIn_is : ∀ {ws : List Int} {xs : List V}, xs.length = ws.length → allIn ws xs = true → xs = (xs.map unI).map V.int ∧ InR ws (xs.map unI)
  | [], [], _, _ => ⟨rfl, trivial⟩
  | [], _ :: _, h, _ => by simp at h
  | _ :: _, [], h, _ => by simp at h
  | w :: ws, x :: xs, hl, h => by
    have h' : (wholeV x 0 (w - 1) && allIn ws xs) = true := h
    rw [Bool.and_eq_true] at h'
    obtain ⟨i, rfl, h1, h2⟩ := whole_is h'.1
    obtain ⟨e, k⟩ := allIn_is (ws := ws) (xs := xs) (by simpa using hl) h'.2
    exact ⟨by rw [List.map_cons, List.map_cons, ← e]; rfl, h1, by show i < w; omega, k⟩
theorem allIn_of : ∀ {ws rs : List Int}, InR ws rs → allIn ws (rs.map V.int) = true
  | [], [], _ => rfl
  | [], _ :: _, h => h.elim
  | _ :: _, [], h => h.elim
  | w :: ws, r :: rs, ⟨h0, h1, h⟩ => by
    show ((decide (0 ≤ r) && decide (r ≤ w - 1)) && allIn ws (rs.map V.int)) = true
    rw [decide_eq_true h0, decide_eq_true (show r ≤ w - 1 by omega), allIn_of h]
    rfl
theorem rowOk_of {ws rs : List Int} (h : InR ws rs) : rowOk ws (some (rs.map V.int)) = true := by
  show (decide ((rs.map V.int).length = ws.length) && allIn ws (rs.map V.int)) = true
  rw [List.length_map, h.len, decide_eq_true rfl, allIn_of h]
  rfl
/-- the items of a list or a tuple are of known kinds -/
def Itm (H : Hp) (v : V) : Prop := ∀ xs, seqOf H v = some xs → ∀ x ∈ xs, ∃ T, Kn H x T
theorem Itm.ints {H : Hp} {v : V} {ns : List Int} (h : seqOf H v = some (ns.map V.int)) : Itm H v := fun xs hx x m => by
  rw [h] at hx
  cases hx
  obtain ⟨n, -, rfl⟩ := List.mem_map.mp m
  exact ⟨_, .int n⟩
theorem Itm.none {H : Hp} {v : V} (h : seqOf H v = none) : Itm H v := fun xs hx => by
  rw [h] at hx
  cases hx
theorem Itm.same {H H' : Hp} {v : V} {T : String} (h : Itm H v) (k : Kn H v T) (e : Same H H') : Itm H' v := fun xs hx x m => by
  rw [k.seqOf e] at hx
  obtain ⟨U, u⟩ := h xs hx x m
  exact ⟨U, u.same e⟩
/-! ### names -/
def lettersT : Str := "abcdefghijklmnopqrstuvwxyz"
def inLetters (c : Nat) : Bool := decide (c ∈ lettersT.cps.toList)
def nameV (v : V) : Bool := match v with
  | .str x => (decide (1 ≤ x.length) && decide (x.length ≤ 12)) && x.cps.toList.all inLetters
  | _ => false
theorem Kn.isStr {K : PySem.W.Frag} {H : Hp} {v : V} {T : String} (h : Kn H v T) : (∃ x, v = .str x ∧ PySem.W.kitOne K (.type T) (.type "str") = some true) ∨ (PySem.W.kitOne K (.type T) (.type "str") = some false ∧ nameV v = false) := by
  cases h with
  | str x => exact .inl ⟨x, rfl, kit_ty (by decide +kernel)⟩
  | int i => exact .inr ⟨kit_ty (by decide +kernel), rfl⟩
  | bl b => exact .inr ⟨kit_ty (by decide +kernel), rfl⟩
  | non => exact .inr ⟨kit_ty (by decide +kernel), rfl⟩
  | lst e => exact .inr ⟨kit_ty (by decide +kernel), rfl⟩
  | tup e => exact .inr ⟨kit_ty (by decide +kernel), rfl⟩
  | dct e => exact .inr ⟨kit_ty (by decide +kernel), rfl⟩
def spName : Sp := fun vs H Q _ => ∃ (v : V) (T : String), vs = [v] ∧ Kn H v T ∧ (∀ x, v = .str x → x.length ≤ 1000) ∧ ∀ H', Same H H' → Q (.bl (nameV v)) H'
end Q

set_option maxRecDepth 100000
set_option maxHeartbeats 4000000
/-! An exception that leaves a list comprehension. -/
namespace Q
open PySem PySem.Spec PyProof.Rows L2
theorem funFrames_less {h B B0 : Heap} (g : ∀ b, B.get? b = none → B0.get? b = none) : ∀ {l : List Env}, h.FunFrames B l → h.FunFrames B0 l
  | [], _ => trivial
  | e :: l, ⟨h1, ⟨L, o, h2, h3, h4, h5⟩, r⟩ => ⟨h1, ⟨L, o, h2, g L h3, h4, h5⟩, funFrames_less g r⟩
/-- a callee's exception, noted in the comprehension's frame, let go with its names, taken where the def takes it -/
theorem blk_raise {X : Cx} {W : WX} {E : XK} {pins pins' : List (Addr × Obj)} {σ σ' : L2.St} {H3 H : Hp} {s3 s s' : Shared} {scope : Scope} {ce : Env} {fp : List Addr} {xe' : Value → Shared → Prop} {u : Value} {E₁ : Value → Shared → Prop}
    (tk : Takes X W) (hs : X.stack = X.env :: X.outer) (hf : X.env.frame = some X.env.locals) (I3 : Inv X pins σ H3 s3) (hL : ce.locals = s3.heap.objs.size) (hcf : ce.frame = X.env.frame)
    (hfp : ∀ b ∈ fp, (b ∈ X.ex ∨ X.s_0.heap.objs.size ≤ b) ∧ b ≠ X.env.locals ∧ (∀ x c, X.env.cells.lookup x = some c → c ≠ b) ∧ ∀ p ∈ X.pn ++ pins, p.1 ≠ b)
    (hE : ∀ cls d H', E cls d H' → W cls d σ H') (I' : Inv ((X.blk s3 H3 scope ce fp).tr [] xe') pins' σ' H s) (c : L2.CX X.prog X.w X.stack H s E u s') :
    wpAny (model X.prog X.w) X.A (noteFrame u ce) (fun _ s'' => CompFails (model X.prog X.w) X.A X.xe ce u s'') E₁ s' := by
  obtain ⟨a, B, H', cls, d, rfl, fl, hok, ub, na, os, ag, hw⟩ := c
  have hfr : X.A.frames = some (X.env :: X.outer) := by rw [I3.ok.frames, hs]
  have frlt : ∀ b, b ∈ frs X.stack → b < s3.heap.objs.size := fun b hm => by
    rcases List.mem_cons.mp (I3.stkSub b hm) with z | z
    · obtain ⟨m, hn, _⟩ := I3.loc
      obtain ⟨o, es, ep, e, _⟩ := hn
      rw [z]
      exact Heap.lt_size e
    · obtain ⟨_, o, e, _⟩ := I3.ok.funs.mem z
      exact Nat.lt_of_lt_of_le (Heap.lt_size e) I3.sz
  have cN : ce.locals ∉ frs X.stack := fun z => by
    have := frlt _ z
    rw [hL] at this
    exact absurd this (Nat.lt_irrefl _)
  have lt3 : ∀ {b : Addr} {o : Obj}, s3.heap.get? b = some o → b ≠ ce.locals := fun {b o} e z => by
    have := Heap.lt_size e
    rw [z, hL] at this
    exact absurd this (Nat.lt_irrefl _)
  obtain ⟨m, hn, _⟩ := I'.loc
  have hn : s.heap.Ns ce.locals m := hn
  have hHC : H ce.locals = none := I'.free
  obtain ⟨oC, es, ep, eC, dC, rC⟩ := hn
  have eB : B.get? ce.locals = some oC := ub.keep _ _ eC hHC cN
  have hH'C : H' ce.locals = none := ub.free _ _ eC hHC
  obtain ⟨B0, g1, g2⟩ := restrict B fun b => decide (b ≠ ce.locals)
  have gk : ∀ b, b ≠ ce.locals → B0.get? b = B.get? b := fun b hb => g1 b (decide_eq_true hb)
  have gC : B0.get? ce.locals = none := g2 _ (decide_eq_false fun z => z rfl)
  have gs : ∀ b o, B0.get? b = some o → B.get? b = some o ∧ b ≠ ce.locals := fun b o e => by
    have hb : b ≠ ce.locals := fun z => by rw [z, gC] at e; cases e
    exact ⟨(gk b hb).symm.trans e, hb⟩
  have gn : ∀ b, B.get? b = none → B0.get? b = none := fun b e => by
    cases q : B0.get? b with
    | none => rfl
    | some o => rw [(gs b o q).1] at e; cases e
  have fl0 : HandSPX.FlyingZ B0 X.stack a (Zc cls d) s'.heap := by
    obtain ⟨f1, f2, f3, oe, vs, T, oT, ts, t1, t2, t3, t4, t5, t6⟩ := fl
    exact ⟨fun b o e => f1 b o (gs b o e).1, gn a f2, funFrames_less gn f3, oe, vs, T, oT, ts, t1, t2, t3, t4, gn T t5, t6⟩
  have flS := fl.1
  rw [hs] at fl0
  rw [noteFrame_env _ hcf]
  refine HandSPX.looks_onZ Zc.steady hfr hf fl0 fun h' held up => ?_
  have nf : ∀ vs, oC.data ≠ .fields vs := fun vs q => by rw [dC] at q; cases q
  obtain ⟨slC, eC'⟩ := up _ _ (flS _ _ eB) nf
  have hnC : h'.Ns ce.locals m := ⟨_, es, ep, eC', dC, rC⟩
  refine ⟨m, hnC, fun h₂ m₂ hn₂ hs₂ => ?_⟩
  have neD : ∀ {b : Addr} {o : Obj} {vs : Array Value}, h'.get? b = some o → o.data = .fields vs → b ≠ ce.locals := fun {b o vs} e q z => by
    rw [z, eC'] at e
    cases e
    rw [show ({ oC with slots := slC } : Obj).data = oC.data from rfl, dC] at q
    cases q
  have held2 : HandSPX.HeldZ B0 (X.env :: X.outer) a (Zc cls d) X.env.locals h₂ := by
    obtain ⟨f1, f2, f3, oe, vs, T, oT, ts, t1, t2, t3, t4, t5, t6, t7, t8, t9⟩ := held
    exact ⟨fun b o e => (hs₂.2 b (gs b o e).2).trans (f1 b o e), f2, Heap.FunFrames.sameBut hs₂ hn₂ f3, oe, vs, T, oT, ts, (hs₂.2 a (neD t1 t3)).trans t1, t2, t3, t4, t5, t6, (hs₂.2 T (neD t7 t8)).trans t7, t8, t9⟩
  unfold PySem.passOn
  obtain ⟨oe, vs, T, oT, ts, t1, t2, t3, t4, -⟩ := id held2.2.2.2
  refine wpAny_bind (wpAny_field t1 t3 t4 ?_)
  rw [if_neg (show ¬ ((Value.ref T == Value.none) = true) from by simp)]
  rw [hcf, hf]
  refine wpAny_bind (HandSPX.setFlight_onZ held2 fun h₃ held3 up3 => ?_)
  refine wpAny_throw (tk _ _ ?_)
  obtain ⟨G, k1, k2⟩ := restrict s'.heap fun b => (B0.get? b).isSome || decide (b ∈ frs X.stack)
  have st0 : ∀ b o, B0.get? b = some o → s'.heap.get? b = some o := fun b o e => flS b o (gs b o e).1
  have gB : ∀ b o, B0.get? b = some o → G.get? b = some o := fun b o e => by
    rw [k1 b (by simp [e])]
    exact st0 b o e
  have gF : ∀ b, b ∈ frs X.stack → G.get? b = s'.heap.get? b := fun b hb => k1 b (by simp [hb])
  have og : ∀ b o, G.get? b = some o → s'.heap.get? b = some o ∧ ((B0.get? b).isSome = true ∨ b ∈ frs X.stack) := fun b o e => by
    cases q : ((B0.get? b).isSome || decide (b ∈ frs X.stack)) with
    | false => rw [k2 b q] at e; cases e
    | true =>
      rw [k1 b q] at e
      exact ⟨e, by simpa [Bool.or_eq_true] using q⟩
  have oC' : ∀ b o, G.get? b = some o → b ≠ ce.locals := fun b o e z => by
    rcases (og b o e).2 with q | q
    · rw [z, gC] at q
      cases q
    · rw [z] at q
      exact cN q
  have base := I'.base
  have U : Un (frs X.stack) fp H3 H' s3.heap G := {
    keep := fun b o e n hb hx => gB b o (by rw [gk b (lt3 e)]; exact ub.keep b o (base.keep b o e n hb hx) (base.free b o e n hx) hb)
    slot := fun b o e n hb hx => by
      obtain ⟨sl, e1⟩ := base.slot b o e n hb hx
      obtain ⟨sl2, e2⟩ := ub.slot b _ e1 hb
      exact ⟨sl2, by rw [gF b hb]; exact e2⟩
    free := fun b o e n hx => by
      by_cases hb : b ∈ frs X.stack
      · obtain ⟨sl, e1⟩ := base.slot b o e n hb hx
        exact ub.free b _ e1 (base.free b o e n hx)
      · exact ub.free b o (base.keep b o e n hb hx) (base.free b o e n hx)
    there := fun b o e hx => by
      obtain ⟨o', e1⟩ := base.there b o e hx
      by_cases hb : b ∈ frs X.stack
      · obtain ⟨sl, e2⟩ := ub.slot b o' e1 hb
        exact ⟨_, by rw [gF b hb]; exact e2⟩
      · obtain ⟨o2, e2⟩ := ub.there b o' e1 hb
        exact ⟨o2, gB b o2 (by rw [gk b (lt3 e)]; exact e2)⟩
    tups := fun b xs e => ub.tups b xs (base.tups b xs e)
    frzs := fun b o v e => ub.frzs b o v (base.frzs b o v e)
    tbls := fun b ps e => by
      obtain ⟨m1, e1⟩ := base.tbls b ps e
      obtain ⟨m2, e2⟩ := ub.tbls b _ e1
      exact ⟨m1 ++ m2, by rw [e2, Array.append_assoc]⟩ }
  have hokG : HOk X.prog X.w H' G := fun b o z => (hok b o z).stay (fun x v hx e => by
      have nx : x ≠ ce.locals := fun q => by
        rcases hx with hx | hx
        · rw [← hx, q, hH'C] at z
          cases z
        · rw [q, hH'C] at hx
          cases hx
      exact gB x v (by rw [gk x nx]; exact e)) (fun _ h => h) fun _ _ h => h
  refine ⟨a, B0, { s3 with heap := G, gens := s'.gens, drawn := s'.drawn, toks := s'.toks }, pins, σ, H', cls, d, rfl, I3.call' (ch := fp) rfl U hokG ag hfp, fun b o e hb => ?_, ?_, .inr (.inr (by rw [hs]; exact held3)), na, os.trans I'.os, ag, hE _ _ _ hw⟩
  · obtain ⟨e1, q | q⟩ := og b o e
    · obtain ⟨o2, e2⟩ := Option.isSome_iff_exists.mp q
      have e3 := st0 b o2 e2
      rw [e1] at e3
      cases e3
      exact e2
    · exact absurd q hb
  · intro b o e nf'
    obtain ⟨sl, e1⟩ := up b o (og b o e).1 nf'
    obtain ⟨sl2, e2⟩ := up3 b _ ((hs₂.2 b (oC' b o e)).trans e1) nf'
    exact ⟨sl2, e2⟩
/-- the context of a comprehension's block from which an exception may come -/
abbrev blkX (X : Cx) (s : Shared) (H : Hp) (scope : Scope) (ce : Env) (fp : List Addr) (xe : Value → Shared → Prop) : Cx := (X.blk s H scope ce fp).tr [] xe
/-- what a callee within may let out -/
abbrev LetsOut (X : Cx) (E : XK) : Prop := ∀ σ, PassesAt (L2.CX X.prog X.w) X σ E
section
variable {X : Cx} {W : WX} {E : XK}
theorem lc_raise {pins : List (Addr × Obj)} {s : Shared} {σ : L2.St} {H : Hp} {Q : VK} {elt tg iter : Expr} {ifs : List Expr} {scope : Scope} {own : List (Str × Nat)} {pos pos2 : Pos} {wi : TI} {g : TG} {tt : TT} {te : TE} {use : Option (Value → Sem Unit)} {Qf : Value → Shared → Prop}
    (tk : Takes X W) (hW : ∀ cls d τ H', E cls d H' → W cls d τ H') (hs : X.stack = X.env :: X.outer) (hf : X.env.frame = some X.env.locals) (hc : X.calm = true) (hN : X.N.Nodup) (I : Inv X pins σ H s) (hi : PI X tg iter wi) (ok : BlkOk X.N X.env.scope scope own)
    (hg : ∀ (s : Shared) (H : Hp) (C : Addr) (cl : List (Str × Addr)) (fp : List Addr) (xe : Value → Shared → Prop), PG (blkX X s H scope (compEnvC scope cl C X.env) fp xe) tg g)
    (ht : ∀ (s : Shared) (H : Hp) (C : Addr) (cl : List (Str × Addr)) (fp : List Addr) (xe : Value → Shared → Prop), PTs (blkX X s H scope (compEnvC scope cl C X.env) fp xe) ifs tt)
    (he : ∀ (s : Shared) (H : Hp) (C : Addr) (cl : List (Str × Addr)) (fp : List Addr) (xe : Value → Shared → Prop), LetsOut (blkX X s H scope (compEnvC scope cl C X.env) fp xe) E → PE (blkX X s H scope (compEnvC scope cl C X.env) fp xe) elt te)
    (hset : ∀ x, foldedSetIterable iter X.env x = pure x) (h : tLc wi g tt te (own.map (·.2)) σ H Q)
    (fin : ∀ (D : Addr) (ce : Env) (s' : Shared) (m : Str → Option Value) (H' : Hp), Inv X pins σ H' s' → Q (.ref D) H' → s'.heap.Ns ce.locals m → FpOk X pins H' ce.locals → compEnds (model X.prog X.w) X.A X.xe use Qf (.ref D) ce (.ok .next) s') :
    wpAny (model X.prog X.w) X.A (comprehension (.ListComp elt [⟨tg, iter, ifs, 0⟩] scope pos) scope X.env pos2 (newList []) false (eval iter X.env) use) Qf X.xe s := by
  have cells : ∀ y ∈ scope.names, y.2 = .free → ∃ c, X.env.cells.lookup y.1 = some c := fun y hy e => (ok.free y hy e).elim (fun k => I.ok.has _ (.inl k)) fun k => I.ok.has _ (.inr k)
  refine comprehension_at (use := use) rfl hset (closure_ok cells) ok.kind (fun y hy e => by rw [ok.uniq y hy, e]) (thn (hi.run pins s σ H _ I h) fun xv s1 hx => thn hx fun itv s2 ⟨it, fp, tn, J, H2, e, I2, T, st2, f2, q⟩ => ?_)
  subst e
  refine wpAny_newObj_type (newEnv_comp ?_) (by show 0 ≤ sizeLine; exact Nat.zero_le _)
  generalize hD : s2.heap.objs.size = D
  have freeD : H2 D = none := I2.hok.fresh (Nat.le_of_eq hD)
  obtain ⟨V2, ⟨m0, v0⟩, turn⟩ := q D freeD
  generalize hl3 : ({ s2 with heap := s2.heap.push { cls := .type "list", data := .seq ([] : List Value).toArray } } : Shared) = s3
  have h3 : s3.heap = s2.heap.push { cls := .type "list", data := .seq ([] : List Value).toArray } := by rw [← hl3]
  have J3 : Inv X pins σ (upd H2 D (.lst [])) s3 := by
    subst hl3
    refine I2.laid (t' := s2.toks) (fun b o e => Heap.get?_push_of_some _ e) (Nat.le_of_eq hD) ⟨Nat.zero_le _, [], 0, .nil, ?_⟩
    exact hD ▸ Heap.get?_push_size _ rfl
  have low : ∀ b ∈ fp, b < s2.heap.objs.size := fun b hb => (T.obj _ _ st2 b hb).elim fun o e => Heap.lt_size e.1
  have F3 : ∀ b ∈ fp, FpOk X pins (upd H2 D (.lst [])) b ∧ b < s3.heap.objs.size := fun b hb =>
    ⟨⟨by rw [upd_ne (by rw [← hD]; exact Nat.ne_of_lt (low b hb))]; exact (f2 b hb).1, (f2 b hb).2⟩, by rw [h3, Heap.size_push]; exact Nat.lt_succ_of_lt (low b hb)⟩
  have st3 : tn 0 s3.heap := T.keep _ _ _ st2 fun b _ o e => by rw [h3]; exact Heap.get?_push_of_some _ e
  have J4 := block_start J3 ok hN F3
  generalize hce : compEnvC scope (cellsFrom (s3.heap.objs.size + 1) scope.names (cloFrom X.env.cells scope.names [])) s3.heap.objs.size X.env = ce at J4
  have gce : ∃ C cl, ce = compEnvC scope cl C X.env := ⟨_, _, hce.symm⟩
  have cL : ce.locals = s3.heap.objs.size := by rw [← hce]; rfl
  have cF : ce.frame = X.env.frame := by rw [← hce]; rfl
  show codeAny _ _ (.compStart (.ListComp elt [⟨tg, iter, ifs, 0⟩] scope pos) 0 (.ref it) (.ref D) (compEnvC scope (cellsFrom (s3.heap.objs.size + 1) scope.names (cloFrom X.env.cells scope.names [])) s3.heap.objs.size X.env)) (compEnds (model X.prog X.w) X.A X.xe use Qf (.ref D) (compEnvC scope (cellsFrom (s3.heap.objs.size + 1) scope.names (cloFrom X.env.cells scope.names [])) s3.heap.objs.size X.env)) { s3 with heap := pushCells (s3.heap.push { cls := .type "dict", data := .dict #[] }) scope.names }
  rw [hce]
  generalize hH3 : upd H2 D (.lst []) = H3 at J3 J4 v0 F3
  generalize hs4 : ({ s3 with heap := pushCells (s3.heap.push { cls := .type "dict", data := .dict #[] }) scope.names } : Shared) = s4 at J4 ⊢
  obtain ⟨xe', hxe⟩ : ∃ xe', xe' = notedBy (model X.prog X.w) X.A ce (fun e s' => compEnds (model X.prog X.w) X.A X.xe use Qf (.ref D) ce (.error e) s') := ⟨_, rfl⟩
  have J5 : Inv (blkX X s3 H3 scope ce fp xe') [] (wipe σ (own.map (·.2))) H3 s4 := J4.toTry xe'
  have st4 : tn 0 s4.heap := T.keep _ _ _ st3 fun b _ o e => by rw [← hs4]; exact pushCells_keeps _ _ _ _ (Heap.get?_push_of_some _ e)
  have none3 : ∀ b ∈ fp, H3 b = none := fun b hb => (F3 b hb).1.1
  have out3 : ∀ b ∈ fp, (b ∈ X.ex ∨ X.s_0.heap.objs.size ≤ b) ∧ b ≠ X.env.locals ∧ (∀ x c, X.env.cells.lookup x = some c → c ≠ b) ∧ ∀ p ∈ X.pn ++ pins, p.1 ≠ b := fun b hb => let z := (F3 b hb).1; ⟨z.2.2.2.1, z.2.1, z.2.2.2.2.1, z.2.2.2.2.2⟩
  have lets : LetsOut (blkX X s3 H3 scope ce fp xe') E := fun τ ps Hc sc u s' Ic cx => by
    show xe' u s'
    rw [hxe]
    have z := blk_raise (E₁ := fun e s' => compEnds (model X.prog X.w) X.A X.xe use Qf (.ref D) ce (.error e) s') tk hs hf J3 cL cF out3 (fun c d H' q => hW c d σ H' q) Ic cx
    show wpAny _ _ (noteFrame u ce) _ _ s'
    exact wpAny_mono z (fun _ s'' y => by cases use <;> exact y) fun _ _ y => y
  obtain ⟨C, cl, rfl⟩ := gce
  have pg := hg s3 H3 C cl fp xe'
  have pt := ht s3 H3 C cl fp xe'
  have pe := he s3 H3 C cl fp xe' lets
  have stat : ∀ {τ : L2.St} {H' : Hp} {s' : Shared}, Inv (blkX X s3 H3 scope (compEnvC scope cl C X.env) fp xe') [] τ H' s' → (∀ b ∈ fp, H' b = none) → ∀ b ∈ fp, FpOk (blkX X s3 H3 scope (compEnvC scope cl C X.env) fp xe') [] H' b := fun {τ H' s'} Ix nx b hb =>
    ⟨nx b hb, (Ix.ok.exf b hb).1, Ix.ok.exfs b hb, .inl hb, fun x c e => (Ix.ok.exf b hb).2 x c e, fun p hp => absurd (show p ∈ ([] : List (Addr × Obj)) from hp) (by simp)⟩
  have loop : codeAny (model X.prog X.w) X.A (.compLoop (.ListComp elt [⟨tg, iter, ifs, 0⟩] scope pos) 0 (.ref it) (.ref D) (compEnvC scope cl C X.env)) (compEnds (model X.prog X.w) X.A X.xe use Qf (.ref D) (compEnvC scope cl C X.env)) s4 := by
    refine compLoop_any (fun n s' => ∃ i H', Inv (blkX X s3 H3 scope (compEnvC scope cl C X.env) fp xe') [] (wipe σ (own.map (·.2))) H' s' ∧ tn i s'.heap ∧ (∀ b ∈ fp, H' b = none) ∧ V2 i n H') ?_ m0 ⟨0, H3, J5, st4, none3, v0⟩
    rintro n s5 ⟨i, H5, I5, st5, n5, v5⟩
    rw [← hxe]
    rcases turn i n H5 v5 with ⟨stop, qq⟩ | ⟨go, Nx, hNx, step⟩
    · refine wpAny_mono (T.done (blkX X s3 H3 scope (compEnvC scope cl C X.env) fp xe') rfl rfl rfl hc i [] s5 _ H5 xe' I5 (stat I5 n5) st5 stop) (fun r s6 ⟨hr, I6⟩ => ?_) fun _ _ z => z
      subst hr
      have I7 : Inv X pins σ H5 s6 := J3.call' (ch := fp) I6.os I6.base I6.hok I6.bare out3
      obtain ⟨m, hn, _⟩ := I6.loc
      have nC : H5 (compEnvC scope cl C X.env).locals = none := I6.free
      exact fin D _ s6 m H5 I7 qq hn (J3.fpOk (Nat.le_of_eq cL.symm) nC)
    · refine wpAny_mono (T.item (blkX X s3 H3 scope (compEnvC scope cl C X.env) fp xe') rfl rfl rfl hc i [] s5 _ H5 xe' I5 (stat I5 n5) st5 go) (fun r s6 ⟨u, hr, h6⟩ => ?_) fun _ _ z => z
      subst hr
      refine wpAny_mono h6 (fun _ s7 ⟨x, H7, I7, r7, y7, st7, n7⟩ => ?_) fun _ _ z => z
      have P7 := I7.pinned (stat I7 n7) (T.obj _ _ st7)
      refine thn (pg.run _ s7 _ H7 x u _ P7 r7 (step x H7 y7)) fun _ s8 ⟨σ8, H8, I8, hw8, q8⟩ => ?_
      refine thn (pt.run _ s8 σ8 H8 _ I8 q8) fun b s9 ⟨H9, I9, q9⟩ => ?_
      have ends : ∀ {s' : Shared} {H' : Hp}, Inv (blkX X s3 H3 scope (compEnvC scope cl C X.env) fp xe') ([] ++ pinsAt fp s7.heap) σ8 H' s' → Nx H' → ∃ m, m < n ∧ ∃ i H', Inv (blkX X s3 H3 scope (compEnvC scope cl C X.env) fp xe') [] (wipe σ (own.map (·.2))) H' s' ∧ tn i s'.heap ∧ (∀ b ∈ fp, H' b = none) ∧ V2 i m H' := fun {s' H'} Ix nx => by
        obtain ⟨m', hm, w'⟩ := hNx H' nx
        have pin' : ∀ b ∈ fp, ∀ o, s7.heap.get? b = some o → s'.heap.get? b = some o ∧ H' b = none := fun b hb o e =>
          let z := Ix.pin (b, o) (List.mem_append_right _ (List.mem_append_right _ (mem_pinsAt hb e)))
          ⟨z.1, z.2.1⟩
        refine ⟨m', hm, i + 1, H', (Ix.unpinned (pins := [])).weak (by rw [← hw8, wipe_length]) (fun j v e => (wipe_some (by rw [hw8]; exact e)).1), T.keep _ _ _ st7 fun b hb o e => (pin' b hb o e).1, fun b hb => ?_, w'⟩
        obtain ⟨o, e, _⟩ := T.obj _ _ st7 b hb
        exact (pin' b hb o e).2
      cases b with
      | false => exact ends I9 q9
      | true =>
        refine thn (pe.run _ s9 σ8 H9 _ I9 q9) fun z s10 ⟨yv, H10, I10, r10, acc, hD10, hz10, nx⟩ => ?_
        exact app_ok (X := blkX X s3 H3 scope (compEnvC scope cl C X.env) fp xe') I10 hD10 hz10 r10 fun s11 I11 => ends I11 nx
  exact codeAny_compStart_list loop (T.self X.A 0 _ _ _ st4 loop)
/-- [elt for target in iter if ..], its element a call that may raise: the exception goes where the def's own goes -/
theorem pe_lcX {elt tg iter : Expr} {ifs : List Expr} {scope : Scope} {own : List (Str × Nat)} {pos : Pos} {wi : TI} {g : TG} {tt : TT} {te : TE} (tk : Takes X W) (hW : ∀ cls d τ H', E cls d H' → W cls d τ H') (hs : X.stack = X.env :: X.outer) (hf : X.env.frame = some X.env.locals)
    (hc : X.calm = true) (hN : X.N.Nodup) (hi : PI X tg iter wi) (ok : BlkOk X.N X.env.scope scope own)
    (hg : ∀ (s : Shared) (H : Hp) (C : Addr) (cl : List (Str × Addr)) (fp : List Addr) (xe : Value → Shared → Prop), PG (blkX X s H scope (compEnvC scope cl C X.env) fp xe) tg g)
    (ht : ∀ (s : Shared) (H : Hp) (C : Addr) (cl : List (Str × Addr)) (fp : List Addr) (xe : Value → Shared → Prop), PTs (blkX X s H scope (compEnvC scope cl C X.env) fp xe) ifs tt)
    (he : ∀ (s : Shared) (H : Hp) (C : Addr) (cl : List (Str × Addr)) (fp : List Addr) (xe : Value → Shared → Prop), LetsOut (blkX X s H scope (compEnvC scope cl C X.env) fp xe) E → PE (blkX X s H scope (compEnvC scope cl C X.env) fp xe) elt te)
    (hset : ∀ x, foldedSetIterable iter X.env x = pure x := by intro _; rfl) : PE X (.ListComp elt [⟨tg, iter, ifs, 0⟩] scope pos) (tLc wi g tt te (own.map (·.2))) := by
  refine ⟨fun pins s σ H Q I h => ?_⟩
  rw [eval_ListComp]
  refine lc_raise tk hW hs hf hc hN I hi ok hg ht he hset h fun D ce s' m H' I' q hn ⟨f0, f1, f2, f3, f4, f5⟩ => ⟨m, hn, fun h2 sb => ?_⟩
  exact ⟨.ref D, H', I'.turned (t' := s'.toks) (fun b o hb e => (sb.2 b hb).trans e) f0 f1 f3 f4 f5, rfl, q⟩
end
/-- a callee that may raise, and does not here -/
theorem passX {P : Program} {w : World} {X : Cx} : Passes (L2.CX P w) X (fun _ _ _ => False) := fun _ _ _ _ _ _ _ h => by
  obtain ⟨_, _, _, _, _, h⟩ := h
  exact h.2.2.2.2.2.2.2.elim
/-! isinstance in an except suite -/
theorem call_isiS {X : Cx} {a : Addr} {pn : List (Addr × Obj)} : CallR (X.suite a pn) (.builtin "isinstance") (rIsi X.K) := call_isi (X := X.suite a pn)
theorem call_isiTS {X : Cx} {a : Addr} {pn : List (Addr × Obj)} : CallR (X.suite a pn) (.builtin "isinstance") (rIsiT X.K) := call_isiT (X := X.suite a pn)
section
variable {X : Cx} {CX : CXT} {k : Nat} {ps : List Str} {sp : Sp} {dvs : List V} {E : L2.St → XK} {x : Str} {p pos : Pos} {e : Expr} {es : List Expr} {t : TA}
theorem pe_calSD (C : Cal X.prog X.w X.K X.mg X.base CX k x ps dvs sp) (hr : Room k X.A) (hx : ∀ σ, PassesAt CX X σ (E σ)) (ha : PA X (e :: es) t) (hg : Gl X x := by rfl) (hdb : (x == ("__debug__" : Str)) = false := by decide)
    (he : starEach (e :: es) X.env = (false, eval e X.env) :: starEach es X.env := by rfl) (hpl : (backTo pos (starEach es X.env)).any (·.1) = false := by rfl) :
    PE X (.Call (.Name x p) (e :: es) [] pos) (tCallSD sp dvs E t) := by
  obtain ⟨f, fd, ds, G, g, kp, b, v⟩ := C.ex
  exact pe_callSD G hr hg g kp b v hx ha hdb he hpl
end
end Q

set_option maxRecDepth 100000
set_option maxHeartbeats 4000000
/-! What runs while generators sleep leaves their states alone. -/
namespace Q
open PySem PySem.Spec PyProof.Rows L2 GenW
open Sem (wp)
/-- a sleeping generator whose way on is hidden -/
def decoy : GenState → GenState
  | .suspended _ l c p fs cl => .suspended (fun _ => .unsupported "") l c p fs cl
  | x => x
def asleep : GenState → Bool
  | .suspended .. => true
  | _ => false
def tidy : GenState → Bool
  | .suspended _ _ _ _ fs _ => (splitAtGen fs).isNone
  | _ => true
theorem decoy_seen (x : GenState) : (decoy x).seen = x.seen := by cases x <;> rfl
theorem decoy_bare (x : GenState) : (decoy x).bare = x.bare := by cases x <;> rfl
theorem decoy_asleep {x : GenState} (h : asleep x = true) : ∃ l c p fs cl, decoy x = .suspended (fun _ => .unsupported "") l c p fs cl := by
  cases x <;> first | exact ⟨_, _, _, _, _, rfl⟩ | cases h
theorem stuck {M : Model} {Γ : PySem.Ctx} {p : Pos} {t : Sem PySem.Fin} {fs : List Frame} {s s' : Shared} {e : End} (h : Runs M Γ p t fs s e s') : t ≠ .unsupported "" := by
  induction h <;> intro z <;> first | cases z; done | (rename_i ih _; exact ih z) | (rename_i ih; exact ih z) | (rename_i _ _ ih; exact ih z) | (rename_i ih1 _ ih2 ih3; exact ih1 z) | (rename_i ih1 ih2; exact ih1 z)
/-- the true states of those that are hidden -/
abbrev Own := Nat → Option GenState
def undo (O : Own) (s : Shared) : Shared := { s with gens := s.gens.mapIdx fun i x => (O i).getD x }
structure Hid (O : Own) (G : Array GenState) : Prop where
  own : ∀ i x, O i = some x → asleep x = true ∧ G[i]? = some (decoy x)
  oth : ∀ i x, O i = none → G[i]? = some x → tidy x = true
theorem undo_get {O : Own} {s : Shared} {i : Nat} : (undo O s).gens[i]? = (s.gens[i]?).map fun x => (O i).getD x := by
  show (s.gens.mapIdx _)[i]? = _
  rw [Array.getElem?_mapIdx]
theorem undo_size {O : Own} {s : Shared} : (undo O s).gens.size = s.gens.size := by
  show (s.gens.mapIdx _).size = _
  rw [Array.size_mapIdx]
theorem undo_push {O : Own} {s : Shared} {x : GenState} (h : O s.gens.size = none) : undo O { s with gens := s.gens.push x } = { undo O s with gens := (undo O s).gens.push x } := by
  show ({ s with gens := (s.gens.push x).mapIdx _ } : Shared) = { s with gens := (s.gens.mapIdx _).push x }
  rw [Array.mapIdx_push, h]
  rfl
theorem set_get {G : Array GenState} {g i : Nat} {x : GenState} : (G.setIfInBounds g x)[i]? = if i = g then (if g < G.size then some x else none) else G[i]? := by
  by_cases h : i = g
  · subst h
    rw [if_pos rfl]
    by_cases h2 : i < G.size
    · rw [if_pos h2, Array.getElem?_setIfInBounds_self_of_lt h2]
    · rw [if_neg h2, Array.getElem?_eq_none]
      simp
      omega
  · rw [if_neg h, Array.getElem?_setIfInBounds_ne (Ne.symm h)]
theorem undo_set {O : Own} {s : Shared} {g : Nat} {x : GenState} (h : O g = none) : undo O (s.setGen g x) = (undo O s).setGen g x := by
  show ({ s with gens := (s.gens.setIfInBounds g x).mapIdx _ } : Shared) = { s with gens := (s.gens.mapIdx _).setIfInBounds g x }
  congr 1
  apply Array.ext_getElem?
  intro i
  rw [Array.getElem?_mapIdx, set_get, set_get, Array.getElem?_mapIdx, Array.size_mapIdx]
  by_cases a : i = g
  · subst a
    rw [if_pos rfl, if_pos rfl]
    split
    · rw [h]; rfl
    · rfl
  · rw [if_neg a, if_neg a]
theorem Hid.lt {O : Own} {G : Array GenState} (h : Hid O G) : O G.size = none := by
  cases q : O G.size with
  | none => rfl
  | some x =>
    have := (h.own _ _ q).2
    rw [Array.getElem?_eq_none (Nat.le_refl _)] at this
    cases this
theorem Hid.push {O : Own} {G : Array GenState} {x : GenState} (h : Hid O G) (hx : tidy x = true) : Hid O (G.push x) := by
  refine ⟨fun i y q => ?_, fun i y q e => ?_⟩
  · obtain ⟨a, b⟩ := h.own i y q
    refine ⟨a, ?_⟩
    have := (Array.getElem?_eq_some_iff.mp b).1
    rw [Array.getElem?_push, if_neg (Nat.ne_of_lt this)]
    exact b
  · rw [Array.getElem?_push] at e
    split at e
    · cases e; exact hx
    · exact h.oth i y q e
theorem Hid.set {O : Own} {G : Array GenState} {g : Nat} {x : GenState} (h : Hid O G) (hg : O g = none) (hx : tidy x = true) : Hid O (G.setIfInBounds g x) := by
  refine ⟨fun i y q => ?_, fun i y q e => ?_⟩
  · obtain ⟨a, b⟩ := h.own i y q
    refine ⟨a, ?_⟩
    rw [set_get, if_neg (fun z => by subst z; rw [hg] at q; cases q)]
    exact b
  · rw [set_get] at e
    split at e
    · split at e
      · cases e; exact hx
      · cases e
    · exact h.oth i y q e
theorem Hid.free {O : Own} {G : Array GenState} {g : Nat} {x : GenState} (h : Hid O G) (hg : G[g]? = some x) (hx : asleep x = false) : O g = none := by
  cases q : O g with
  | none => rfl
  | some y =>
    obtain ⟨a, b⟩ := h.own _ _ q
    rw [hg] at b
    cases b
    obtain ⟨l, c, p, fs, cl, e⟩ := decoy_asleep a
    rw [e] at hx
    cases hx
theorem Hid.state {O : Own} {s : Shared} {g : Nat} {x : GenState} (h : Hid O s.gens) (hg : s.gens[g]? = some x) : ∃ y, (undo O s).gens[g]? = some y ∧ y.seen = x.seen := by
  rw [undo_get, hg]
  cases q : O g with
  | none => exact ⟨_, rfl, rfl⟩
  | some y =>
    obtain ⟨_, b⟩ := h.own _ _ q
    rw [hg] at b
    cases b
    exact ⟨y, rfl, (decoy_seen y).symm⟩
theorem undo_at {O : Own} {s : Shared} {g : Nat} {x : GenState} (hg : s.gens[g]? = some x) (h : O g = none) : (undo O s).gens[g]? = some x := by
  rw [undo_get, hg, h]; rfl
def endTidy : End → Prop
  | .ret _ => True
  | .susp _ _ _ _ _ _ fs => splitAtGen fs = none
theorem endTidy.state {e : End} (h : endTidy e) : tidy e.genState = true := by
  cases e with
  | ret _ => rfl
  | susp v g l k c p fs =>
    show (splitAtGen fs).isNone = true
    rw [show splitAtGen fs = none from h]; rfl
theorem split_tail {k : Result → Sem PySem.Fin} {h : Option Value} {g : Bool} {l kp : List Value} {c : Code} {p : Pos} {fs : List Frame} (e : splitAtGen (.ret k h g l c p kp :: fs) = none) : splitAtGen fs = none := by
  have e : (splitAtGen fs).map _ = none := e
  cases q : splitAtGen fs with
  | none => rfl
  | some x => rw [q] at e; cases e

theorem runs_undo {O : Own} {M : Model} {Γ : PySem.Ctx} {p : Pos} {t : Sem PySem.Fin} {fs : List Frame} {s s' : Shared} {e : End} (h : Runs M Γ p t fs s e s') :
    splitAtGen fs = none → Hid O s.gens → Hid O s'.gens ∧ endTidy e ∧ Runs M Γ p t fs (undo O s) e (undo O s') := by
  induction h with
  | done => exact fun _ hI => ⟨hI, trivial, .done⟩
  | raise => exact fun _ hI => ⟨hI, trivial, .raise⟩
  | again q _ ih => exact fun hf hI => let ⟨a, b, c⟩ := ih hf hI; ⟨a, b, .again q c⟩
  | rule _ ih => exact fun hf hI => let ⟨a, b, c⟩ := ih hf hI; ⟨a, b, .rule c⟩
  | «at» _ ih => exact fun hf hI => let ⟨a, b, c⟩ := ih hf hI; ⟨a, b, .at c⟩
  | load q _ ih => exact fun hf hI => let ⟨a, b, c⟩ := ih hf hI; ⟨a, b, .load q c⟩
  | update q _ ih => exact fun hf hI => let ⟨a, b, c⟩ := ih hf hI; ⟨a, b, .update q c⟩
  | loadIfAlive _ ih => exact fun hf hI => let ⟨a, b, c⟩ := ih hf hI; ⟨a, b, .loadIfAlive c⟩
  | point _ ih => exact fun hf hI => let ⟨a, b, c⟩ := ih hf hI; ⟨a, b, .point c⟩
  | alloc _ ih => exact fun hf hI => let ⟨a, b, c⟩ := ih hf hI; ⟨a, b, .alloc c⟩
  | fresh _ ih => exact fun hf hI => let ⟨a, b, c⟩ := ih hf hI; ⟨a, b, .fresh c⟩
  | ask _ ih => exact fun hf hI => let ⟨a, b, c⟩ := ih hf hI; ⟨a, b, .ask c⟩
  | choose q _ ih => exact fun hf hI => let ⟨a, b, c⟩ := ih hf hI; ⟨a, b, .choose q c⟩
  | os _ ih => exact fun hf hI => let ⟨a, b, c⟩ := ih hf hI; ⟨a, b, .os c⟩
  | handled _ ih => exact fun hf hI => let ⟨a, b, c⟩ := ih hf hI; ⟨a, b, .handled c⟩
  | stack _ ih => exact fun hf hI => let ⟨a, b, c⟩ := ih hf hI; ⟨a, b, .stack c⟩
  | thread _ ih => exact fun hf hI => let ⟨a, b, c⟩ := ih hf hI; ⟨a, b, .thread c⟩
  | genState q _ ih =>
    intro hf hI
    obtain ⟨a, b, c⟩ := ih hf hI
    obtain ⟨y, h1, h2⟩ := hI.state q
    exact ⟨a, b, .genState h1 (by rw [h2]; exact c)⟩
  | @newGen Γ p k s c e s' _ ih =>
    intro hf hI
    obtain ⟨a, b, c'⟩ := ih hf (hI.push rfl)
    refine ⟨a, b, .newGen ?_⟩
    rw [undo_push hI.lt] at c'
    rw [undo_size] at *
    exact c'
  | call _ _ ih1 ih2 =>
    intro hf hI
    obtain ⟨a, _, c⟩ := ih1 rfl hI
    obtain ⟨a2, b2, c2⟩ := ih2 hf a
    exact ⟨a2, b2, .call c c2⟩
  | callSusp _ ih =>
    intro hf hI
    obtain ⟨a, b, c⟩ := ih rfl hI
    refine ⟨a, ?_, .callSusp c⟩
    show splitAtGen _ = none
    rw [splitAtGen_append_none _ b]; rfl
  | yield => exact fun _ hI => ⟨hI, rfl, .yield⟩
  | @resumeFresh Γ p g l k s c e₁ s₁ e s' q _ hq _ ih1 ih2 =>
    intro hf hI
    have hg : O g = none := hI.free q rfl
    obtain ⟨a, b, c1⟩ := ih1 rfl (hI.set hg rfl)
    obtain ⟨a2, b2, c2⟩ := ih2 hf (a.set hg b.state)
    rw [undo_set hg] at c1 c2
    exact ⟨a2, b2, .resumeFresh (undo_at q hg) c1 hq c2⟩
  | @resumeSuspended Γ p g r l k s k₀ l₀ c₀ p₀ fs cl e₁ s₁ e s' q h1 hq _ ih1 ih2 =>
    intro hf hI
    cases z : O g with
    | some x =>
      obtain ⟨z1, z2⟩ := hI.own _ _ z
      obtain ⟨l', c', p', fs', cl', e'⟩ := decoy_asleep z1
      rw [q, e'] at z2
      cases z2
      exact absurd rfl (stuck h1)
    | none =>
      have ht := hI.oth _ _ z q
      have hfs : splitAtGen fs = none := by
        cases y : splitAtGen fs with
        | none => rfl
        | some x => rw [show tidy _ = (splitAtGen fs).isNone from rfl, y] at ht; cases ht
      obtain ⟨a, b, c1⟩ := ih1 hfs (hI.set z rfl)
      obtain ⟨a2, b2, c2⟩ := ih2 hf (a.set z b.state)
      rw [undo_set z] at c1 c2
      exact ⟨a2, b2, .resumeSuspended (undo_at q z) c1 hq c2⟩
  | resumeJustStarted q n _ ih => exact fun hf hI => let ⟨a, b, c⟩ := ih hf hI; ⟨a, b, .resumeJustStarted (undo_at q (hI.free q rfl)) n c⟩
  | resumeThrowFresh q _ ih =>
    intro hf hI
    have hg := hI.free q rfl
    obtain ⟨a, b, c1⟩ := ih hf (hI.set hg rfl)
    rw [undo_set hg] at c1
    exact ⟨a, b, .resumeThrowFresh (undo_at q hg) c1⟩
  | resumeRunning q _ ih => exact fun hf hI => let ⟨a, b, c⟩ := ih hf hI; ⟨a, b, .resumeRunning (undo_at q (hI.free q rfl)) c⟩
  | resumeFinished q _ ih => exact fun hf hI => let ⟨a, b, c⟩ := ih hf hI; ⟨a, b, .resumeFinished (undo_at q (hI.free q rfl)) c⟩
  | segRet _ _ ih1 ih2 =>
    intro hf hI
    obtain ⟨a, _, c⟩ := ih1 rfl hI
    obtain ⟨a2, b2, c2⟩ := ih2 (split_tail hf) a
    exact ⟨a2, b2, .segRet c c2⟩
  | segGen _ _ _ _ => exact fun hf _ => nomatch hf
  | segSuspOut q _ ih =>
    intro hf hI
    obtain ⟨a, b, c⟩ := ih rfl hI
    refine ⟨a, ?_, .segSuspOut q c⟩
    show splitAtGen _ = none
    rw [splitAtGen_append_none _ b, q]; rfl
  | segSuspGen q _ _ _ _ _ => exact fun hf _ => by rw [hf] at q; cases q
theorem wakes_undo {O : Own} {M : Model} {Γ : PySem.Ctx} {p : Pos} {g : Nat} {r : Resume} {s s' : Shared} {res : GenResult} (hI : Hid O s.gens) (h : Wakes M Γ p g r s res s') : Hid O s'.gens ∧ Wakes M Γ p g r (undo O s) res (undo O s') := by
  unfold Wakes at h
  split at h
  · exact h.elim
  · rename_i c q
    have hg : O g = none := hI.free q rfl
    split at h
    · obtain ⟨e₁, s₁, hr, hq, rfl, rfl⟩ := h
      obtain ⟨a, b, c1⟩ := runs_undo hr rfl (hI.set hg rfl)
      rw [undo_set hg] at c1
      refine ⟨a.set hg b.state, ?_⟩
      unfold Wakes
      rw [undo_at q hg, undo_set hg]
      exact ⟨e₁, _, c1, hq, rfl, rfl⟩
    · obtain ⟨rfl, rfl⟩ := h
      refine ⟨hI, ?_⟩
      unfold Wakes
      rw [undo_at q hg]
      rename_i v hv
      cases v <;> first | exact (hv rfl).elim | exact ⟨rfl, rfl⟩
    · obtain ⟨rfl, rfl⟩ := h
      refine ⟨hI.set hg rfl, ?_⟩
      unfold Wakes
      rw [undo_at q hg, undo_set hg]
      exact ⟨rfl, rfl⟩
  · rename_i k₀ l₀ c₀ p₀ fs cl q
    obtain ⟨e₁, s₁, hr, hq, rfl, rfl⟩ := h
    cases z : O g with
    | some x =>
      obtain ⟨z1, z2⟩ := hI.own _ _ z
      obtain ⟨l', c', p', fs', cl', e'⟩ := decoy_asleep z1
      rw [q, e'] at z2
      cases z2
      exact absurd rfl (stuck hr)
    | none =>
      have ht := hI.oth _ _ z q
      have hfs : splitAtGen fs = none := by
        cases y : splitAtGen fs with
        | none => rfl
        | some x => rw [show tidy _ = (splitAtGen fs).isNone from rfl, y] at ht; cases ht
      obtain ⟨a, b, c1⟩ := runs_undo hr hfs (hI.set z rfl)
      rw [undo_set z] at c1
      refine ⟨a.set z b.state, ?_⟩
      unfold Wakes
      rw [undo_at q z, undo_set z]
      exact ⟨e₁, _, c1, hq, rfl, rfl⟩
  · rename_i q
    obtain ⟨rfl, rfl⟩ := h
    refine ⟨hI, ?_⟩
    unfold Wakes
    rw [undo_at q (hI.free q rfl)]
    exact ⟨rfl, rfl⟩
  · rename_i q
    obtain ⟨rfl, rfl⟩ := h
    refine ⟨hI, ?_⟩
    unfold Wakes
    rw [undo_at q (hI.free q rfl)]
    exact ⟨rfl, rfl⟩
theorem wp_undo {α : Type} {O : Own} (M : Model) (Γ : PySem.Ctx) (t : Sem α) : ∀ (Q : α → Pos → Shared → Prop) (E : Value → Pos → Shared → Prop) (p : Pos) (s : Shared), Hid O s.gens → wp M Γ t Q E p s →
    wp M Γ t (fun a p' s' => ∃ s1, s' = undo O s1 ∧ Hid O s1.gens ∧ Q a p' s1) (fun e p' s' => ∃ s1, s' = undo O s1 ∧ Hid O s1.gens ∧ E e p' s1) p (undo O s) := by
  induction t with
  | pure a => intro Q E p s hn h; exact ⟨s, rfl, hn, h⟩
  | raise e => intro Q E p s hn h; exact ⟨s, rfl, hn, h⟩
  | unsupported _ => intro Q E p s _ h; exact h
  | finish _ => intro Q E p s _ h; exact h
  | rule _ k ih => intro Q E p s hn h; exact ih () Q E p s hn h
  | «at» p' k ih => intro Q E p s hn h; exact ih () Q E p' s hn h
  | load a _ k ih => intro Q E p s hn h; obtain ⟨o, ho, h⟩ := h; exact ⟨o, ho, ih o Q E p s hn h⟩
  | update a _ f k ih => intro Q E p s hn h; exact ⟨h.1, ih () Q E p { s with heap := s.heap.update a f } hn h.2⟩
  | loadIfAlive a k ih => intro Q E p s hn h; exact ih _ Q E p s hn h
  | point _ k ih => intro Q E p s hn h; exact ih () Q E p s hn h
  | register _ _ => intro Q E p s _ h; exact h
  | alloc o k ih => intro Q E p s hn h; exact ih _ Q E p { s with heap := s.heap.push o } hn h
  | fresh k ih => intro Q E p s hn h; exact ih _ Q E p { s with toks := s.toks + 1 } hn h
  | ask k ih => intro Q E p s hn h; exact ih _ Q E p s hn h
  | choose src m k ih => intro Q E p s hn h; exact ⟨h.1, ih _ Q E p { s with drawn := s.drawn.bump src } hn h.2⟩
  | os q _ k ih => intro Q E p s hn h; exact ih _ Q E p { s with os := (Os.step s.os q).1 } hn h
  | call c hd _ _ k ih =>
    intro Q E p s hn h
    obtain ⟨r, s', hr, h⟩ := h
    obtain ⟨a, _, c⟩ := runs_undo hr rfl hn
    exact ⟨r, undo O s', c, ih r Q E p s' a h⟩
  | handled own k ih => intro Q E p s hn h; exact ih _ Q E p s hn h
  | genState g k ih =>
    intro Q E p s hn h
    obtain ⟨st, hs, h⟩ := h
    obtain ⟨y, h1, h2⟩ := hn.state hs
    refine ⟨y, h1, ?_⟩
    rw [h2]
    exact ih _ Q E p s hn h
  | newGen c k ih =>
    intro Q E p s hn h
    have := ih _ Q E p _ (show Hid O ({ s with gens := s.gens.push (.fresh c) } : Shared).gens from hn.push rfl) h
    rw [undo_push hn.lt] at this
    show wp M Γ (k (undo O s).gens.size) _ _ p { undo O s with gens := (undo O s).gens.push (.fresh c) }
    rw [undo_size]
    exact this
  | resume g r _ k ih =>
    intro Q E p s hn h
    obtain ⟨res, s', hw, h⟩ := h
    obtain ⟨a, b⟩ := wakes_undo hn hw
    exact ⟨res, undo O s', b, ih res Q E p s' a h⟩
  | yield _ _ _ _ => intro Q E p s _ h; exact h
  | stack k ih => intro Q E p s hn h; exact ih _ Q E p s hn h
  | fork _ _ => intro Q E p s _ h; exact h
  | thread k ih => intro Q E p s hn h; exact ih _ Q E p s hn h
  | await _ _ _ _ _ => intro Q E p s _ h; exact h
theorem wpAny_undo {α : Type} {O : Own} {M : Model} {A : Around} {s : Shared} {t : Sem α} {Q Q' : α → Shared → Prop} {E E' : Value → Shared → Prop} (hn : Hid O s.gens) (h : wpAny M A t Q E s)
    (hQ : ∀ a s1, Hid O s1.gens → Q a s1 → Q' a (undo O s1)) (hE : ∀ e s1, Hid O s1.gens → E e s1 → E' e (undo O s1)) : wpAny M A t Q' E' (undo O s) :=
  wpAny_mono (fun Γ p hΓ => wp_undo M Γ t _ _ p s hn (h Γ p hΓ) : wpAny M A t (fun a s' => ∃ s1, s' = undo O s1 ∧ Hid O s1.gens ∧ Q a s1) (fun e s' => ∃ s1, s' = undo O s1 ∧ Hid O s1.gens ∧ E e s1) (undo O s))
    (fun a _ ⟨s1, z, n, q⟩ => z ▸ hQ a s1 n q) fun e _ ⟨s1, z, n, q⟩ => z ▸ hE e s1 n q
/-- all that sleep, hidden -/
def ownOf (s : Shared) : Own := fun i => match s.gens[i]? with | some x => if asleep x then some x else none | none => none
def hush (s : Shared) : Shared := { s with gens := s.gens.map decoy }
theorem decoy_awake {x : GenState} (h : asleep x = false) : decoy x = x := by cases x <;> first | rfl | cases h
theorem undo_hush (s : Shared) : undo (ownOf s) (hush s) = s := by
  show ({ s with gens := (s.gens.map decoy).mapIdx _ } : Shared) = s
  have : (s.gens.map decoy).mapIdx (fun i x => (ownOf s i).getD x) = s.gens := by
    apply Array.ext_getElem?
    intro i
    rw [Array.getElem?_mapIdx, Array.getElem?_map]
    unfold ownOf
    cases q : s.gens[i]? with
    | none => rfl
    | some x =>
      cases a : asleep x with
      | true => simp [a]
      | false => simp [a, decoy_awake a]
  rw [this]
theorem hush_hid (s : Shared) : Hid (ownOf s) (hush s).gens := by
  refine ⟨fun i x e => ?_, fun i x e q => ?_⟩
  · unfold ownOf at e
    show _ ∧ (s.gens.map decoy)[i]? = _
    rw [Array.getElem?_map]
    cases q : s.gens[i]? with
    | none => rw [q] at e; cases e
    | some y =>
      rw [q] at e
      cases a : asleep y with
      | true => simp only [a, if_true] at e; cases e; exact ⟨a, rfl⟩
      | false => simp [a] at e
  · have q : (s.gens.map decoy)[i]? = some x := q
    rw [Array.getElem?_map] at q
    unfold ownOf at e
    cases z : s.gens[i]? with
    | none => rw [z] at q; cases q
    | some y =>
      rw [z] at q e
      cases a : asleep y with
      | true => simp [a] at e
      | false =>
        have q : decoy y = x := Option.some.inj q
        rw [decoy_awake a] at q
        subst q
        cases y <;> first | rfl | cases a
theorem hush_bare {s : Shared} (h : AllBare s.gens) : AllBare (hush s).gens := fun x hx => by
  obtain ⟨y, hy, rfl⟩ := Array.mem_map.mp (show x ∈ s.gens.map decoy from hx)
  rw [decoy_bare]
  exact h y hy
theorem undo_bare {O : Own} {s : Shared} (hn : Hid O s.gens) (h : AllBare s.gens) : AllBare (undo O s).gens := fun x hx => by
  obtain ⟨i, hi, e⟩ := Array.mem_iff_getElem.mp hx
  have e2 : (undo O s).gens[i]? = some x := by rw [Array.getElem?_eq_getElem hi, e]
  rw [undo_get] at e2
  cases q : s.gens[i]? with
  | none => rw [q] at e2; cases e2
  | some y =>
    rw [q] at e2
    have hy : y.bare = true := h y (Array.mem_of_getElem? q)
    cases o : O i with
    | none => rw [o] at e2; cases e2; exact hy
    | some z =>
      rw [o] at e2
      cases e2
      have := (hn.own _ _ o).2
      rw [q] at this
      cases this
      rw [← decoy_bare]
      exact hy
theorem undo_keeps {O : Own} {s : Shared} {g : Nat} {x : GenState} (hn : Hid O s.gens) (h : O g = some x) : (undo O s).gens[g]? = some x := by
  rw [undo_get, (hn.own _ _ h).2, h]; rfl
theorem ownOf_at {s : Shared} {g : Nat} {x : GenState} (h : s.gens[g]? = some x) (a : asleep x = true) : ownOf s g = some x := by
  unfold ownOf
  rw [h]
  simp [a]
end Q

set_option maxRecDepth 100000
set_option maxHeartbeats 4000000
/-! One turn of a generator: from its waking to its next yield, or to its end. -/
namespace Q
open PySem PySem.Spec PyProof.Rows L2 GenW
open PySem.W.X (SegX)
section
variable {prog : Program} {w : World} {A : Around} {c : Code} {fs : List Frame} {P : End → Shared → Prop} {s : Shared} {env : Env}
  {K : Flow → Sem PySem.Fin} {J : Value → Sem PySem.Fin} {gd : Bool → Bool} {lv : List Value → List Value}
theorem sx_wrap {α : Type} {m : Sem α} {K : α → Sem PySem.Fin} (h : wpAny (model prog w) (A.over c fs) m (fun a s' => SegX (model prog w) A c (K a) fs s' P) (fun x s' => SegX (model prog w) A c (J x) fs s' P) s) :
    SegX (model prog w) A c (m.wrap K J gd lv) fs s P := by
  rintro Γ p rfl hΓ
  obtain ⟨e, s', hr, hq⟩ := runs_wrap_of_wp (Φ := fun e s' => e.quiet = true ∧ P e s') K J gd lv m (h (Γ.over fs) p (hΓ.over fs)) (fun a p' s' h' => h' Γ p' rfl hΓ) (fun x p' s' h' => h' Γ p' rfl hΓ)
  exact ⟨e, s', hr, hq⟩
theorem sx_at {p' : Pos} {k : Unit → Sem PySem.Fin} (h : SegX (model prog w) A c (k ()) fs s P) : SegX (model prog w) A c (.at p' k) fs s P :=
  sx_wrap (m := standAt p') (K := k) (J := .raise) (gd := id) (lv := id) (wpAny_standAt h)
theorem sx_point {l : List Value} {k : Unit → Sem PySem.Fin} (h : SegX (model prog w) A c (k ()) fs s P) : SegX (model prog w) A c (.point l k) fs s P :=
  sx_wrap (m := point) (K := k) (J := .raise) (gd := id) (lv := fun _ => l) (wpAny_point h)
theorem sx_call {c' : Code} {h : Option Value} {g : Bool} {l : List Value} {k : Result → Sem PySem.Fin} (hc : ∀ p, SegX (model prog w) A c' ((model prog w).den c') (.ret k h g l c p [] :: fs) s P) : SegX (model prog w) A c (.call c' h g l k) fs s P := by
  rintro Γ p rfl hΓ
  obtain ⟨e, s', hr, he⟩ := hc p (Γ.goto c') p rfl (hΓ.goto c')
  exact ⟨e, s', runs_call_seg hr, he⟩
theorem sx_leaf {k : Result → Sem PySem.Fin} {h : Option Value} {g : Bool} {l kp : List Value} {c₁ : Code} {p₁ : Pos} (r : Result) (hk : SegX (model prog w) A c₁ (k r) fs s P) : SegX (model prog w) A c (leafOf r) (.ret k h g l c₁ p₁ kp :: fs) s P := by
  rintro Γ p rfl hΓ
  obtain ⟨e, s', hr, he⟩ := hk (Γ.goto c₁) p₁ rfl (hΓ.goto c₁)
  exact ⟨e, s', Runs.pop r hr, he⟩
theorem sx_again {c' : Code} (hq : c'.quiet = true) (hc : SegX (model prog w) A c' ((model prog w).den c') fs s P) : SegX (model prog w) A c (.pure (.again c')) fs s P := by
  rintro Γ p rfl hΓ
  obtain ⟨e, s', hr, he⟩ := hc (Γ.goto c') p rfl (hΓ.goto c')
  exact ⟨e, s', Runs.head (c₁ := c') (fun _ _ x => .again hq x) hr, he⟩
theorem sx_end (r : Result) (h : P (.ret r) s) : SegX (model prog w) A c (leafOf r) [] s P := by
  rintro Γ p rfl _
  exact ⟨.ret r, s, Runs.leaf r, rfl, h⟩
theorem sx_execs_cons {st : Stmt} {rest : List Stmt} (h : SegX (model prog w) A c ((exec st env).wrap (fun f => match f with | .next => (execs rest env).wrap K J gd lv | f => K f) J gd lv) fs s P) :
    SegX (model prog w) A c ((execs (st :: rest) env).wrap K J gd lv) fs s P := by rw [execs_cons_wrap]; exact h
theorem sx_execs_nil (h : SegX (model prog w) A c (K .next) fs s P) : SegX (model prog w) A c ((execs [] env).wrap K J gd lv) fs s P := h
theorem sx_yield {e : Expr} {ypos pos : Pos} (hfs : splitAtGen fs = none) (hgd : gd false = false) (hfg : fs.any Frame.guarded = false)
    (h : wpAny (model prog w) (A.over c fs) (eval e env) (fun v s' => ∀ p l k, k (.send .none) = K .next → P (.susp v false l k c p fs) s') (fun _ _ => False) s)
    (hco : env.scope.isCoroutine = false := by rfl) (hi : interactive env = false := by rfl) :
    SegX (model prog w) A c ((exec (.Expr (.Yield (some e) ypos) pos) env).wrap K J gd lv) fs s P := by
  rw [exec_Expr env _ pos hi rfl]
  show SegX (model prog w) A c (.at pos fun _ => ((eval e env >>= fun v => (standAt ypos >>= fun _ => yieldOut env v)) >>= fun x =>
    dropValue (.Yield (some e) ypos) pos x).wrap K J gd lv) fs s P
  have hy : ∀ v, yieldOut env v = yieldValue v := fun v => by simp only [yieldOut, hco, Bool.false_eq_true, if_false]
  simp only [hy]
  refine sx_at ?_
  rw [Sem.bind_eq_wrap', Sem.bind_eq_wrap', Sem.wrap_wrap, Sem.wrap_wrap]
  refine sx_wrap (wpAny_mono h (fun v s' h' => ?_) fun _ _ x => x.elim)
  refine sx_at ?_
  rintro Γ p rfl _
  refine ⟨_, s', Runs.yield' fs hfs, ?_, ?_⟩
  · show (!((gd false) || fs.any Frame.guarded)) = true
    rw [hgd, hfg]; rfl
  · have z : (fun g => gd (id g)) false = false := hgd
    rw [z]
    exact h' p _ _ rfl
theorem sx_While {test : Expr} {body : List Stmt} {pos : Pos}
    (h : ∀ (p : Pos) (J' : Value → Sem PySem.Fin), SegX (model prog w) A (.whileLoop test body [] env) ((model prog w).den (.whileLoop test body [] env)) (.ret (fun r => match r with | .ok f => K f | .error e => J' e) none (gd false) (lv []) c p [] :: fs) s P) :
    SegX (model prog w) A c ((exec (.While test body [] pos) env).wrap K J gd lv) fs s P := by
  refine sx_at (sx_call fun p => ?_)
  have := h p fun e => ((Sem.raise e : Sem Flow).onRaise fun (x : Value) => do
        if (← field x 1) == Value.none then unsupported "frame.own-activation:exception-without-traceback"
        setFlight x env.frame).wrap K J gd lv
  refine cast ?_ this
  congr 2
  congr 1
  funext r
  cases r <;> rfl
theorem sx_whileLoop {test : Expr} {body : List Stmt}
    (h : ∀ J, wpAny (model prog w) (A.over (.whileLoop test body [] env) fs) (isTrue test env (eval test env)) (fun b s' =>
        if b = true then
          SegX (model prog w) A (.whileLoop test body [] env) ((execs body env).wrap (fun f => match f with
            | .next | .cont => .pure (.again (.whileLoop test body [] env))
            | .brk => .pure (.done .next)
            | .ret v => .pure (.done (.ret v))) J id id) fs s' P
        else SegX (model prog w) A (.whileLoop test body [] env) (.pure (.done .next)) fs s' P) (fun _ _ => False) s) :
    SegX (model prog w) A (.whileLoop test body [] env) ((model prog w).den (.whileLoop test body [] env)) fs s P := by
  show SegX _ A _ ((whileTurn test body [] env).onRaise (fun x => do noteFrame x env; theTreesLotGoes x)) fs s P
  unfold whileTurn
  rw [Sem.onRaise_eq_wrap, Sem.bind_eq_wrap', Sem.wrap_wrap]
  refine sx_wrap (wpAny_mono (h fun e => (do noteFrame e env; theTreesLotGoes e : Sem Unit).bind fun _ => .raise e) (fun b s' hb => ?_) fun x s' hx => hx.elim)
  cases b with
  | true =>
    rw [if_pos rfl] at hb
    show SegX _ A _ (Sem.wrap _ _ _ _ (if true = true then _ else _)) fs s' P
    rw [if_pos rfl, Sem.bind_eq_wrap', Sem.wrap_wrap]
    refine cast ?_ hb
    congr 1
    exact Sem.wrap_congr (execs body env) _ _ (fun f => by cases f <;> rfl) (fun e => rfl)
  | false =>
    rw [if_neg Bool.false_ne_true] at hb
    exact hb
theorem sx_func {body : List Stmt}
    (h : ∀ J, SegX (model prog w) A (.func body env) ((execs body env).wrap (fun f => .pure (.done (.ret (match f with | .ret v => v | _ => .none)))) J id id) fs s P) :
    SegX (model prog w) A (.func body env) ((model prog w).den (.func body env)) fs s P := by
  show SegX _ A _ (.point [] fun _ => ((execs body env).onRaise (leaving env)) >>= _) fs s P
  refine sx_point ?_
  rw [Sem.onRaise_eq_wrap, Sem.bind_eq_wrap', Sem.wrap_wrap]
  refine cast ?_ (h fun e => (leaving env e).wrap (fun _ => .raise e) .raise id id)
  congr 1
  exact Sem.wrap_congr (execs body env) _ _ (fun f => by cases f <;> rfl) (fun e => by rw [Sem.bind_eq_wrap, Sem.wrap_wrap]; rfl)
end
end Q

set_option maxRecDepth 100000
set_option maxHeartbeats 4000000
/-! The context of a generator's turn: its own things by themselves, its consumer's locked. -/
namespace Q
open PySem PySem.Spec PyProof.Rows L2 GenW
open PySem.W.X (SegX)
/-- the first n objects -/
def cutH (h : Heap) (n : Nat) : Heap := { h with objs := h.objs.extract 0 n }
theorem cut_size {h : Heap} {n : Nat} (l : n ≤ h.objs.size) : (cutH h n).objs.size = n := by
  show (h.objs.extract 0 n).size = n
  simp
  omega
theorem cut_eq (h : Heap) (n b : Nat) : (cutH h n).get? b = if b < n then h.get? b else none := by
  unfold Heap.get? cutH
  show (match (h.objs.extract 0 n)[b]? with | some ⟨_, _, .freed, _⟩ => none | o => o) = _
  rw [Array.getElem?_extract]
  by_cases l : b < n
  · rw [if_pos l]
    by_cases l2 : b < h.objs.size
    · rw [if_pos (by omega), Nat.zero_add]
      rfl
    · rw [if_neg (by omega), Array.getElem?_eq_none (Nat.le_of_not_lt l2)]
  · rw [if_neg l, if_neg (by omega)]
theorem of_cut {h : Heap} {n b : Nat} {o : Obj} (e : (cutH h n).get? b = some o) : b < n ∧ h.get? b = some o := by
  rw [cut_eq] at e
  split at e
  · exact ⟨by assumption, e⟩
  · cases e
theorem cut_of {h : Heap} {n b : Nat} {o : Obj} (l : b < n) (e : h.get? b = some o) : (cutH h n).get? b = some o := by
  rw [cut_eq, if_pos l]; exact e
/-- the generator's abstract heap: its own lists (pv) and records (fr), its consumer's tracked things, all else that is younger locked -/
def gH (Hc : Hp) (n : Nat) (h : Heap) (fr : List Addr) (pv : Addr → Option (List V)) : Hp := fun b =>
  if b ∈ fr then none else match pv b with
    | some xs => some (.lst xs)
    | none => match Hc b with
      | some u => some u
      | none => if n ≤ b then (h.get? b).map fun o => .frz o (.ext fun _ => True) else none
section
variable {Hc : Hp} {n : Nat} {h : Heap} {fr : List Addr} {pv : Addr → Option (List V)} {b : Addr}
theorem gH_old (hf : b ∉ fr) (hp : pv b = none) {u : HO} (e : Hc b = some u) : gH Hc n h fr pv b = some u := by
  unfold gH
  rw [if_neg hf, hp]
  show (match Hc b with | some u => some u | none => _) = _
  rw [e]
theorem gH_fr (hf : b ∈ fr) : gH Hc n h fr pv b = none := by
  unfold gH
  rw [if_pos hf]
theorem gH_pv (hf : b ∉ fr) {xs : List V} (e : pv b = some xs) : gH Hc n h fr pv b = some (.lst xs) := by
  unfold gH
  rw [if_neg hf, e]
theorem gH_lock (hf : b ∉ fr) (hp : pv b = none) (e : Hc b = none) (l : n ≤ b) {o : Obj} (g : h.get? b = some o) : gH Hc n h fr pv b = some (.frz o (.ext fun _ => True)) := by
  unfold gH
  rw [if_neg hf, hp]
  show (match Hc b with | some u => some u | none => _) = _
  rw [e]
  show (if n ≤ b then _ else _) = _
  rw [if_pos l, g]
  rfl
theorem gH_low (hf : b ∉ fr) (hp : pv b = none) (e : Hc b = none) (l : b < n) : gH Hc n h fr pv b = none := by
  unfold gH
  rw [if_neg hf, hp]
  show (match Hc b with | some u => some u | none => _) = _
  rw [e]
  show (if n ≤ b then _ else _) = _
  rw [if_neg (Nat.not_le_of_lt l)]
theorem gH_some {u : HO} (e : gH Hc n h fr pv b = some u) : b ∉ fr ∧ ((∃ xs, pv b = some xs ∧ u = .lst xs) ∨ (pv b = none ∧ Hc b = some u) ∨ (pv b = none ∧ Hc b = none ∧ n ≤ b ∧ ∃ o, h.get? b = some o ∧ u = .frz o (.ext fun _ => True))) := by
  unfold gH at e
  split at e
  · cases e
  · refine ⟨by assumption, ?_⟩
    cases q : pv b with
    | some xs => rw [q] at e; cases e; exact .inl ⟨xs, rfl, rfl⟩
    | none =>
      rw [q] at e
      cases z : Hc b with
      | some v =>
        have e : (match Hc b with | some u => some u | none => (if n ≤ b then (h.get? b).map fun o => HO.frz o (.ext fun _ => True) else none)) = some u := e
        rw [z] at e
        cases e
        exact .inr (.inl ⟨rfl, rfl⟩)
      | none =>
        have e : (match Hc b with | some u => some u | none => (if n ≤ b then (h.get? b).map fun o => HO.frz o (.ext fun _ => True) else none)) = some u := e
        rw [z] at e
        have e : (if n ≤ b then (h.get? b).map fun o => HO.frz o (.ext fun _ => True) else none) = some u := e
        split at e
        · rename_i l
          cases y : h.get? b with
          | none => rw [y] at e; cases e
          | some o => rw [y] at e; cases e; exact .inr (.inr ⟨rfl, rfl, l, o, rfl, rfl⟩)
        · cases e
end
/-- a generator's turn: n: the heap's size when it was called -/
def gx (P : Program) (w : World) (K : PySem.W.Frag) (mg : Str → Option Value) (base : Heap) (N : List Str) (qual : Str) (scope : Scope) (f : Addr) (cd : Value) (A : Around) (outer : List Env) (n : Nat) (s : Shared) (H : Hp) : Cx where
  prog := P
  w := w
  K := K
  mg := mg
  base := base
  A := A.deeper (envOfC qual scope n f cd)
  N := N
  s_0 := { s with heap := cutH s.heap n }
  H_0 := H
  env := envOfC qual scope n f cd
  outer := outer
  stack := envOfC qual scope n f cd :: outer
  ex := []
  calm := true
  fn := fun _ => true
  pn := []
  xe := fun _ _ => False
/-- a generator def's names: no cells -/
structure NoCells (sc : Scope) : Prop where
  kind : sc.kind = .function
  none : ∀ x, sc.names.lookup x ≠ some .cell ∧ sc.names.lookup x ≠ some .free
theorem cellsFrom_nil : ∀ (l : List (Str × NameKind)) (m : Nat), (∀ y ∈ l, y.2 ≠ .cell) → cellsFrom m l [] = []
  | [], _, _ => rfl
  | (x, k) :: l, m, h => by
    have hk := h (x, k) List.mem_cons_self
    have ih := fun m => cellsFrom_nil l m fun y hy => h y (List.mem_cons_of_mem _ hy)
    cases k <;> first | exact absurd rfl hk | exact ih _
/-- the names' values, as they stand -/
def LocAt (N : List Str) (sc : Scope) (n : Nat) (σ : L2.St) (h : Heap) : Prop :=
  ∃ m, h.Ns n m ∧ ∀ (i : Nat) (x : Str) (v : V), N[i]? = some x → σ[i]? = some (some v) → Vis sc x → ∃ u, RelV v u ∧ sc.names.lookup x = some .local ∧ m x = some u
section
variable {P : Program} {w : World} {K : PySem.W.Frag} {mg : Str → Option Value} {base : Heap} {N : List Str} {qual : Str} {scope : Scope} {f : Addr} {cd : Value} {A : Around} {outer : List Env} {n : Nat} {s : Shared} {Hc : Hp} {fr : List Addr} {pv : Addr → Option (List V)} {σ : L2.St}
theorem cut_funs {h base : Heap} {n : Nat} : ∀ {l : List Env}, (∀ b ∈ frs l, b < n) → h.FunFrames base l → (cutH h n).FunFrames base l
  | [], _, _ => trivial
  | e :: l, hb, ⟨h1, ⟨L, o, h2, h3, h4, h5⟩, h6⟩ => by
    refine ⟨h1, ⟨L, o, h2, h3, cut_of (hb L ?_) h4, h5⟩, cut_funs (fun b hm => hb b ?_) h6⟩
    · unfold frs; rw [List.filterMap_cons, h2]; exact List.mem_cons_self
    · unfold frs; rw [List.filterMap_cons, h2]; exact List.mem_cons_of_mem _ hm
theorem gx_inv (hn : base.objs.size ≤ n) (hs : n ≤ s.heap.objs.size) (hfs : ∀ b ∈ frs outer, b < n) (sc : NoCells scope) (hc : ∀ m, cellsFrom m scope.names [] = []) (hd : A.handled = none) (e0 : Env0 P w K mg base A outer s Hc) (hl : σ.length = N.length)
    (loc : LocAt N scope n σ s.heap) (hnf : n ∈ fr) (hfr : ∀ b ∈ fr, n ≤ b ∧ Hc b = none) (hpv : ∀ b xs, pv b = some xs → n ≤ b ∧ Hc b = none ∧ ObjOk P w Hc s.heap b (.lst xs)) {G : Array GenState} (hG : AllBare G) :
    Inv (gx P w K mg base N qual scope f cd A outer n s (gH Hc n s.heap fr pv)) [] σ (gH Hc n s.heap fr pv) { s with gens := G } := by
  have low : ∀ b, b < n → b ∉ fr ∧ pv b = none := fun b l => ⟨fun z => Nat.lt_irrefl _ (Nat.lt_of_lt_of_le l (hfr b z).1), by
    cases q : pv b with
    | none => rfl
    | some xs => exact absurd (Nat.lt_of_lt_of_le l (hpv b xs q).1) (Nat.lt_irrefl _)⟩
  have lb : ∀ b o, base.get? b = some o → b < n := fun b o e => Nat.lt_of_lt_of_le (Heap.lt_size e) hn
  have ccl : (envOfC qual scope n f cd).cells = [] := hc (n + 1)
  have nocl : ∀ x c, (envOfC qual scope n f cd).cells.lookup x ≠ some c := fun x c z => by rw [ccl] at z; cases z
  have noA : ∀ b : Addr, b ∉ ([] : List Addr) := fun b z => nomatch z
  have ins : ∀ {b u}, Hc b = some u → gH Hc n s.heap fr pv b = some u := fun {b u} e => gH_old (fun z => by rw [(hfr b z).2] at e; cases e) (by
    cases q : pv b with
    | none => rfl
    | some xs => rw [(hpv b xs q).2.1] at e; cases e) e
  refine ⟨⟨e0.mod, sc.kind, rfl, rfl, ?_, fun y z c h1 h2 => absurd h1 (nocl y c), fun y hy => ?_, fun y c _ h => absurd h (nocl y c), fun _ => hd, Around.frames_deeper e0.frames, .inr ⟨rfl, rfl⟩, fun b z => absurd z (noA b), fun b o e => ?_, ?_, fun b _ _ => noA b, fun b z => absurd z (noA b), ?_, fun b hb => ?_⟩,
    rfl, hG, ?_, ?_, fun y c h => absurd h (nocl y c), gH_fr hnf, fun y c h => absurd h (nocl y c), fun p hp => absurd hp (List.not_mem_nil), ?_, hl⟩
  · show (cutH s.heap n).objs.size ≤ n
    rw [cut_size hs]
    exact Nat.le_refl _
  · exact hy.elim (fun z => absurd z (sc.none y).1) fun z => absurd z (sc.none y).2
  · have l := lb b o e
    exact ⟨cut_of l (e0.bs b o e).1, gH_low (low b l).1 (low b l).2 (e0.bs b o e).2 l⟩
  · show base.objs.size ≤ (cutH s.heap n).objs.size
    rw [cut_size hs]
    exact hn
  · exact cut_funs hfs e0.funs
  · have l := hfs b hb
    exact gH_low (low b l).1 (low b l).2 (e0.frf b hb) l
  · exact Un.kept fun b u e => (of_cut e).2
  · obtain ⟨m, h1, h2⟩ := loc
    refine ⟨m, h1, fun i x v e1 e2 e3 => ?_⟩
    obtain ⟨u, r, k, q⟩ := h2 i x v e1 e2 e3
    exact ⟨u, r, .inl ⟨k, q⟩⟩
  · intro b u e
    obtain ⟨nf, q | q | q⟩ := gH_some e
    · obtain ⟨xs, q, rfl⟩ := q
      exact (hpv b xs q).2.2
    · exact (e0.hok b u q.2).stay (fun _ _ _ z => z) (fun d z => ins z) fun d xs z => ins z
    · obtain ⟨_, _, _, o, g, rfl⟩ := q
      exact ⟨g, trivial, ⟨o, g⟩, fun _ _ _ _ => trivial⟩
end
end Q

set_option maxRecDepth 100000
set_option maxHeartbeats 4000000
/-! An address without an object stays so. -/
namespace Q
open PySem PySem.Spec PyProof.Rows L2 GenW
open PySem.W.X (SegX)
def Dead (h : Heap) (b : Addr) : Prop := b < h.objs.size ∧ h.get? b = none
theorem dead_push {h : Heap} {b : Addr} {o : Obj} (d : Dead h b) : Dead (h.push o) b :=
  ⟨by rw [Heap.size_push]; exact Nat.lt_succ_of_lt d.1, by rw [Heap.get?_push_ne h b o (Nat.ne_of_lt d.1)]; exact d.2⟩
theorem dead_update {h : Heap} {a b : Addr} {f : Obj → Obj} (d : Dead h b) (ha : (h.get? a).isSome) : Dead (h.update a f) b :=
  ⟨by rw [Heap.size_update]; exact d.1, by
    rw [Heap.get?_update_other h f (fun z => by subst z; rw [d.2] at ha; cases ha)]
    exact d.2⟩
theorem runs_dead {M : Model} {Γ : PySem.Ctx} {p : Pos} {t : Sem PySem.Fin} {fs : List Frame} {s s' : Shared} {e : End} {b : Addr} (h : Runs M Γ p t fs s e s') : Dead s.heap b → Dead s'.heap b := by
  induction h with
  | update q _ ih => exact fun d => ih (dead_update d q)
  | alloc _ ih => exact fun d => ih (dead_push d)
  | _ => intro d; first | exact d | (rename_i ih; exact ih d) | (rename_i ih1 ih2; exact ih2 (ih1 d))
theorem sx_dead {M : Model} {A : Around} {c : Code} {t : Sem PySem.Fin} {fs : List Frame} {s : Shared} {P : End → Shared → Prop} (x : SegX M A c t fs s P) : SegX M A c t fs s fun e s' => (∀ b, Dead s.heap b → Dead s'.heap b) ∧ P e s' := fun Γ p hc hΓ =>
  let ⟨e, s', hr, hq, hp⟩ := x Γ p hc hΓ
  ⟨e, s', hr, hq, fun _ d => runs_dead hr d, hp⟩
end Q

set_option maxRecDepth 100000
set_option maxHeartbeats 4000000
/-! A generator's turn, seen by its consumer; how it goes on. -/
namespace Q
open PySem PySem.Spec PyProof.Rows L2 GenW
open PySem.W.X (SegX wake_any)
theorem objOk_there {P : Program} {w : World} {H : Hp} {h : Heap} {a : Addr} {o : HO} (x : ObjOk P w H h a o) : ∃ ob, h.get? a = some ob := by
  cases o with
  | lst xs => obtain ⟨_, _, _, _, e⟩ := x; exact ⟨_, e⟩
  | tup xs => obtain ⟨_, _, _, ob, e, _⟩ := x; exact ⟨_, e⟩
  | dK kvs => obtain ⟨_, _, _, _, o, _, _, e, _⟩ := x; exact ⟨_, e⟩
  | dT kvs => obtain ⟨_, _, _, _, o, _, _, e, _⟩ := x; exact ⟨_, e⟩
  | set S n => obtain ⟨o, _, _, _, e, _⟩ := x; exact ⟨_, e⟩
  | ins C dx fs => obtain ⟨_, _, _, e, _⟩ := x; exact ⟨_, e⟩
  | own y => obtain ⟨_, e⟩ := x; exact ⟨_, e⟩
  | xd fs => obtain ⟨_, ⟨_, _, _, e, _⟩, _⟩ := x; exact ⟨_, e⟩
  | rng lo hi => obtain ⟨_, _, _, e⟩ := x; exact ⟨_, e⟩
  | frz ob u => obtain ⟨e, _⟩ := x; exact ⟨_, e⟩
  | tbl ps => exact ⟨_, (show h.get? a = some _ from x)⟩
  | met f y => exact ⟨_, (show h.get? a = some _ from x)⟩
  | ext φ => obtain ⟨_, ⟨_, e⟩, _⟩ := x; exact ⟨_, e⟩
/-- the consumer's abstract heap behind a turn -/
def back (Hc : Hp) (h : Heap) (pn' : List (Addr × Obj)) (H' : Hp) : Hp := fun b =>
  if ((Hc b).isNone && (h.get? b).isSome) || (pn'.map (·.1)).contains b then none else H' b
theorem back_eq {Hc : Hp} {h : Heap} {pn' : List (Addr × Obj)} {H' : Hp} {b : Addr} (h1 : Hc b ≠ none ∨ h.get? b = none) (h2 : ∀ p ∈ pn', p.1 ≠ b) : back Hc h pn' H' b = H' b := by
  unfold back
  have e1 : ((Hc b).isNone && (h.get? b).isSome) = false := by
    rcases h1 with z | z
    · cases q : Hc b with
      | none => exact absurd q z
      | some u => rfl
    · rw [z]; simp
  have e2 : (pn'.map (·.1)).contains b = false := by
    cases q : (pn'.map (·.1)).contains b with
    | false => rfl
    | true =>
      obtain ⟨p, hp, e⟩ := List.mem_map.mp (List.contains_iff_mem.mp q)
      exact absurd e (h2 p hp)
  rw [e1, e2]
  rfl
theorem back_none {Hc : Hp} {h : Heap} {pn' : List (Addr × Obj)} {H' : Hp} {b : Addr} {o : Obj} (h1 : Hc b = none) (h2 : h.get? b = some o) : back Hc h pn' H' b = none := by
  unfold back
  rw [h1, h2]
  rfl
theorem back_pin {Hc : Hp} {h : Heap} {pn' : List (Addr × Obj)} {H' : Hp} {p : Addr × Obj} (hp : p ∈ pn') : back Hc h pn' H' p.1 = none := by
  unfold back
  have e2 : (pn'.map (·.1)).contains p.1 = true := List.contains_iff_mem.mpr (List.mem_map_of_mem hp)
  rw [e2, Bool.or_true, if_pos rfl]
theorem back_some {Hc : Hp} {h : Heap} {pn' : List (Addr × Obj)} {H' : Hp} {b : Addr} {u : HO} (e : back Hc h pn' H' b = some u) : H' b = some u := by
  unfold back at e
  split at e
  · cases e
  · exact e
/-- a turn's end, for the consumer: pn, pn': the generator's own objects ahead of it and behind it -/
structure Left (P : Program) (w : World) (outer : List Env) (n : Nat) (pn pn' : List (Addr × Obj)) (s : Shared) (Hc : Hp) (s1 : Shared) (Hc1 : Hp) : Prop where
  os : s1.os = s.os
  bare : AllBare s1.gens
  un : Un (frs outer) (pn.map (·.1)) Hc Hc1 s.heap s1.heap
  hok : HOk P w Hc1 s1.heap
  same : L2.Same Hc Hc1
  pins : ∀ p ∈ pn', s1.heap.get? p.1 = some p.2 ∧ Hc1 p.1 = none
  own : ∀ p ∈ pn', (p.1 ∈ pn.map (·.1) ∨ s.heap.get? p.1 = none) ∧ ∀ v, p.2.data ≠ .cell v
section
variable {P : Program} {w : World} {K : PySem.W.Frag} {mg : Str → Option Value} {base : Heap} {N : List Str} {qual : Str} {scope : Scope} {f : Addr} {cd : Value} {A : Around} {outer : List Env} {n : Nat} {s s1 : Shared} {Hc H' : Hp} {fr : List Addr} {pv : Addr → Option (List V)} {σ : L2.St} {ps pn pn' : List (Addr × Obj)}
theorem gx_left (I : Inv (gx P w K mg base N qual scope f cd A outer n s (gH Hc n s.heap fr pv)) ps σ H' s1) (hfs : ∀ b ∈ frs outer, b < n)
    (hfr : ∀ b ∈ fr, n ≤ b ∧ b ∈ pn.map (·.1)) (hpv : ∀ b xs, pv b = some xs → n ≤ b ∧ b ∈ pn.map (·.1)) (hpn : ∀ p ∈ pn, Hc p.1 = none) (ok : HOk P w Hc s.heap) (same : L2.Same Hc H')
    (pr : ∀ b, b ∈ pn.map (·.1) ∨ b ∈ pn'.map (·.1) → ∀ u, H' b = some u → ∃ xs, u = .lst xs)
    (pins : ∀ p ∈ pn', s1.heap.get? p.1 = some p.2) (own : ∀ p ∈ pn', (p.1 ∈ pn.map (·.1) ∨ s.heap.get? p.1 = none) ∧ ∀ v, p.2.data ≠ .cell v) :
    Left P w outer n pn pn' s Hc s1 (back Hc s.heap pn' H') ∧ (∀ c u, H' c = some u → (∀ xs, u ≠ .lst xs) → (∀ o φ, u ≠ .frz o (.ext φ)) → back Hc s.heap pn' H' c = some u) := by
  have noA : ∀ b : Addr, b ∉ ([] : List Addr) := fun b z => nomatch z
  have low : ∀ b, b < n → b ∉ fr ∧ pv b = none := fun b l => ⟨fun z => Nat.lt_irrefl _ (Nat.lt_of_lt_of_le l (hfr b z).1), by
    cases q : pv b with
    | none => rfl
    | some xs => exact absurd (Nat.lt_of_lt_of_le l (hpv b xs q).1) (Nat.lt_irrefl _)⟩
  have off : ∀ b, b ∉ pn.map (·.1) → b ∉ fr ∧ pv b = none := fun b l => ⟨fun z => l (hfr b z).2, by
    cases q : pv b with
    | none => rfl
    | some xs => exact absurd (hpv b xs q).2 l⟩
  have npn : ∀ b u, Hc b = some u → b ∉ pn.map (·.1) := fun b u e z => by
    obtain ⟨p, hp, rfl⟩ := List.mem_map.mp z
    rw [hpn p hp] at e; cases e
  have npn' : ∀ b u, Hc b = some u → ∀ p ∈ pn', p.1 ≠ b := fun b u e p hp z => by
    subst z
    rcases (own p hp).1 with q | q
    · exact npn _ u e q
    · obtain ⟨o, z⟩ := objOk_there (ok _ u e)
      rw [q] at z; cases z
  have lock : ∀ b o, s.heap.get? b = some o → Hc b = none → n ≤ b → b ∉ pn.map (·.1) → H' b = some (.frz o (.ext fun _ => True)) := fun b o e1 e2 l z =>
    I.base.frzs b o _ (gH_lock (off b z).1 (off b z).2 e2 l e1)
  have live : ∀ c u, H' c = some u → (∀ xs, u ≠ .lst xs) → (∀ o φ, u ≠ .frz o (.ext φ)) → back Hc s.heap pn' H' c = some u := fun c u e nl nf => by
    rw [back_eq ?_ ?_]
    · exact e
    · cases q : Hc c with
      | some v => exact .inl (fun z => nomatch z)
      | none =>
        refine .inr ?_
        cases g : s.heap.get? c with
        | none => rfl
        | some o =>
          exfalso
          by_cases l : c < n
          · have := I.base.free c o (cut_of l g) (gH_low (low c l).1 (low c l).2 q l) (noA c)
            rw [e] at this
            cases this
          · by_cases z : c ∈ pn.map (·.1)
            · obtain ⟨xs, y⟩ := pr c (.inl z) u e
              exact nl xs y
            · have := lock c o g q (Nat.le_of_not_lt l) z
              rw [e] at this
              cases this
              exact nf _ _ rfl
    · intro p hp z
      subst z
      have z := List.mem_map_of_mem (f := fun x : Addr × Obj => x.1) hp
      obtain ⟨xs, y⟩ := pr p.1 (.inr z) u e
      exact nl xs y
  have sm : L2.Same Hc (back Hc s.heap pn' H') := fun b u e => by
    rw [back_eq (.inl (by rw [e]; exact fun z => nomatch z)) (npn' b u e)]
    exact same b u e
  refine ⟨⟨I.os, I.bare, ⟨fun b o e1 e2 e3 e4 => ?_, fun b o e1 e2 e3 e4 => ?_, fun b o e1 e2 _ => back_none e2 e1, fun b o e1 e2 => ?_, fun b xs e => sm _ _ e, fun b o u e => sm _ _ e, fun b qs e => ⟨#[], by rw [Array.append_empty]; exact sm _ _ e⟩⟩, fun b u e => ?_, sm, fun p hp => ⟨pins p hp, back_pin hp⟩, own⟩, live⟩
  · by_cases l : b < n
    · exact I.base.keep b o (cut_of l e1) (gH_low (low b l).1 (low b l).2 e2 l) e3 (noA b)
    · obtain ⟨q, _⟩ := I.hok b _ (lock b o e1 e2 (Nat.le_of_not_lt l) e4)
      exact q
  · have l := hfs b e3
    exact I.base.slot b o (cut_of l e1) (gH_low (low b l).1 (low b l).2 e2 l) e3 (noA b)
  · by_cases l : b < n
    · exact I.base.there b o (cut_of l e1) (noA b)
    · cases q : Hc b with
      | none => exact objOk_there (I.hok b _ (lock b o e1 q (Nat.le_of_not_lt l) e2))
      | some u => exact objOk_there (I.hok b u (same b u q))
  · exact (I.hok b u (back_some e)).stay (fun _ _ _ z => z) (fun d z => live d _ z (fun _ y => nomatch y) fun _ _ y => nomatch y) fun d xs z => live d _ z (fun _ y => nomatch y) fun _ _ y => nomatch y
end
/-- what a turn hands out -/
abbrev Item := V → Hp → Prop
/-- ahead of a turn: D: what the generator reads of its consumer's things -/
structure Good (P : Program) (w : World) (K : PySem.W.Frag) (mg : Str → Option Value) (base : Heap) (A : Around) (outer : List Env) (n : Nat) (D : Hp → Prop) (pn : List (Addr × Obj)) (s : Shared) (Hc : Hp) : Prop where
  e0 : Env0 P w K mg base A outer s Hc
  d : D Hc
  sz : n ≤ s.heap.objs.size
  pins : ∀ p ∈ pn, s.heap.get? p.1 = some p.2 ∧ Hc p.1 = none ∧ n ≤ p.1
/-- the generator that stands so hands out these items, then ends -/
def Going (P : Program) (w : World) (K : PySem.W.Frag) (mg : Str → Option Value) (base : Heap) (A : Around) (outer : List Env) (n : Nat) (D : Hp → Prop) : List Item → List (Addr × Obj) → Code → Sem PySem.Fin → List Frame → Prop
  | [], pn, c, t, fs => ∀ s Hc, Good P w K mg base A outer n D pn s Hc → SegX (model P w) A c t fs s fun e s1 => (e = .ret (.ok (.ret .none)) ∨ e = .ret (.ok .next)) ∧ ∃ Hc1, Left P w outer n pn [] s Hc s1 Hc1
  | it :: L, pn, c, t, fs => ∀ s Hc, Good P w K mg base A outer n D pn s Hc → SegX (model P w) A c t fs s fun e s1 => ∃ v l k c' p fs' x Hc1 pn', e = .susp v false l k c' p fs' ∧ RelV x v ∧ it x Hc1 ∧ Left P w outer n pn pn' s Hc s1 Hc1 ∧
      Going P w K mg base A outer n D L pn' c' (k (.send .none)) fs'
/-- the state of a generator that is to be woken -/
def Stands (gs : GenState) (c : Code) (t : Sem PySem.Fin) (fs : List Frame) : Prop :=
  (gs = .fresh c ∧ Resume.send Value.none = .send .none ∧ t = denote table c ∧ fs = []) ∨ ∃ k l p cl, gs = .suspended k l c p fs cl ∧ t = k (.send .none)
theorem gnext {P : Program} {w : World} {A : Around} {a : Addr} {g : Nat} {gs : GenState} {s : Shared} {c : Code} {t : Sem PySem.Fin} {fs : List Frame} {Φ : End → Shared → Prop} {Q : Option Value → Shared → Prop} {E : Value → Shared → Prop} (hh : A.handled = none) (hl : s.heap.NoLimit) (hroom : A.depth < recursionLimit) (hg : s.heap.IsGen a g) (hgs : s.gens[g]? = some gs)
    (st : Stands gs c t fs) (go : SegX (model P w) A.in1 c t fs (s.setGen g .running) Φ)
    (hΦ : ∀ e s1, Φ e s1 → (∃ v l k c' p fs', e = .susp v false l k c' p fs' ∧ Q (some v) (s1.setGen g e.genState)) ∨
      ((e = .ret (.ok (.ret .none)) ∨ e = .ret (.ok .next)) ∧ ∀ h', (∀ b o, s1.heap.get? b = some o → h'.get? b = some o) → Q none { s1.setGen g .finished with heap := h' })) :
    wpAny (model P w) A (pyNext (.ref a)) Q E s := by
  unfold pyNext
  refine wpAny_bind (wpAny_attempt (wpAny_callSpecial?_slot (name := Str.ofString "__next__") hg.typeIs slot_gen_next
    (wpAny_call_entry slot_gen_next hg.typeIs entry_gen_next ?_ (args_gen_next _))))
  show wpAny _ A.in1 (Builtin.Generator.genWake (.ref a) (.send .none)) _ _ s
  unfold Builtin.Generator.genWake
  refine wpAny_bind (wpAny_holding (wpAny_genNumber hg (wpAny_bind (wpAny_genState hgs ?_))))
  cases gs with
  | running => rcases st with ⟨z, _⟩ | ⟨_, _, _, _, z, _⟩ <;> cases z
  | finished => rcases st with ⟨z, _⟩ | ⟨_, _, _, _, z, _⟩ <;> cases z
  | _ =>
    refine wpAny_bind (wpAny_roomToWake hl hroom ?_)
    show wpAny _ A.in1 (.resume g (.send .none) [] _) _ _ s
    refine fun Γ p hΓ => wake_any _ P w hgs st (fun Γ => Γ.In A.in1) (fun _ h => h) (go.mono fun e s1 h Γ p hC => ?_) Γ p hΓ
    refine (?_ : wpAny (model P w) A.in1 _ _ _ _) Γ p hC
    rcases hΦ e s1 h with ⟨v, l, k, c', p', fs', rfl, hq⟩ | ⟨hr, hq⟩
    · exact wpAny_pure ⟨v, rfl, wpAny_pure hq⟩
    · have hres : e.result = .returned .none ∧ e.genState = .finished := by
        rcases hr with rfl | rfl <;> exact ⟨rfl, rfl⟩
      rw [hres.1, hres.2]
      show wpAny _ A.in1 (newExc (.type "StopIteration") [] >>= _) _ _ _
      refine wpAny_bind ?_
      simp only [newExc, newTuple]
      refine wpAny_bind (wpAny_newObj_type ?_ (by size_fits))
      refine wpAny_bind (m := firstArgMember _ _) (wpAny_of_eq (a := Value.none) (by first | rfl | (simp only [firstArgMember]; rfl)) ?_)
      refine wpAny_newObj_type ?_ (by size_fits)
      simp only [raiseNew]
      refine wpAny_bind (wpAny_bind (wpAny_handled ?_))
      first | rw [show A.in1.handled = none from hh] | rw [hh]
      refine wpAny_throw ?_
      refine wpAny_bind (wpAny_isInstance (T := "StopIteration") (b := true) ⟨_, Heap.get?_push_size _ rfl, rfl⟩ isSubtype_stop ?_)
      exact wpAny_pure (hq _ fun b o hb => Heap.get?_push_of_some _ (Heap.get?_push_of_some _ hb))
end Q

set_option maxRecDepth 100000
set_option maxHeartbeats 4000000
/-! for x in g(..): -/
namespace Q
open PySem PySem.Spec PyProof.Rows L2 GenW
open PySem.W.X (SegX wake_any)
theorem sx_quiet {M : Model} {A : Around} {c : Code} {t : Sem PySem.Fin} {fs : List Frame} {s : Shared} {P : End → Shared → Prop} (x : SegX M A c t fs s P) : SegX M A c t fs s fun e s' => e.quiet = true ∧ P e s' := fun Γ p hc hΓ =>
  let ⟨e, s', hr, hq, hp⟩ := x Γ p hc hΓ
  ⟨e, s', hr, hq, hq, hp⟩
/-- an exception's fate asks nothing of the generators' table -/
def XU (X : Cx) : Prop := ∀ (O : Own) (e : Value) (s : Shared), Hid O s.gens → X.xe e s → X.xe e (undo O s)
theorem inv_gens {X : Cx} {pins : List (Addr × Obj)} {σ : L2.St} {H : Hp} {s : Shared} {G : Array GenState} (I : Inv X pins σ H s) (hG : AllBare G) : Inv X pins σ H { s with gens := G } :=
  ⟨I.ok, I.os, hG, I.base, I.loc, I.cell, I.free, I.freeC, I.pin, I.hok, I.len⟩
theorem inv_undo {X : Cx} {pins : List (Addr × Obj)} {σ : L2.St} {H : Hp} {s : Shared} {O : Own} (I : Inv X pins σ H s) (h : Hid O s.gens) : Inv X pins σ H (undo O s) := inv_gens I (undo_bare h I.bare)
def GenObj (g : Nat) (o : Obj) : Prop := ∃ nm qn, o.cls = .type "generator" ∧ o.data = .fields #[.int g 0, nm, qn] ∧ o.slots = #[]
/-- the generator a (number g; called when the heap had n objects), between two turns; pn: its own objects -/
structure Held (X : Cx) (pins : List (Addr × Obj)) (n a g : Nat) (go : Obj) (pn : List (Addr × Obj)) (σ : L2.St) (H : Hp) (s : Shared) : Prop where
  inv : Inv X (pins ++ [(a, go)]) σ H s
  obj : GenObj g go
  an : n ≤ a
  pn : ∀ p ∈ pn, s.heap.get? p.1 = some p.2 ∧ FpOk X (pins ++ [(a, go)]) H p.1 ∧ n ≤ p.1 ∧ ∀ v, p.2.data ≠ .cell v
def SleepsA (X : Cx) (A : Around) (n g : Nat) (D : Hp → Prop) (L : List Item) (pn : List (Addr × Obj)) (s : Shared) : Prop :=
  ∃ gs c t fs, s.gens[g]? = some gs ∧ Stands gs c t fs ∧ Going X.prog X.w X.K X.mg X.base A.in1 X.stack n D L pn c t fs
abbrev Sleeps (X : Cx) := SleepsA X X.A
/-- it has not begun -/
def Begins (X : Cx) (k n g : Nat) (D : Hp → Prop) (L : List Item) (pn : List (Addr × Obj)) (s : Shared) : Prop :=
  ∃ c, s.gens[g]? = some (.fresh c) ∧ ∀ A, Room k A → A.frames = some X.stack → Going X.prog X.w X.K X.mg X.base A X.stack n D L pn c (denote table c) []
theorem room_in1 {k : Nat} {A : Around} (h : Room (k + 1) A) : Room k A.in1 := ⟨h.hd, by have := h.dp; show A.depth + 3 * k + 5 < _; omega, by have := h.un; show A.units + 1 + 16 * k + 200 < _; omega⟩
theorem Begins.at {X : Cx} {k n g : Nat} {D : Hp → Prop} {L : List Item} {pn : List (Addr × Obj)} {s : Shared} {A : Around} (h : Begins X k n g D L pn s) (hr : Room (k + 1) A) (hf : A.frames = some X.stack) : SleepsA X A n g D L pn s := by
  obtain ⟨c, h1, h3⟩ := h
  exact ⟨_, c, _, [], h1, .inl ⟨rfl, rfl, rfl, rfl⟩, h3 _ (room_in1 hr) hf⟩
section
variable {X : Cx} {A : Around} {pins pn : List (Addr × Obj)} {n a g : Nat} {go : Obj} {σ : L2.St} {H : Hp} {s : Shared} {D : Hp → Prop} {L : List Item} {it : Item}
theorem Held.at (h : Held X pins n a g go pn σ H s) : s.heap.get? a = some go ∧ H a = none := by
  obtain ⟨e, z, _⟩ := h.inv.pin (a, go) (List.mem_append_right _ (List.mem_append_right _ List.mem_cons_self))
  exact ⟨e, z⟩
theorem Held.isGen (h : Held X pins n a g go pn σ H s) : s.heap.IsGen a g := by
  obtain ⟨nm, qn, h1, h2, h3⟩ := h.obj
  exact ⟨go, nm, qn, h.at.1, h1, h2, h3⟩
theorem Held.good (h : Held X pins n a g go pn σ H s) (hf : A.frames = some X.stack) (d : D H) : Good X.prog X.w X.K X.mg X.base A.in1 X.stack n D pn s H :=
  ⟨⟨hf, h.inv.env0.mod, h.inv.env0.bs, h.inv.env0.bsz, h.inv.env0.funs, h.inv.env0.frf, h.inv.env0.hok, h.inv.env0.bare⟩, d, Nat.le_trans h.an (Nat.le_of_lt (Heap.lt_size h.at.1)), fun p hp => ⟨(h.pn p hp).1, (h.pn p hp).2.1.1, (h.pn p hp).2.2.1⟩⟩
/-- all pins, for what runs while it sleeps -/
theorem Held.all (h : Held X pins n a g go pn σ H s) : Inv X (pins ++ [(a, go)] ++ pn) σ H s := h.inv.pins_of fun p hp => by
  rcases List.mem_append.mp hp with z | z
  · exact h.inv.pin p (List.mem_append_right _ z)
  · obtain ⟨h1, ⟨f0, f1, f2, _⟩, _, h5⟩ := h.pn p z
    exact ⟨h1, f0, f1, f2, h5⟩
theorem Held.of_all {σ' : L2.St} {H' : Hp} {s' : Shared} (h : Held X pins n a g go pn σ H s) (I : Inv X (pins ++ [(a, go)] ++ pn) σ' H' s') : Held X pins n a g go pn σ' H' s' := by
  refine ⟨I.pins_of fun p hp => I.pin p (List.mem_append_right _ (List.mem_append_left _ hp)), h.obj, h.an, fun p hp => ?_⟩
  obtain ⟨_, ⟨_, f⟩, h3, h5⟩ := h.pn p hp
  obtain ⟨e1, e2, _⟩ := I.pin p (List.mem_append_right _ (List.mem_append_right _ hp))
  exact ⟨e1, ⟨e2, f⟩, h3, h5⟩
/-- behind a turn -/
theorem Held.left {pn' : List (Addr × Obj)} {s1 : Shared} {H1 : Hp} {G : Array GenState} {G0 : Array GenState} (h : Held X pins n a g go pn σ H s) (l : Left X.prog X.w X.stack n pn pn' { s with gens := G0 } H s1 H1) (dd : ∀ b, Dead s.heap b → Dead s1.heap b) (hG : AllBare G) : Held X pins n a g go pn' σ H1 { s1 with gens := G } := by
  have asz := Heap.lt_size h.at.1
  refine ⟨h.inv.call' (ch := pn.map (·.1)) l.os l.un l.hok hG fun b hb => ?_, h.obj, h.an, fun p hp => ?_⟩
  · obtain ⟨p, hp, rfl⟩ := List.mem_map.mp hb
    obtain ⟨_, ⟨_, f1, f2, f3, f4, f5⟩, _⟩ := h.pn p hp
    exact ⟨f3, f1, f4, f5⟩
  · obtain ⟨e1, e2⟩ := l.pins p hp
    obtain ⟨h1, h3⟩ := l.own p hp
    rcases h1 with y | y
    · obtain ⟨q, hq, e⟩ := List.mem_map.mp y
      obtain ⟨_, ⟨_, f⟩, g3, _⟩ := h.pn q hq
      exact ⟨e1, ⟨e2, e ▸ f⟩, e ▸ g3, h3⟩
    · have yy : s.heap.objs.size ≤ p.1 := Nat.le_of_not_lt fun q => by
        have := (dd p.1 ⟨q, y⟩).2
        rw [e1] at this
        cases this
      exact ⟨e1, h.inv.fpOk yy e2, Nat.le_trans h.an (Nat.le_trans (Nat.le_of_lt asz) yy), h3⟩
theorem Good.run {P : Program} {w : World} {K : PySem.W.Frag} {mg : Str → Option Value} {base : Heap} {outer : List Env} {Hc : Hp} (h : Good P w K mg base A outer n D pn s Hc) : Good P w K mg base A outer n D pn (s.setGen g .running) Hc :=
  ⟨⟨h.e0.frames, h.e0.mod, h.e0.bs, h.e0.bsz, h.e0.funs, h.e0.frf, h.e0.hok, allBare_setGen h.e0.bare rfl⟩, h.d, h.sz, h.pins⟩
theorem next_item {E : Value → Shared → Prop} (hh : A.handled = none) (hd : A.depth < recursionLimit) (hf : A.frames = some X.stack) (h : Held X pins n a g go pn σ H s) (z : SleepsA X A n g D (it :: L) pn s) (d : D H) :
    wpAny (model X.prog X.w) A (pyNext (.ref a)) (fun r s1 => ∃ v x H1 pn', r = some v ∧ RelV x v ∧ it x H1 ∧ L2.Same H H1 ∧ Held X pins n a g go pn' σ H1 s1 ∧ SleepsA X A n g D L pn' s1 ∧ ∃ gs, s1.gens[g]? = some gs ∧ asleep gs = true) E s := by
  obtain ⟨gs, c, t, fs, e, st, G⟩ := z
  have hgl : g < s.gens.size := (Array.getElem?_eq_some_iff.mp e).1
  refine wpAny_gsz (n := g + 1) hgl (gnext hh h.inv.nolimit hd h.isGen e st (sx_quiet (sx_dead (G _ H (h.good hf d).run))) fun en s1 he => ?_)
  obtain ⟨hq, dd, v, l, k, c', p, fs', x, H1, pn', rfl, rv, hi, lf, G'⟩ := he
  refine .inl ⟨v, l, k, c', p, fs', rfl, fun hsz => ?_⟩
  have hb : (End.genState (.susp v false l k c' p fs')).bare = true := End.bare_of_quiet hq
  have hsz1 : g < s1.gens.size := by
    rw [setGen_size] at hsz
    exact hsz
  exact ⟨v, x, H1, pn', rfl, rv, hi, lf.same, h.left lf dd (allBare_setGen lf.bare hb), ⟨_, c', _, fs', setGen_at hsz1, .inr ⟨k, l, p, _, rfl, rfl⟩, G'⟩, _, setGen_at hsz1, rfl⟩
theorem next_end {E : Value → Shared → Prop} (hh : A.handled = none) (hd : A.depth < recursionLimit) (hf : A.frames = some X.stack) (h : Held X pins n a g go pn σ H s) (z : SleepsA X A n g D [] pn s) (d : D H) :
    wpAny (model X.prog X.w) A (pyNext (.ref a)) (fun r s1 => r = none ∧ ∃ H1, L2.Same H H1 ∧ Inv X pins σ H1 s1) E s := by
  obtain ⟨gs, c, t, fs, e, st, G⟩ := z
  refine gnext hh h.inv.nolimit hd h.isGen e st (sx_dead (G _ H (h.good hf d).run)) fun en s1 he => ?_
  obtain ⟨dd, hr, H1, lf⟩ := he
  refine .inr ⟨hr, fun h' hk => ⟨rfl, H1, lf.same, ?_⟩⟩
  have I := (h.left lf dd (allBare_setGen (g := g) (x := .finished) lf.bare rfl)).inv
  have I2 : Inv X pins σ H1 { s1 with gens := (s1.setGen g .finished).gens } := I.pins_of fun p hp => I.pin p (List.mem_append_right _ (List.mem_append_left _ hp))
  exact I2.kept (t' := s1.toks) hk
end
end Q

set_option maxRecDepth 100000
set_option maxHeartbeats 4000000
/-! for x in g(..): the rule. -/
namespace Q
open PySem PySem.Spec PyProof.Rows L2 GenW
/-- an expression whose value is a generator that has not begun: what it hands out, what it reads -/
abbrev TGn := L2.St → Hp → (List Item → (Hp → Prop) → Hp → Prop) → Prop
structure PGn (X : Cx) (k : Nat) (e : Expr) (tg : TGn) : Prop where
  run : ∀ (pins : List (Addr × Obj)) (s : Shared) (σ : L2.St) (H : Hp) (cont : List Item → (Hp → Prop) → Hp → Prop), Inv X pins σ H s → tg σ H cont → wpAny (model X.prog X.w) X.A (eval e X.env)
    (fun u s' => ∃ H1 n a g go pn L D sc, u = .ref a ∧ (Inv X pins σ H1 sc ∧ n = sc.heap.objs.size ∧ s'.os = sc.os ∧ ∀ b o, sc.heap.get? b = some o → s'.heap.get? b = some o) ∧ Held X pins n a g go pn σ H1 s' ∧ Begins X k n g D L pn s' ∧ cont L D H1) X.xe s
/-- W: the invariant by what has been handed out -/
def tForG (tg : TGn) (g : TG) (tb : TS) : TS := fun D σ H => tg σ H fun L Dd H1 => ∃ W : Nat → L2.St → Hp → Prop, W 0 σ H1 ∧
  (∀ j it σ H, L[j]? = some it → W j σ H → Dd H ∧ ∀ x H', L2.Same H H' → it x H' → g x σ H' fun σ2 H2 => tb { D with nx := W (j + 1), ct := W (j + 1), bk := D.nx } σ2 H2) ∧
  ∀ σ H, W L.length σ H → Dd H ∧ ∀ H', L2.Same H H' → D.nx σ H'
section
variable {X : Cx}
theorem drop_get {α : Type} {L : List α} {j : Nat} {x : α} (h : L[j]? = some x) : L.drop j = x :: L.drop (j + 1) := by
  obtain ⟨h1, h2⟩ := List.getElem?_eq_some_iff.mp h
  rw [List.drop_eq_getElem_cons h1, h2]
theorem sp_undo {pins : List (Addr × Obj)} {D : Ends} {f : Flow} {s : Shared} {O : Own} (h : L2.SP X pins D f s) (hi : Hid O s.gens) : L2.SP X pins D f (undo O s) := by
  cases f with
  | next => obtain ⟨σ, H, I, q⟩ := h; exact ⟨σ, H, inv_undo I hi, q⟩
  | brk => obtain ⟨σ, H, I, q⟩ := h; exact ⟨σ, H, inv_undo I hi, q⟩
  | cont => obtain ⟨σ, H, I, q⟩ := h; exact ⟨σ, H, inv_undo I hi, q⟩
  | ret u => obtain ⟨v, σ, H, I, r1, q⟩ := h; exact ⟨v, σ, H, inv_undo I hi, r1, q⟩
theorem ps_forG {x : Str} {xp : Pos} {iter : Expr} {body : List Stmt} {tg : TGn} {g : TG} {tb : TS} {pos : Pos} {k : Nat} (hp : PassesOwn (model X.prog X.w) X.A X.env X.xe) (hc : X.calm = true) (hxu : XU X) (hr : Room (k + 1) X.A) (hi : PGn X k iter tg) (hg : PG X (.Name x xp) g) (hb : PSs X body tb)
    (hs : ∀ x, foldedSetIterable iter X.env x = pure x := by intro _; rfl) : PS X (.For (.Name x xp) iter body [] pos) (tForG tg g tb) := by
  refine ⟨fun pins s σ H D I h => ?_⟩
  refine wpAny_For (thn (hi.run pins s σ H _ I h) fun v s1 h1 => ?_) hs
  obtain ⟨H1, n, a, gn, go, pn, L, Dd, _, rfl, _, hl, hb0, W, w0, turn, done⟩ := h1
  have hd := hr.depth
  have hf := hl.inv.ok.frames
  have hz := hb0.at hr hf
  have hh : X.A.handled = none := hl.inv.ok.hd hc
  refine wpAny_pyIter_gen hl.isGen ?_
  refine codeAny_forLoop_any (fun m s' => ∃ j σ' H' pn', m = L.length - j ∧ j ≤ L.length ∧ Held X pins n a gn go pn' σ' H' s' ∧ Sleeps X n gn Dd (L.drop j) pn' s' ∧ W j σ' H') ?_ L.length ⟨0, σ, H1, pn, by simp, Nat.zero_le _, hl, hz, w0⟩
  rintro m s3 ⟨j, σ3, H3, pn3, rfl, hj, hl3, hz3, w3⟩
  by_cases hlt : j < L.length
  · have hit : L[j]? = some L[j] := by simp [hlt]
    obtain ⟨d3, body3⟩ := turn j L[j] σ3 H3 hit w3
    rw [drop_get hit] at hz3
    refine thn (next_item hh hd hf hl3 hz3 d3) fun r s4 h4 => ?_
    obtain ⟨v, xv, H4, pn4, rfl, rv, hx, sm, hl4, hz4, gs, hgs, has⟩ := h4
    refine wpAny_pure ?_
    have st := body3 xv H4 sm hx
    have hO := ownOf_at hgs has
    have I4 : Inv X (pins ++ [(a, go)] ++ pn4) σ3 H4 (hush s4) := inv_gens hl4.all (hush_bare hl4.inv.bare)
    have r4 : s4 = undo (ownOf s4) (hush s4) := (undo_hush s4).symm
    have keep : ∀ {s7 : Shared}, Hid (ownOf s4) s7.gens → Sleeps X n gn Dd (L.drop (j + 1)) pn4 (undo (ownOf s4) s7) := fun {s7} hid => by
      obtain ⟨gs', c, t, fs, e, q⟩ := hz4
      rw [hgs] at e
      cases e
      exact ⟨gs, c, t, fs, undo_keeps hid hO, q⟩
    have hid4 := hush_hid s4
    generalize ownOf s4 = O at *
    have pass : ∀ {α : Type} {t : Sem α} {Q Q' : α → Shared → Prop} {s : Shared}, Hid O s.gens → wpAny (model X.prog X.w) X.A t Q X.xe s → (∀ r s1, Hid O s1.gens → Q r s1 → Q' r (undo O s1)) → wpAny (model X.prog X.w) X.A t Q' X.xe (undo O s) := fun hid h hq =>
      wpAny_undo hid h hq fun e s1 hid1 hx => hxu O e s1 hid1 hx
    rw [r4]
    refine wpAny_passesOwn hp (pass hid4 (hg.run _ _ σ3 H4 xv v _ I4 rv st) fun _ s5 hid5 ⟨σ5, H5, I5, q5⟩ => ?_)
    refine wpAny_passesOwn hp (pass hid5 (hb.run _ s5 σ5 H5 _ I5 q5) fun f s6 hid6 q6 => ?_)
    have q7 := sp_undo q6 hid6
    have un : ∀ {σ7 : L2.St} {H7 : Hp}, Inv X (pins ++ [(a, go)] ++ pn4) σ7 H7 (undo O s6) → Inv X pins σ7 H7 (undo O s6) := fun {σ7 H7} J => J.pins_of fun p hp => J.pin p (List.mem_append_right _ (List.mem_append_left _ (List.mem_append_left _ hp)))
    have again : ∀ {σ7 : L2.St} {H7 : Hp}, Inv X (pins ++ [(a, go)] ++ pn4) σ7 H7 (undo O s6) → W (j + 1) σ7 H7 → ∃ m, m < L.length - j ∧ ∃ j' σ' H' pn', m = L.length - j' ∧ j' ≤ L.length ∧ Held X pins n a gn go pn' σ' H' (undo O s6) ∧ Sleeps X n gn Dd (L.drop j') pn' (undo O s6) ∧ W j' σ' H' := fun {σ7 H7} I7 w7 =>
      ⟨L.length - (j + 1), by omega, j + 1, σ7, H7, pn4, rfl, hlt, hl4.of_all I7, keep hid6, w7⟩
    cases f with
    | next => obtain ⟨σ7, H7, I7, n7⟩ := q7; exact again I7 n7
    | cont => obtain ⟨σ7, H7, I7, n7⟩ := q7; exact again I7 n7
    | brk => obtain ⟨σ7, H7, I7, q7⟩ := q7; exact ⟨σ7, H7, un I7, q7⟩
    | ret v => obtain ⟨x7, σ7, H7, I7, r7, q7⟩ := q7; exact ⟨x7, σ7, H7, un I7, r7, q7⟩
  · have e : j = L.length := by omega
    subst e
    obtain ⟨d3, nx⟩ := done σ3 H3 w3
    rw [List.drop_length] at hz3
    refine thn (next_end hh hd hf hl3 hz3 d3) fun r s4 h4 => ?_
    obtain ⟨rfl, H4, sm, I4⟩ := h4
    exact wpAny_execs_nil ⟨σ3, H4, I4, nx H4 sm⟩
end
end Q

set_option maxRecDepth 100000
set_option maxHeartbeats 4000000
/-! A generator def: its call, its body's statements. -/
namespace Q
open PySem PySem.Spec PyProof.Rows L2 GenW
open PySem.W.X (SegX wake_any)
theorem cx_undo {P : Program} {w : World} {outer : List Env} {H : Hp} {s s' : Shared} {E : XK} {e : Value} {O : Own} (hi : Hid O s'.gens) (c : L2.CX P w outer H s E e s') : L2.CX P w outer H s E e (undo O s') := by
  obtain ⟨a, B, H', cls, d, h1, h2, h3, h4, h5, h6, h7, h8⟩ := c
  exact ⟨a, B, H', cls, d, h1, h2, h3, h4, h5, h6, undo_bare hi h7, h8⟩
theorem xu_cx {P : Program} {w : World} {K : PySem.W.Frag} {mg : Str → Option Value} {base : Heap} {N : List Str} {qual : Str} {scope : Scope} {f : Addr} {cd : Value} {A : Around} {outer : List Env} {s : Shared} {H : Hp} {E : XK} :
    XU (cxOf (L2.CX P w) P w K mg base N qual scope f cd A outer s H E) := fun O e s' hi x =>
  wpAny_undo hi x (fun _ s1 h1 c => cx_undo h1 c) fun _ s1 h1 c => cx_undo h1 c
/-! ### the call -/
abbrev SpX := List V → List Item → (Hp → Prop) → Prop
/-- what a call gives -/
def GxMade (P : Program) (w : World) (K : PySem.W.Frag) (mg : Str → Option Value) (base : Heap) (k : Nat) (outer : List Env) (s : Shared) (L : List Item) (D : Hp → Prop) (u : Value) (s' : Shared) : Prop :=
  ∃ (a : Addr) (g : Nat) (c : Code) (go oL : Obj), u = .ref a ∧ GenObj g go ∧ s'.heap.get? a = some go ∧ s.heap.objs.size < a ∧ s'.heap.get? s.heap.objs.size = some oL ∧ (∀ v, oL.data ≠ .cell v) ∧ s'.gens[g]? = some (.fresh c) ∧ s'.os = s.os ∧ AllBare s'.gens ∧
    (∀ b o, s.heap.get? b = some o → s'.heap.get? b = some o) ∧ ∀ A, Room k A → A.frames = some outer → Going P w K mg base A outer s.heap.objs.size D L [(s.heap.objs.size, oL)] c (denote table c) []
structure GFx (P : Program) (w : World) (K : PySem.W.Frag) (mg : Str → Option Value) (base : Heap) (k : Nat) (f : Addr) (fd : FuncData) (ps : List Str) (sp : SpX) : Prop where
  len : ∀ vs L D, sp vs L D → vs.length = ps.length
  run : ∀ (A : Around) (outer : List Env) (s : Shared) (H : Hp) (args : Args) (us : List Value) (vs : List V) (L : List Item) (D : Hp → Prop), Room k A → Env0 P w K mg base A outer s H → BindsTo s fd args (ps.zip us) → Vals vs us → sp vs L D →
    codeAny (model P w) A (.call (.ref f) args) (fun r s' => match r with | .ok (.ret u) => GxMade P w K mg base k outer s L D u s' | _ => False) s
/-- what a generator def's body is to show -/
def BodyX (P : Program) (w : World) (K : PySem.W.Frag) (mg : Str → Option Value) (base : Heap) (N : List Str) (qual : Str) (scope : Scope) (f : Addr) (body : List Stmt) (k : Nat) (sp : SpX) : Prop :=
  ∀ (cdv : Value) (A : Around) (outer : List Env) (n : Nat) (oL : Obj) (vs : List V) (L : List Item) (D : Hp → Prop), Room k (A.deeper (envOfC qual scope n f cdv)) → sp vs L D → base.objs.size ≤ n → (∀ b ∈ frs outer, b < n) →
    (∀ h : Heap, h.get? n = some oL → LocAt N scope n (start N vs) h) → (start N vs).length = N.length → Going P w K mg base A outer n D L [(n, oL)] (.func body (envOfC qual scope n f cdv)) (denote table (.func body (envOfC qual scope n f cdv))) []
theorem frs_lt {h base : Heap} : ∀ {l : List Env}, h.FunFrames base l → ∀ b ∈ frs l, b < h.objs.size
  | [], _, b, hb => nomatch hb
  | e :: l, ⟨_, ⟨L, o, h2, _, h4, _⟩, h6⟩, b, hb => by
    unfold frs at hb
    rw [List.filterMap_cons, h2] at hb
    rcases List.mem_cons.mp hb with z | z
    · rw [z]; exact Heap.lt_size h4
    · exact frs_lt h6 b z
theorem FunD.okX {P : Program} {w : World} {K : PySem.W.Frag} {mg : Str → Option Value} {base : Heap} {x qual : Str} {params : Arguments} {body : List Stmt} {scope : Scope} {dvs : List V} {kws : List (Str × V)} {f : Addr} {fd : FuncData} {N ps : List Str} {k : Nat} {sp : SpX}
    (F : FunD K x qual params body scope dvs kws f fd) (S : GScope N ps scope) (nc : NoCells scope) (len : ∀ vs L D, sp vs L D → vs.length = ps.length) (hbody : BodyX P w K mg base N qual scope f body k sp) : GFx P w K mg base (k + 1) f fd ps sp := by
  obtain ⟨oc, od, dV, kV, doc, pm, an, cdv, ct, osl, rfl, lk, hcd, _, _⟩ := F.ex
  refine ⟨len, fun A outer s H args us vs L D hr e0 hb r hsp => ?_⟩
  have hl := len _ _ _ hsp
  have KX : K.In s.heap := e0.mod.kin.keeps fun b o e => (e0.bs b o e).1
  have lim : s.heap.NoLimit := e0.mod.nolimit.keeps fun b o e => (e0.bs b o e).1
  have hkind : ∀ y ∈ ps.zip us, scope.names.lookup y.1 = some .local ∨ (scope.names.lookup y.1 = some .cell ∧ ((cellsFrom (s.heap.objs.size + 1) scope.names []).lookup y.1).isSome = true) := fun ⟨n, v⟩ hy => by
    rcases S.par n (List.of_mem_zip hy).1 with q | q
    · exact .inl q
    · exact .inr ⟨q, PySem.W.cellsFrom_some _ _ _ (.inl q)⟩
  refine codeAny_call_generator hr.depth (KX _ _ lk) rfl S.co S.gen rfl (PySem.W.codeRec_of KX hcd) (hb _ _ _ _ ?_)
  refine wpAny_newFunctionEnv_cells S.kind hkind fun env he s1 x => ?_
  subst he
  have lim1 : s1.heap.NoLimit := lim.keeps x.toInCall.keep
  refine ⟨lim1, ?_⟩
  have I1 : Inv (gcxOf P w K mg base N qual scope f cdv A outer s H (fun _ _ _ => False) []) [] (start N vs) H s1 := inv_startG S hr.hd e0 hl r x
  obtain ⟨h1, tk, es1, hk1⟩ := x.done
  have os1 : s1.os = s.os := by rw [es1]
  have gen1 : s1.gens = s.gens := by rw [es1]
  have lt1 : s.heap.objs.size < s1.heap.objs.size := x.toInCall.ns.lt
  have kp1 : ∀ b o, s.heap.get? b = some o → s1.heap.get? b = some o := x.toInCall.keep
  have locs : LocAt N scope s.heap.objs.size (start N vs) s1.heap := by
    obtain ⟨m, h1, h2⟩ := I1.loc
    refine ⟨m, h1, fun i y v e1 e2 e3 => ?_⟩
    obtain ⟨u, ru, q⟩ := h2 i y v e1 e2 e3
    refine ⟨u, ru, ?_⟩
    rcases q with q | ⟨q, _⟩
    · exact q
    · exact absurd q fun z => z.elim (fun y => (nc.none _).1 y) fun y => (nc.none _).2 y
  obtain ⟨oL, heL⟩ : ∃ oL, s1.heap.get? s.heap.objs.size = some oL := by
    obtain ⟨m, ⟨o, _, _, e, _⟩, _⟩ := locs
    exact ⟨o, e⟩
  have noc : ∀ v, oL.data ≠ .cell v := fun v z => by
    obtain ⟨m, ⟨o, es, ep, e, d, _⟩, _⟩ := locs
    rw [heL] at e
    cases e
    rw [z] at d
    cases d
  have mv : ∀ h : Heap, h.get? s.heap.objs.size = some oL → LocAt N scope s.heap.objs.size (start N vs) h := fun h e => by
    obtain ⟨m, ⟨o, es, ep, e', d⟩, h2⟩ := locs
    rw [heL] at e'
    cases e'
    exact ⟨m, ⟨oL, es, ep, e, d⟩, h2⟩
  have main : ∀ (go : Obj) (nm qn : Value) (tk2 : Nat), go.cls = .type "generator" → go.data = .fields #[.int s1.gens.size 0, nm, qn] → go.slots = #[] → (∀ h : Heap, (h.push go).get? h.objs.size = some go) →
      GxMade P w K mg base (k + 1) outer s L D (.ref s1.heap.objs.size) { s1 with gens := s1.gens.push (.fresh (.func body (envOfC qual scope s.heap.objs.size f cdv))), toks := tk2, heap := s1.heap.push go } := by
    intro go nm qn tk2 hgc hgd hgs hgp
    refine ⟨s1.heap.objs.size, s1.gens.size, _, go, oL, rfl, ⟨nm, qn, hgc, hgd, hgs⟩, hgp _, lt1, Heap.get?_push_of_some _ heL, noc, Array.getElem?_push_size .., os1, AllBare.push (by rw [gen1]; exact e0.bare) rfl, fun b o e => Heap.get?_push_of_some _ (kp1 b o e), fun Aw hrw hfr => ?_⟩
    exact hbody cdv Aw outer s.heap.objs.size oL vs L D (hrw.deeper _) hsp e0.bsz (frs_lt e0.funs) mv I1.len
  exact main _ _ _ _ rfl rfl rfl fun h => Heap.get?_push_size _ rfl
/-- a generator def by its name -/
structure CalX (P : Program) (w : World) (K : PySem.W.Frag) (mg : Str → Option Value) (base : Heap) (k : Nat) (x : Str) (ps : List Str) (dvs : List V) (sp : SpX) : Prop where
  ex : ∃ (f : Addr) (fd : FuncData) (ds : List Value), GFx P w K mg base k f fd ps sp ∧ mg x = some (.ref f) ∧ PySem.W.keepIn K (.ref f) = true ∧ Binds K fd ps ds ∧ Vals dvs ds
def tCalX (sp : SpX) (dvs : List V) (t : TA) : TGn := fun σ H cont => t σ H fun vs H1 => ∃ L D, sp (vs ++ dvs) L D ∧ cont L D H1
theorem pgn_cal {X : Cx} {k : Nat} {ps : List Str} {sp : SpX} {dvs : List V} {x : Str} {p pos : Pos} {e : Expr} {es : List Expr} {t : TA} (C : CalX X.prog X.w X.K X.mg X.base k x ps dvs sp) (hr : Room k X.A) (ha : PA X (e :: es) t) (hg : Gl X x := by rfl) (hdb : (x == ("__debug__" : Str)) = false := by decide)
    (he : starEach (e :: es) X.env = (false, eval e X.env) :: starEach es X.env := by rfl) (hpl : (backTo pos (starEach es X.env)).any (·.1) = false := by rfl) :
    PGn X k (.Call (.Name x p) (e :: es) [] pos) (tCalX sp dvs t) := by
  obtain ⟨f, fd, ds, G, hm, hk, hb, hd⟩ := C.ex
  refine ⟨fun pins s σ H cont I h => ?_⟩
  refine wpAny_Call_Name_kw (ld_glob I hg hm ?_ hdb)
  refine PySem.W.callWith_K (h₀ := X.base) I.ok.mod.kin hk (thn (ha.run pos pins s σ H _ I h) fun us s1 ⟨vs, H1, I1, r, L, D, q, ct⟩ => ⟨I1.kIn, ?_⟩) he hpl
  have r2 : Vals (vs ++ dvs) (us ++ ds) := r.append hd
  have hl2 : (us ++ ds).length = ps.length := by rw [← r2.length]; exact G.len _ _ _ q
  refine wpAny_call (codeAny_mono (G.run X.A X.stack s1 H1 ⟨us, []⟩ (us ++ ds) (vs ++ dvs) L D hr I1.env0 (hb s1 us I1.kIn hl2) r2 q) fun r s' hq => ?_)
  cases r with
  | error e => exact False.elim hq
  | ok fl =>
    cases fl with
    | ret u =>
      obtain ⟨a, g, c, go, oL, rfl, ob, ga, an, gL, nc, gg, os, bare, kp, go2⟩ := hq
      have J : Inv X pins σ H1 s' := I1.call' (ch := []) os (Un.kept kp) (I1.hok.kept kp) bare fun b z => by simp at z
      have yo : ∀ b, s1.heap.objs.size ≤ b → H1 b = none ∧ b ≠ X.env.locals ∧ b ∉ X.fs := fun b hb => ⟨I1.hok.fresh hb, Nat.ne_of_gt (Nat.lt_of_lt_of_le I1.lt hb), I1.nofs hb⟩
      refine ⟨H1, s1.heap.objs.size, a, g, go, [(s1.heap.objs.size, oL)], L, D, s1, rfl, ⟨I1, rfl, os, kp⟩, ⟨J.pins_of fun p hp => ?_, ob, Nat.le_of_lt an, fun p hp => ?_⟩, ⟨c, gg, go2⟩, ct⟩
      · rcases List.mem_append.mp hp with z | z
        · exact J.pin p (List.mem_append_right _ z)
        · rw [List.mem_singleton.mp z]
          obtain ⟨y1, y2, y3⟩ := yo a (Nat.le_of_lt an)
          obtain ⟨nm, qn, _, hd, _⟩ := ob
          exact ⟨ga, y1, y2, y3, fun v z => by rw [hd] at z; cases z⟩
      · rw [List.mem_singleton.mp hp]
        obtain ⟨f0, f1, f2, f3, f4, f5⟩ := I1.fpOk (H' := H1) (Nat.le_refl _) (yo _ (Nat.le_refl _)).1
        refine ⟨gL, ⟨f0, f1, f2, f3, f4, fun q hq => ?_⟩, Nat.le_refl _, nc⟩
        rcases List.mem_append.mp hq with y | y
        · exact f5 q (List.mem_append_left _ y)
        · rcases List.mem_append.mp y with y | y
          · exact f5 q (List.mem_append_right _ y)
          · rw [List.mem_singleton.mp y]
            exact Nat.ne_of_gt an
    | next => exact False.elim hq
    | brk => exact False.elim hq
    | cont => exact False.elim hq
/-! ### the body's statements, within a turn -/
section
variable {X : Cx} {A : Around} {c : Code} {fs : List Frame} {P : End → Shared → Prop} {s : Shared} {pins : List (Addr × Obj)} {σ : L2.St} {H : Hp} {K : Flow → Sem PySem.Fin} {J : Value → Sem PySem.Fin} {gd : Bool → Bool} {lv : List Value → List Value}
theorem sx_ps {st : Stmt} {t : TS} (h : PS X st t) (I : Inv X pins σ H s) (Nx : L2.St → Hp → Prop) (q : t { nx := Nx, rt := fun _ _ => False } σ H) (over : A.over c fs = X.A) (hxe : ∀ e s, ¬ X.xe e s)
    (k : ∀ s' σ' H', Inv X pins σ' H' s' → Nx σ' H' → SegX (model X.prog X.w) A c (K .next) fs s' P) : SegX (model X.prog X.w) A c ((exec st X.env).wrap K J gd lv) fs s P := by
  refine sx_wrap ?_
  rw [over]
  refine wpAny_mono (h.run pins s σ H _ I q) (fun f s' hs => ?_) fun e s' hx => absurd hx (hxe e s')
  cases f with
  | next => obtain ⟨σ', H', I', n'⟩ := hs; exact k s' σ' H' I' n'
  | brk => obtain ⟨_, _, _, q⟩ := hs; exact False.elim q
  | cont => obtain ⟨_, _, _, q⟩ := hs; exact False.elim q
  | ret v => obtain ⟨_, _, _, _, _, q⟩ := hs; exact False.elim q
theorem sx_pss {st : List Stmt} {t : TS} (h : PSs X st t) (I : Inv X pins σ H s) (Nx : L2.St → Hp → Prop) (q : t { nx := Nx, rt := fun _ _ => False } σ H) (over : A.over c fs = X.A) (hxe : ∀ e s, ¬ X.xe e s)
    (k : ∀ s' σ' H', Inv X pins σ' H' s' → Nx σ' H' → SegX (model X.prog X.w) A c (K .next) fs s' P) : SegX (model X.prog X.w) A c ((execs st X.env).wrap K J gd lv) fs s P := by
  refine sx_wrap ?_
  rw [over]
  refine wpAny_mono (h.run pins s σ H _ I q) (fun f s' hs => ?_) fun e s' hx => absurd hx (hxe e s')
  cases f with
  | next => obtain ⟨σ', H', I', n'⟩ := hs; exact k s' σ' H' I' n'
  | brk => obtain ⟨_, _, _, q⟩ := hs; exact False.elim q
  | cont => obtain ⟨_, _, _, q⟩ := hs; exact False.elim q
  | ret v => obtain ⟨_, _, _, _, _, q⟩ := hs; exact False.elim q
end
end Q

set_option maxRecDepth 100000
set_option maxHeartbeats 4000000
/-! The points of a box, in ascending order. -/
namespace Q
/-- lo, lo + 1, .. below hi -/
def upTo (lo hi : Int) : List Int := (List.range (hi - lo).toNat).map fun (k : Nat) => lo + (k : Int)
def spots : List Int → List Int → List (List Int)
  | l :: ls, h :: hs => (upTo l h).flatMap fun v => (spots ls hs).map (v :: ·)
  | _, _ => [[]]
/-- those behind pt -/
def after : List Int → List Int → List Int → List (List Int)
  | _ :: ls, h :: hs, p :: pt => (after ls hs pt).map (p :: ·) ++ (upTo (p + 1) h).flatMap fun v => (spots ls hs).map (v :: ·)
  | _, _, _ => []
/-- the next one -/
def succ : List Int → List Int → List Int → Option (List Int)
  | _ :: ls, h :: hs, p :: pt => match succ ls hs pt with
    | some q => some (p :: q)
    | none => if p + 1 < h then some ((p + 1) :: ls) else none
  | _, _, _ => none
/-- a point within -/
inductive Within : List Int → List Int → List Int → Prop
  | nil : Within [] [] []
  | cons {l h p : Int} {ls hs pt : List Int} (a : l ≤ p) (b : p < h) (r : Within ls hs pt) : Within (l :: ls) (h :: hs) (p :: pt)
theorem upTo_cons {lo hi : Int} (h : lo < hi) : upTo lo hi = lo :: upTo (lo + 1) hi := by
  unfold upTo
  obtain ⟨n, e⟩ : ∃ n : Nat, (hi - lo).toNat = n + 1 := ⟨(hi - lo).toNat - 1, by omega⟩
  have e2 : (hi - (lo + 1)).toNat = n := by omega
  rw [e, e2, List.range_succ_eq_map, List.map_cons, List.map_map]
  congr 1
  · simp
  · apply List.map_congr_left
    intro k _
    show lo + ((k + 1 : Nat) : Int) = lo + 1 + (k : Int)
    omega
theorem upTo_nil {lo hi : Int} (h : hi ≤ lo) : upTo lo hi = [] := by
  unfold upTo
  rw [show (hi - lo).toNat = 0 by omega]
  rfl
theorem Within.low : ∀ {ls hs pt : List Int}, Within ls hs pt → Within ls hs ls
  | _, _, _, .nil => .nil
  | _, _, _, .cons a b r => .cons (Int.le_refl _) (by omega) r.low
theorem Within.length {ls hs pt : List Int} (h : Within ls hs pt) : hs.length = ls.length ∧ pt.length = ls.length := by
  induction h with
  | nil => exact ⟨rfl, rfl⟩
  | cons _ _ _ ih => exact ⟨by rw [List.length_cons, List.length_cons, ih.1], by rw [List.length_cons, List.length_cons, ih.2]⟩
theorem spots_low : ∀ {ls hs pt : List Int}, Within ls hs pt → spots ls hs = ls :: after ls hs ls
  | _, _, _, .nil => rfl
  | l :: ls, h :: hs, _, .cons a b r => by
    show (upTo l h).flatMap _ = _
    rw [upTo_cons (by omega), List.flatMap_cons]
    exact congrArg (fun z => z.map (l :: ·) ++ (upTo (l + 1) h).flatMap fun v => (spots ls hs).map (v :: ·)) (spots_low r)
theorem succ_in : ∀ {ls hs pt q : List Int}, Within ls hs pt → succ ls hs pt = some q → Within ls hs q
  | _, _, _, _, .nil, e => by cases e
  | l :: ls, h :: hs, p :: pt, q, .cons a b r, e => by
    unfold succ at e
    cases z : succ ls hs pt with
    | some q' =>
      rw [z] at e
      cases e
      exact .cons a b (succ_in r z)
    | none =>
      rw [z] at e
      have e : (if p + 1 < h then some ((p + 1) :: ls) else none) = some q := e
      split at e
      · cases e
        exact .cons (by omega) (by assumption) r.low
      · cases e
theorem after_eq : ∀ {ls hs pt : List Int}, Within ls hs pt → after ls hs pt = match succ ls hs pt with | some q => q :: after ls hs q | none => []
  | _, _, _, .nil => rfl
  | l :: ls, h :: hs, p :: pt, .cons a b r => by
    have ih := after_eq r
    show (after ls hs pt).map (p :: ·) ++ (upTo (p + 1) h).flatMap (fun v => (spots ls hs).map (v :: ·)) = _
    unfold succ
    cases z : succ ls hs pt with
    | some q =>
      rw [z] at ih
      have ih : after ls hs pt = q :: after ls hs q := ih
      rw [ih]
      rfl
    | none =>
      rw [z] at ih
      have ih : after ls hs pt = [] := ih
      rw [ih]
      show [] ++ _ = match (if p + 1 < h then some ((p + 1) :: ls) else none) with | some q => q :: after (l :: ls) (h :: hs) q | none => []
      by_cases c : p + 1 < h
      · rw [if_pos c, upTo_cons c, List.flatMap_cons]
        exact congrArg (fun z => z.map ((p + 1) :: ·) ++ (upTo (p + 1 + 1) h).flatMap fun v => (spots ls hs).map (v :: ·)) (spots_low r)
      · rw [if_neg c, upTo_nil (by omega)]
        rfl
/-! ### by columns, from the right -/
theorem succ_step {ls hs pt : List Int} (h1 : hs.length = ls.length) (h2 : pt.length = ls.length) {c : Nat} (hc : c < ls.length) :
    succ (ls.drop c) (hs.drop c) (pt.drop c) = match succ (ls.drop (c + 1)) (hs.drop (c + 1)) (pt.drop (c + 1)) with
      | some q => some (pt.getD c 0 :: q)
      | none => if pt.getD c 0 + 1 < hs.getD c 0 then some ((pt.getD c 0 + 1) :: ls.drop (c + 1)) else none := by
  have l1 : c < hs.length := by omega
  have l2 : c < pt.length := by omega
  have e1 : pt.getD c 0 = pt[c] := by rw [List.getD_eq_getElem?_getD, List.getElem?_eq_getElem l2]; rfl
  have e2 : hs.getD c 0 = hs[c] := by rw [List.getD_eq_getElem?_getD, List.getElem?_eq_getElem l1]; rfl
  rw [e1, e2, List.drop_eq_getElem_cons hc, List.drop_eq_getElem_cons l1, List.drop_eq_getElem_cons l2]
  rfl
theorem succ_up {ls hs pt : List Int} (h1 : hs.length = ls.length) (h2 : pt.length = ls.length) : ∀ {c : Nat} {q : List Int}, c ≤ ls.length → succ (ls.drop c) (hs.drop c) (pt.drop c) = some q → succ ls hs pt = some (pt.take c ++ q)
  | 0, q, _, e => e
  | c + 1, q, hc, e => by
    have l2 : c < pt.length := by omega
    have e1 : pt.getD c 0 = pt[c] := by rw [List.getD_eq_getElem?_getD, List.getElem?_eq_getElem l2]; rfl
    have z := succ_step h1 h2 (c := c) (by omega)
    rw [e] at z
    have z : succ (ls.drop c) (hs.drop c) (pt.drop c) = some (pt.getD c 0 :: q) := z
    have y := succ_up h1 h2 (by omega) z
    rw [y, e1, List.take_succ_eq_append_getElem l2, List.append_assoc]
    rfl
theorem within_get {ls hs pt : List Int} (h : Within ls hs pt) : ∀ {c : Nat}, c < ls.length → ls.getD c 0 ≤ pt.getD c 0 ∧ pt.getD c 0 < hs.getD c 0 := by
  induction h with
  | nil => intro c hc; exact absurd hc (Nat.not_lt_zero _)
  | cons a b r ih =>
    intro c hc
    cases c with
    | zero => exact ⟨a, b⟩
    | succ c => exact ih (by rw [List.length_cons] at hc; omega)
/-- the point while column c is looked at: all behind it is set back -/
def turned (ls pt : List Int) (c : Nat) : List Int := pt.take c ++ ls.drop c
theorem turned_length {ls pt : List Int} {c : Nat} (h : pt.length = ls.length) : (turned ls pt c).length = ls.length := by
  unfold turned
  rw [List.length_append, List.length_take, List.length_drop]
  omega
theorem turned_all {ls pt : List Int} (h : pt.length = ls.length) : turned ls pt ls.length = pt := by
  unfold turned
  rw [List.drop_length, List.append_nil, ← h, List.take_length]
theorem turned_at {ls pt : List Int} {c : Nat} (h : pt.length = ls.length) (hc : c < ls.length) : (turned ls pt (c + 1))[c]? = some (pt.getD c 0) := by
  have l2 : c < pt.length := by omega
  unfold turned
  rw [List.getElem?_append_left (by rw [List.length_take]; omega), List.getElem?_take_of_lt (by omega), List.getElem?_eq_getElem l2, List.getD_eq_getElem?_getD, List.getElem?_eq_getElem l2]
  rfl
theorem turned_set {ls pt : List Int} {c : Nat} {v : Int} (h : pt.length = ls.length) (hc : c < ls.length) : (turned ls pt (c + 1)).set c v = pt.take c ++ v :: ls.drop (c + 1) := by
  have l2 : c < pt.length := by omega
  unfold turned
  rw [List.take_succ_eq_append_getElem l2, List.append_assoc, List.set_append_right _ _ (by rw [List.length_take]; omega)]
  rw [List.length_take, show c - min c pt.length = 0 by omega]
  rfl
theorem turned_back {ls pt : List Int} {c : Nat} (h : pt.length = ls.length) (hc : c < ls.length) : (turned ls pt (c + 1)).set c (ls.getD c 0) = turned ls pt c := by
  rw [turned_set h hc]
  unfold turned
  rw [List.drop_eq_getElem_cons hc, List.getD_eq_getElem?_getD, List.getElem?_eq_getElem hc]
  rfl
end Q

set_option maxRecDepth 100000
set_option maxHeartbeats 4000000
/-! Texts repeated, great powers. -/
namespace Q
open PySem PySem.Spec PyProof.Rows L2
def rMulS : R2 := fun x y H Q => ∃ a n, x = .str a ∧ y = .int n ∧ MulOk a n ∧ Q (.str (Txt.mul a n)) H
theorem op_mulS {X : Cx} : OpR X (binaryOp .Mult) rMulS := by
  intro pins s σ H x y v u Q I rx ry h
  obtain ⟨a, n, rfl, rfl, hm, q⟩ := h
  obtain ⟨t, rfl⟩ := rx
  obtain ⟨t2, rfl⟩ := ry
  exact SB.mul hm fun t' k => ⟨.str _, H, I.tok _, ⟨_, rfl⟩, q⟩
theorem mul_len (x : Str) {n : Int} (h : 1 ≤ n) : (Txt.mul x n).length ≤ x.length * n.toNat := by
  unfold Txt.mul
  rw [if_neg (by omega)]
  split
  · exact Nat.le_mul_of_pos_right _ (by omega)
  · have e : ∀ (k : Nat) (acc : Array Nat), ((List.replicate k x.cps).foldl (· ++ ·) acc).size = acc.size + x.cps.size * k := by
      intro k
      induction k with
      | zero => intro acc; rfl
      | succ k ih =>
        intro acc
        rw [List.replicate_succ, List.foldl_cons, ih, Array.size_append, Nat.mul_succ]
        omega
    show ((List.replicate n.toNat x.cps).foldl (· ++ ·) #[]).size ≤ _
    rw [e]
    show 0 + _ ≤ _
    rw [Nat.zero_add]
    exact Nat.le_refl _
theorem op_powW {X : Cx} : OpR X (binaryOp .Pow) (rI (fun i j => 0 ≤ j ∧ (Builtin.Int.intBits i : Int) * j ≤ 2 ^ 27) fun i j => .int (i ^ j.toNat)) := opI fun _ _ _ _ _ _ _ hc q => pow_int hc.1 hc.2 q
/-- a power whose value is told -/
theorem op_powR {X : Cx} : OpR X (binaryOp .Pow) (fun x y H Q => ∃ i j r, x = .int i ∧ y = .int j ∧ (0 ≤ j ∧ (Builtin.Int.intBits i : Int) * j ≤ 2 ^ 27) ∧ i ^ j.toNat = r ∧ Q (.int r) H) := by
  intro pins s σ H x y v u Q I rx ry h
  obtain ⟨i, j, r, rfl, rfl, hc, rfl, q⟩ := h
  exact op_powW pins s σ H _ _ v u Q I rx ry ⟨i, j, rfl, rfl, hc, q⟩
end Q

set_option maxRecDepth 100000
set_option maxHeartbeats 4000000
/-! == and != of a class of one's own with __eq__ (either answer). -/
namespace Q
open PySem PySem.Spec PyProof.Rows L2
section
variable {prog : Program} {w : World} {A : Around} {E : Value → Shared → Prop} {s : Shared} {K : PySem.W.Frag} {x y C f : Addr} {ox : Obj} {od : Option Obj}
theorem ifBound_blt {M : Model} {id : String} {name : Str} {args : List Value} {Q : Option Value → Shared → Prop} (X : K.In s.heap) (I : PySem.W.InstAt s.heap x ox C od) (hs : PySem.W.findIn K (.ref C) name = some (some (.builtin id)))
    (hb : bindSpecial (.builtin id) (.ref x) = pure (.builtin id, [.ref x])) (h : wpAny M A (call (.builtin id) (.ref x :: args)) (fun v => Q (some v)) E s) : wpAny M A (callSpecialIfBound? (.ref x) name args) Q E s := by
  simp only [callSpecialIfBound?, bindSpecialIfBound?]
  refine wpAny_holding (wpAny_bind (wpAny_bind (wpAny_bind (I.type.here ((PySem.W.looks_findIn X hs).here ?_)))))
  refine wpAny_bind (wpAny_askSetting (wpAny_ite ?_))
  have fin : wpAny M A (call (.builtin id) ([.ref x] ++ args) >>= fun v => pure (some v)) Q E s := wpAny_bind (wpAny_mono h (fun v s' h' => wpAny_pure h') fun _ _ h' => h')
  rw [hb]
  split
  · exact wpAny_bind (wpAny_pure (wpAny_pure (by exact fin)))
  · exact wpAny_tryCatch (wpAny_bind (wpAny_pure (wpAny_pure (by exact fin))))
theorem ne_body {Q : PySem.Fin → Shared → Prop} (X : K.In s.heap) (I : PySem.W.InstAt s.heap x ox C od) (hs : PySem.W.findIn K (.ref C) "__eq__" = some (some (.ref f))) (hf : PySem.W.isFn K (.ref f) = true) (hu : A.units < cLine)
    (hcall : wpAny (model prog w) A (call (.ref f) [.ref x, .ref y]) (fun v s' => ∃ b, v = .bool b ∧ Q (.done (.ret (.bool (!b)))) s') E s) : wpAny (model prog w) A (Builtin.«object.__ne__» ⟨[.ref x, .ref y], []⟩) Q E s := by
  obtain ⟨h, g, d, t, os⟩ := s
  unfold Builtin.«object.__ne__»
  repeat (first
    | with_reducible refine wpAny_cRoomFor hu ?_
    | (refine wpAny_bind (m := callSpecialIfBound? (.ref x) (Str.ofString "__eq__") [.ref y])
        (PySem.W.ifBound_K X I hs hf (wpAny_mono hcall (fun r s' hr => by
          obtain ⟨b, rfl, hq⟩ := hr
          repeat (first | exact hq | exact wpAny_pure hq | exact wpAny_truthy_bool hq | (refine wpAny_bind (m := truthy (.bool _)) (wpAny_truthy_bool ?_)) | wp_step)) fun _ _ e => e)))
    | wp_step)
end
/-- what such a comparison wants -/
def rOwnEq (C : Addr) (sp : Sp) (E : XK) (flip : Bool) : R2 := fun x y H Q => ∃ a b dx dy fs gs, x = .ref a ∧ y = .ref b ∧ H a = some (.ins C dx fs) ∧ H b = some (.ins C dy gs) ∧ sp [.ref a, .ref b] H (fun v H' => ∃ r, v = .bl r ∧ Q (.bl (if flip then !r else r)) H') E
section
variable {X : Cx} {CX : CXT} {k : Nat} {C f : Addr} {fd : FuncData} {ps : List Str} {sp : Sp} {E : XK}
theorem op_eqO (F : FnOk X.prog X.w X.K X.mg X.base CX k f fd ps sp) (hr : Room k X.A) (hs : PySem.W.findIn X.K (.ref C) "__eq__" = some (some (.ref f))) (hf : PySem.W.isFn X.K (.ref f) = true) (hb : Binds X.K fd ps []) (hx : Passes CX X E) :
    OpR X (compareOp .Eq) (rOwnEq C sp E false) := by
  intro pins s σ H x y v u Q I rx ry h
  obtain ⟨a, b, dx, dy, fs, gs, rfl, rfl, ha, hb', q⟩ := h
  cases rx
  cases ry
  obtain ⟨mA, J, _⟩ := ins_get I.hok ha
  obtain ⟨mB, J', _⟩ := ins_get I.hok hb'
  obtain ⟨od, J, _⟩ := J.look
  obtain ⟨od', J', _⟩ := J'.look
  obtain ⟨m, hF⟩ := I.fr
  show wpAny (model X.prog X.w) X.A (richCompare .Eq (.ref a) (.ref b)) (EP X pins σ Q) X.xe s
  refine PySem.W.cmp_K (op := .Eq) (tb := .ref C) hr.units0 hF I.ok.mod.kin J J'.type (by simp [PySem.W.notFirst]) hs hf ?_
  refine wpAny_mono (run_fn (us := [.ref a, .ref b]) (vs := [.ref a, .ref b]) (dvs := []) (ds := []) F hr hb .nil hx I (.cons rfl (.cons rfl .nil)) q) (fun w s' hw => ?_) fun _ _ z => z
  obtain ⟨z, H', I', rz, r, rfl, qq⟩ := hw
  cases rz
  exact ⟨.bl r, H', I', rfl, qq⟩
theorem op_neO (F : FnOk X.prog X.w X.K X.mg X.base CX k f fd ps sp) (hr : Room (k + 1) X.A) (hs : PySem.W.findIn X.K (.ref C) "__eq__" = some (some (.ref f))) (hn : PySem.W.findIn X.K (.ref C) "__ne__" = some (some (.builtin "object.__ne__"))) (ho : PySem.W.subIn X.K (.ref C) (.type "object") = some true)
    (hf : PySem.W.isFn X.K (.ref f) = true) (hb : Binds X.K fd ps []) (hx : Passes CX X E) : OpR X (compareOp .NotEq) (rOwnEq C sp E true) := by
  intro pins s σ H x y v u Q I rx ry h
  obtain ⟨a, b, dx, dy, fs, gs, rfl, rfl, ha, hb', q⟩ := h
  cases rx
  cases ry
  obtain ⟨mA, J, _⟩ := ins_get I.hok ha
  obtain ⟨mB, J', _⟩ := ins_get I.hok hb'
  obtain ⟨od, J, _⟩ := J.look
  obtain ⟨od', J', _⟩ := J'.look
  show wpAny (model X.prog X.w) X.A (richCompare .NotEq (.ref a) (.ref b)) (EP X pins σ Q) X.xe s
  unfold richCompare
  simp only [oneThing_ref]
  refine wpAny_holding (wpAny_bind (wpAny_cRoomFor hr.units0 ?_))
  rw [cmpInfo_NotEq]
  dsimp only
  refine wpAny_bind (J.type.here (wpAny_bind (J'.type.here ?_)))
  have e1 : ((Value.ref C) != (Value.ref C)) = false := by simp
  rw [e1]
  simp only [Bool.false_eq_true, if_false]
  refine wpAny_bind (wpAny_pure ?_)
  simp only [Bool.false_eq_true, if_false]
  refine wpAny_bind (m := tryCompare (.ref a) (Str.ofString "__ne__") (.ref b)) ?_
  unfold tryCompare
  refine wpAny_bind (ifBound_blt I.kIn J hn (PySem.F.cmp_object.ne.bind _) ?_)
  refine wpAny_call (codeAny_call_builtin PySem.F.cmp_object.ne.plain PySem.F.cmpEntry_ne (PySem.W.check_slot PySem.F.cmpKind_ne PySem.F.cmpSplit_ne (J.type.andThen (PySem.W.looks_subIn I.kIn ho)) (PySem.F.cmpArgs_ne _ _) ?_))
  refine ne_body I.kIn J hs hf (by have := hr.un; show X.A.units + 1 < _; omega) ?_
  have hl := F.len _ _ _ _ q
  have bn := hb s [.ref a, .ref b] I.kIn (by simpa using hl)
  have rr : Room k X.A.in1 := ⟨hr.hd, by have := hr.dp; show X.A.depth + 3 * k + 5 < _; omega, by have := hr.un; show X.A.units + 1 + 16 * k + 200 < _; omega⟩
  refine wpAny_call (codeAny_mono (F.run X.A.in1 X.stack s H ⟨[.ref a, .ref b], []⟩ [.ref a, .ref b] [.ref a, .ref b] _ E rr I.env0.in1 (by simpa using bn) (.cons rfl (.cons rfl .nil)) q) fun r s' hq => ?_)
  cases r with
  | error e => exact hx pins σ H s e s' I hq
  | ok fl =>
    cases fl with
    | ret w =>
      obtain ⟨z, H', I', rz, r, rfl, qq⟩ := I.after hq
      cases rz
      exact ⟨r, rfl, wpAny_pure (wpAny_pure ⟨.bl (!r), H', I', rfl, qq⟩)⟩
    | next => exact False.elim hq
    | brk => exact False.elim hq
    | cont => exact False.elim hq
end
/-! ### cls(..), the class in a local -/
def tMakeL (i : Nat) (C : Addr) (sp : Sp) (dvs : List V) (E : XK) (t : TA) : TE := fun σ H Q => σ[i]? = some (some (.ref C)) ∧ t σ H fun vs H1 => ∀ x dx, H1 x = none → H1 dx = none → dx ≠ x →
  sp (.ref x :: (vs ++ dvs)) (upd (upd H1 dx (.own x)) x (.ins C dx [])) (fun v H2 => v = .non ∧ Q (.ref x) H2) E
theorem pe_makeL {X : Cx} {CX : CXT} {k i : Nat} {C f : Addr} {fd : FuncData} {ps : List Str} {sp : Sp} {dvs : List V} {ds : List Value} {E : XK} {x : Str} {p pos : Pos} {e : Expr} {es : List Expr} {t : TA} (M : Mk X.K C f) (F : FnOk X.prog X.w X.K X.mg X.base CX k f fd ps sp) (hr : Room (k + 1) X.A) (hN : X.N[i]? = some x) (hv : Vis X.env.scope x) (hb : Binds X.K fd ps ds) (hd : Vals dvs ds) (hx : Passes CX X E) (ha : PA X (e :: es) t)
    (hdb : (x == ("__debug__" : Str)) = false := by decide) (hcd : (x == ("__classdict__" : Str)) = false := by decide)
    (he : starEach (e :: es) X.env = (false, eval e X.env) :: starEach es X.env := by rfl) (hpl : (backTo pos (starEach es X.env)).any (·.1) = false := by rfl) : PE X (.Call (.Name x p) (e :: es) [] pos) (tMakeL i C sp dvs E t) := by
  refine ⟨fun pins s σ H Q I h => ?_⟩
  obtain ⟨hs, ht⟩ := h
  refine wpAny_Call_Name_kw (thn ((pe_var (pos := p) hN hv hdb hcd).run pins s σ H (fun v H1 => v = .ref C ∧ H1 = H) I ⟨.ref C, hs, rfl, rfl⟩) fun u s1 ⟨v, H1, I1, r1, q1⟩ => ?_)
  obtain ⟨rfl, rfl⟩ := q1
  cases r1
  refine PySem.W.callWith_K (h₀ := X.base) I.ok.mod.kin M.kp (thn (ha.run pos pins s1 σ _ _ I1 ht) fun us s2 ⟨vs, H2, I2, r, q⟩ => ⟨I2.kIn, ?_⟩) he hpl
  exact run_make M F hr hb hd hx I2 r q
end Q

set_option maxRecDepth 100000
set_option maxHeartbeats 4000000
/-! Facts of the top with classmethods: the defs' places as functions of K. -/
namespace Q
open PySem PySem.Spec PyProof.Rows L2
open PySem.W
def obsE (fb : Frag → Bool) (fn : List He5.DefA) (K : Frag) : He.AlD := (fb K && fn.all fun d => d.ok K, fn.map fun d => He5.fnA K (d.at_ K))
def SaysE (fb : Frag → Bool) (fn : List He5.DefA) (K : Frag) : Prop := obsE fb fn K = He5.valA fn
def obsEG (n : Nat) (fb : Frag → Bool) (fn : List He5.DefA) (g : Addr → Option Obj) : He.AlD := obsE fb fn (He.frG g (He5.asA g n))
def hookE (n : Nat) (fb : Frag → Bool) (fn : List He5.DefA) : Hook where
  α := He.AlD
  obs := fun s => obsEG n fb fn s.heap.get?
  val := fun _ => He5.valA fn
  says := fun _ h => ∃ K : Frag, K.In h ∧ SaysE fb fn K
  of := fun _ _ e => ⟨_, He.frG_in, e⟩
  keeps := fun _ _ _ ⟨K, inK, c⟩ k => ⟨K, Frag.In.keeps inK k, c⟩
theorem obsEG_eq {n : Nat} {fb : Frag → Bool} {fn : List He5.DefA} {g : Addr → Option Obj} {s : Shared} (h : ∀ a, g a = s.heap.get? a) : obsEG n fb fn g = (hookE n fb fn).obs s := by
  obtain rfl : g = s.heap.get? := funext h
  rfl
theorem SaysE.all {fb : Frag → Bool} {fn : List He5.DefA} {K : Frag} (c : SaysE fb fn K) : fb K = true ∧ ∀ d ∈ fn, d.ok K = true := by
  have z : (fb K && fn.all fun d => d.ok K) = true := congrArg (fun z : He.AlD => z.1) c
  exact ⟨(Bool.and_eq_true_iff.mp z).1, List.all_eq_true.mp (Bool.and_eq_true_iff.mp z).2⟩
theorem SaysE.def_ {fb : Frag → Bool} {fn : List He5.DefA} {K : Frag} (c : SaysE fb fn K) {d : He5.DefA} (h : d ∈ fn) : ∃ fd, FunD K d.name d.qual d.params d.body d.scope (d.dvs K) (d.kws K) (d.at_ K) fd := by
  have e : fn.map (fun d => He5.fnA K (d.at_ K)) = fn.map He5.DefA.val := congrArg (fun z : He.AlD => z.2) c
  exact He5.DefA.funD (List.map_inj_left.mp e d h) (c.all.2 d h)
theorem cread_ok {K : Frag} {C : Addr} (h : (readsIn K C (.type "type") && decide (specialIn K (.ref C) "__getattribute__" = some (some (.builtin "type.__getattribute__")))) = true) : ClX.CRead K C (.type "type") :=
  ⟨(He.ba h).1, of_decide_eq_true (He.ba h).2⟩
theorem cmet_ok {K : Frag} {C : Addr} {m : Str} (h : (He5.wrapB K C "classmethod" "classmethod.__get__" m && fnIn K (He5.wf K C "classmethod" m)) = true) : ClX.CMet K C (.type "type") m (He.ma K C m) (He5.wf K C "classmethod" m) :=
  He5.cmet_of (He.ba h).1 (He.ba h).2
/-- a class with an own __eq__ and no __ne__ -/
structure OwnEq (K : Frag) (C f : Addr) : Prop where
  eq : findIn K (.ref C) "__eq__" = some (some (.ref f))
  fn : isFn K (.ref f) = true
  ne : findIn K (.ref C) "__ne__" = some (some (.builtin "object.__ne__"))
  ob : subIn K (.ref C) (.type "object") = some true
theorem owneq_ok {K : Frag} {C f : Addr} (h : (decide (findIn K (.ref C) "__eq__" = some (some (.ref f))) && (isFn K (.ref f) && (decide (findIn K (.ref C) "__ne__" = some (some (.builtin "object.__ne__"))) && decide (subIn K (.ref C) (.type "object") = some true)))) = true) : OwnEq K C f := by
  obtain ⟨a, h⟩ := He.ba h
  obtain ⟨b, h⟩ := He.ba h
  obtain ⟨c, d⟩ := He.ba h
  exact ⟨of_decide_eq_true a, b, of_decide_eq_true c, of_decide_eq_true d⟩
/-- isinstance may be asked of an instance -/
structure InsF (K : Frag) (C : Addr) : Prop where
  ha : findIn K (.ref C) "__class__" = some (some (.builtin "object.__class__"))
  hn : specialIn K (.builtin "object.__class__") "__get__" = some (some (.builtin "getset_descriptor.__get__"))
  htk : takesIn K (.builtin "object.__class__") = some true
  hm : mroIn K C (.type "object") = some true
theorem insf_ok {K : Frag} {C : Addr} (h : (decide (findIn K (.ref C) "__class__" = some (some (.builtin "object.__class__"))) && (decide (specialIn K (.builtin "object.__class__") "__get__" = some (some (.builtin "getset_descriptor.__get__"))) && (decide (takesIn K (.builtin "object.__class__") = some true) && decide (mroIn K C (.type "object") = some true)))) = true) : InsF K C := by
  obtain ⟨a, h⟩ := He.ba h
  obtain ⟨b, h⟩ := He.ba h
  obtain ⟨c, d⟩ := He.ba h
  exact ⟨of_decide_eq_true a, of_decide_eq_true b, of_decide_eq_true c, of_decide_eq_true d⟩
theorem InsF.ty {K : Frag} {C a dx : Addr} {H : Hp} {fs : List (Str × V)} (i : InsF K C) (cl : Cls K C) (e : H a = some (.ins C dx fs)) : TyX K H (.ref a) (.ref C) := .base (.ins e cl i.ha i.hn i.htk i.hm)
end Q

set_option maxRecDepth 100000
set_option maxHeartbeats 4000000
/-! Tuples of texts that the top knows. -/
namespace Q
open PySem PySem.Spec PyProof.Rows L2
def strsB : List Str → List Value → Bool
  | [], [] => true
  | z :: zs, .str y _ :: vs => decide (y = z) && strsB zs vs
  | _, _ => false
def tupB (K : PySem.W.Frag) (a : Addr) (zs : List Str) : Bool := match K.lookup a with
  | some o => decide (o.cls = .type "tuple") && (match o.data with
    | .seq its _ => decide (its.size ≤ sizeLine) && strsB zs its.toList
    | _ => false)
  | none => false
/-- a holds these texts, whatever is done -/
def TupC (K : PySem.W.Frag) (a : Addr) (zs : List Str) : Prop := ∀ H, SqT K H a (zs.map V.str)
theorem strs_vals : ∀ {zs : List Str} {vs : List Value}, strsB zs vs = true → Vals (zs.map V.str) vs
  | [], [], _ => .nil
  | z :: zs, v :: vs, h => by
    cases v with
    | str y t =>
      obtain ⟨h1, h2⟩ := Bool.and_eq_true_iff.mp (show (decide (y = z) && strsB zs vs) = true from h)
      obtain rfl := of_decide_eq_true h1
      exact .cons ⟨t, rfl⟩ (strs_vals h2)
    | _ => cases h
  | [], _ :: _, h => nomatch h
  | _ :: _, [], h => nomatch h
theorem tupB_ok {K : PySem.W.Frag} {a : Addr} {zs : List Str} (h : tupB K a zs = true) : TupC K a zs := by
  intro H
  unfold tupB at h
  split at h
  · rename_i o e
    obtain ⟨h1, h2⟩ := Bool.and_eq_true_iff.mp h
    split at h2
    · rename_i its n ed
      obtain ⟨h3, h4⟩ := Bool.and_eq_true_iff.mp h2
      exact .inr ⟨o, its, n, e, of_decide_eq_true h1, ed, of_decide_eq_true h3, strs_vals h4⟩
    · cases h2
  · cases h
end Q

set_option maxRecDepth 100000
set_option maxHeartbeats 4000000
namespace K07
open PySem PySem.Spec PyProof.Rows L2 Q
def topS (i : Nat) : Stmt := PySem.Challenge.pw_fewfetches_k07_whole_slab_form_is_one.main.body.getD i (.Pass ⟨0, 0, 0, 0⟩)
abbrev FnP (K : PySem.W.Frag) (x qual : Str) (st : Stmt) (dvs : List V) (f : Addr) (fd : FuncData) : Prop := FunD K x qual (defArgs st) (defBody st) (defScope st) dvs [] f fd
abbrev s_BadBox___init__ : Stmt := inClass (topS 3) 0
theorem sc_BadBox___init__ : FnScope ["self", "what", "at"] ["self", "what", "at"] (defScope s_BadBox___init__) := ⟨rfl, rfl, rfl, by decide +kernel, rfl, by decide +kernel, by decide +kernel⟩
abbrev s_BadPage___init__ : Stmt := inClass (topS 4) 0
theorem sc_BadPage___init__ : FnScope ["self", "what"] ["self", "what"] (defScope s_BadPage___init__) := ⟨rfl, rfl, rfl, by decide +kernel, rfl, by decide +kernel, by decide +kernel⟩
abbrev s_is_whole : Stmt := topS 6
theorem sc_is_whole : FnScope ["thing", "low", "high"] ["thing", "low", "high"] (defScope s_is_whole) := ⟨rfl, rfl, rfl, by decide +kernel, rfl, by decide +kernel, by decide +kernel⟩
abbrev s_points_of : Stmt := topS 10
theorem sc_points_of : GScope ["box", "point", "going", "column"] ["box"] (defScope s_points_of) := ⟨rfl, rfl, rfl, by decide +kernel, rfl, by decide +kernel, by decide +kernel⟩
abbrev s_Box___init__ : Stmt := inClass (topS 11) 0
theorem sc_Box___init__ : FnScope ["self", "lows", "highs", "at", "low", "high"] ["self", "lows", "highs"] (defScope s_Box___init__) := ⟨rfl, rfl, rfl, by decide +kernel, rfl, by decide +kernel, by decide +kernel⟩
abbrev s_Box___eq__ : Stmt := inClass (topS 11) 1
theorem sc_Box___eq__ : FnScope ["self", "other"] ["self", "other"] (defScope s_Box___eq__) := ⟨rfl, rfl, rfl, by decide +kernel, rfl, by decide +kernel, by decide +kernel⟩
abbrev s_slab_parts : Stmt := topS 14
theorem sc_slab_parts : FnScope ["rows", "sections", "row", "runs", "value", "parts", "low", "high", "lows", "highs"] ["rows"] (defScope s_slab_parts) := ⟨rfl, rfl, rfl, by decide +kernel, rfl, by decide +kernel, by decide +kernel⟩
abbrev s_slabs_of : Stmt := topS 15
theorem sc_slabs_of : FnScope ["rows", "row", "ascending", "lows", "highs"] ["rows"] (defScope s_slabs_of) := ⟨rfl, rfl, rfl, by decide +kernel, rfl, by decide +kernel, by decide +kernel⟩
abbrev s_checked_couples : Stmt := topS 16
theorem sc_checked_couples : FnScope ["entries", "signs", "found", "entry", "spot", "sign", "value"] ["entries", "signs"] (defScope s_checked_couples) := ⟨rfl, rfl, rfl, by decide +kernel, rfl, by decide +kernel, by decide +kernel⟩
abbrev s_check_marks : Stmt := topS 17
theorem sc_check_marks : FnScope ["marks", "found", "spot", "sign"] ["marks"] (defScope s_check_marks) := ⟨rfl, rfl, rfl, by decide +kernel, rfl, by decide +kernel, by decide +kernel⟩
abbrev s_place_rows : Stmt := topS 18
theorem sc_place_rows : FnScope ["place", "box", "many", "found", "point"] ["place"] (defScope s_place_rows) := ⟨rfl, rfl, rfl, by decide +kernel, rfl, by decide +kernel, by decide +kernel⟩
abbrev s_Page___init__ : Stmt := inClass (topS 19) 0
theorem sc_Page___init__ : FnScope ["self", "place", "marks", "row", "sign", "box"] ["self", "place", "marks"] (defScope s_Page___init__) := ⟨rfl, rfl, rfl, by decide +kernel, rfl, by decide +kernel, by decide +kernel⟩
abbrev s_Page___eq__ : Stmt := inClass (topS 19) 5
theorem sc_Page___eq__ : FnScope ["self", "other"] ["self", "other"] (defScope s_Page___eq__) := ⟨rfl, rfl, rfl, by decide +kernel, rfl, by decide +kernel, by decide +kernel⟩
abbrev s__law_cell : Stmt := topS 21
theorem sc__law_cell : FnScope ["script", "k"] ["script", "k"] (defScope s__law_cell) := ⟨rfl, rfl, rfl, by decide +kernel, rfl, by decide +kernel, by decide +kernel⟩
abbrev s__law_pool : Stmt := topS 22
theorem sc__law_pool : FnScope ["script", "k", "cell", "left"] ["script", "k"] (defScope s__law_pool) := ⟨rfl, rfl, rfl, by decide +kernel, rfl, by decide +kernel, by decide +kernel⟩
abbrev s__law_pull : Stmt := topS 23
theorem sc__law_pull : FnScope ["pool", "many", "worth"] ["pool", "many"] (defScope s__law_pull) := ⟨rfl, rfl, rfl, by decide +kernel, rfl, by decide +kernel, by decide +kernel⟩
abbrev s__law_spots : Stmt := topS 24
theorem sc__law_spots : FnScope ["lows", "highs", "found", "k", "wider", "start", "value"] ["lows", "highs"] (defScope s__law_spots) := ⟨rfl, rfl, rfl, by decide +kernel, rfl, by decide +kernel, by decide +kernel⟩
abbrev s__law_slabs : Stmt := topS 25
theorem sc__law_slabs : FnScope ["rows", "runs", "value", "row", "parts", "found", "run", "lows", "highs"] ["rows"] (defScope s__law_slabs) := ⟨rfl, rfl, rfl, by decide +kernel, rfl, by decide +kernel, by decide +kernel⟩
abbrev s__law_shuffled : Stmt := topS 26
theorem sc__law_shuffled : FnScope ["pool", "things", "left", "found"] ["pool", "things"] (defScope s__law_shuffled) := ⟨rfl, rfl, rfl, by decide +kernel, rfl, by decide +kernel, by decide +kernel⟩
abbrev s__law_widths : Stmt := topS 27
theorem sc__law_widths : FnScope ["pool", "one", "two", "three", "many"] ["pool", "one", "two", "three"] (defScope s__law_widths) := ⟨rfl, rfl, rfl, by decide +kernel, rfl, by decide +kernel, by decide +kernel⟩
abbrev s__law_cutting : Stmt := topS 28
theorem sc__law_cutting : FnScope ["pool", "rows", "left", "found", "lows", "value", "highs", "spots", "spot", "row"] ["pool", "rows"] (defScope s__law_cutting) := ⟨rfl, rfl, rfl, by decide +kernel, rfl, by decide +kernel, by decide +kernel⟩
abbrev s__law_told : Stmt := topS 29
theorem sc__law_told : FnScope ["place", "found", "box"] ["place"] (defScope s__law_told) := ⟨rfl, rfl, rfl, by decide +kernel, rfl, by decide +kernel, by decide +kernel⟩
abbrev s__law_set : Stmt := topS 30
theorem sc__law_set : FnScope ["script", "pool", "widths", "width", "lift", "dense", "found", "spot", "take", "k"] ["script"] (defScope s__law_set) := ⟨rfl, rfl, rfl, by decide +kernel, rfl, by decide +kernel, by decide +kernel⟩
abbrev s__law_form_holds : Stmt := topS 31
theorem sc__law_form_holds : FnScope ["rows", "given", "row", "copies", "told", "points", "lows", "highs"] ["rows", "given"] (defScope s__law_form_holds) := ⟨rfl, rfl, rfl, by decide +kernel, rfl, by decide +kernel, by decide +kernel⟩
abbrev s__law_pages_hold : Stmt := topS 32
theorem sc__law_pages_hold : FnScope ["rows", "pool", "value", "row", "single", "drawn", "due", "lows", "highs", "one", "other", "page"] ["rows", "pool"] (defScope s__law_pages_hold) := ⟨rfl, rfl, rfl, by decide +kernel, rfl, by decide +kernel, by decide +kernel⟩
abbrev s__law_is_great : Stmt := topS 33
theorem sc__law_is_great : FnScope ["script"] ["script"] (defScope s__law_is_great) := ⟨rfl, rfl, rfl, by decide +kernel, rfl, by decide +kernel, by decide +kernel⟩
abbrev s__law_section : Stmt := topS 34
theorem sc__law_section : FnScope ["pool", "wide", "value", "taken"] ["pool", "wide"] (defScope s__law_section) := ⟨rfl, rfl, rfl, by decide +kernel, rfl, by decide +kernel, by decide +kernel⟩
abbrev s__law_stripes : Stmt := topS 35
theorem sc__law_stripes : FnScope ["script", "pool", "wide", "turned", "lift", "section", "found", "value", "other"] ["script"] (defScope s__law_stripes) := ⟨rfl, rfl, rfl, by decide +kernel, rfl, by decide +kernel, by decide +kernel⟩
abbrev s_law : Stmt := topS 36
theorem sc_law : FnScope ["script", "rows", "pool", "given", "row", "twice"] ["script"] (defScope s_law) := ⟨rfl, rfl, rfl, by decide +kernel, rfl, by decide +kernel, by decide +kernel⟩
/-! ### what the top has written -/
structure Tx (K : PySem.W.Frag) (mg : Str → Option Value) : Prop where
  n_ValueError : mg "ValueError" = none
  n_all : mg "all" = none
  n_bool : mg "bool" = none
  n_int : mg "int" = none
  n_isinstance : mg "isinstance" = none
  n_len : mg "len" = none
  n_list : mg "list" = none
  n_range : mg "range" = none
  n_reversed : mg "reversed" = none
  n_set : mg "set" = none
  n_sorted : mg "sorted" = none
  n_tuple : mg "tuple" = none
  n_zip : mg "zip" = none
  c_MOST_COLUMNS : ∃ t, mg "MOST_COLUMNS" = some (.int (5) t)
  c_HIGHEST : ∃ t, mg "HIGHEST" = some (.int (64) t)
  g_SIGNS : mg "SIGNS" = some (.ref (He.ga K "SIGNS"))
  t_SIGNS : TupC K (He.ga K "SIGNS") ["put", "gone"]
  t_dfl : TupC K (He.dflAt ("Page", some "__init__") 0 K) []
  g_FetchError : mg "FetchError" = some (.ref (He.ga K "FetchError"))
  x_FetchError : ExcC K (He.ga K "FetchError")
  e_FetchError : PySem.W.exmOne K (.ref (He.ga K "FetchError")) (.ref (He.ga K "FetchError")) = some true
  b_FetchError : PySem.W.excIn K (He.ga K "FetchError") He.veBase "ValueError.__new__" = true
  k_FetchError : PySem.W.keepIn K (.ref (He.ga K "FetchError")) = true
  ty_FetchError : PySem.W.typeIn K (.ref (He.ga K "FetchError")) = some (.type "type")
  g_BadBox : mg "BadBox" = some (.ref (He.ga K "BadBox"))
  x_BadBox : ExcC K (He.ga K "BadBox")
  e_BadBox : PySem.W.exmOne K (.ref (He.ga K "BadBox")) (.ref (He.ga K "BadBox")) = some true
  o_BadBox : OexC K (He.ga K "BadBox")
  i_BadBox : PySem.W.findIn K (.ref (He.ga K "BadBox")) "__init__" = some (some (.ref (He.ma K (He.ga K "BadBox") "__init__")))
  t_BadBox : PySem.W.typeIn K (.ref (He.ma K (He.ga K "BadBox") "__init__")) = some (.type "function")
  noat_BadBox_what : PySem.W.findIn K (.ref (He.ga K "BadBox")) "what" = some none
  noat_BadBox_at : PySem.W.findIn K (.ref (He.ga K "BadBox")) "at" = some none
  g_BadPage : mg "BadPage" = some (.ref (He.ga K "BadPage"))
  x_BadPage : ExcC K (He.ga K "BadPage")
  e_BadPage : PySem.W.exmOne K (.ref (He.ga K "BadPage")) (.ref (He.ga K "BadPage")) = some true
  o_BadPage : OexC K (He.ga K "BadPage")
  i_BadPage : PySem.W.findIn K (.ref (He.ga K "BadPage")) "__init__" = some (some (.ref (He.ma K (He.ga K "BadPage") "__init__")))
  t_BadPage : PySem.W.typeIn K (.ref (He.ma K (He.ga K "BadPage") "__init__")) = some (.type "function")
  noat_BadPage_what : PySem.W.findIn K (.ref (He.ga K "BadPage")) "what" = some none
  g_Box : mg "Box" = some (.ref (He.ga K "Box"))
  cls_Box : Cls K (He.ga K "Box")
  mk_Box : Mk K (He.ga K "Box") (He.ma K (He.ga K "Box") "__init__")
  m_Box_holds : Meth K (He.ga K "Box") "holds" (He.ma K (He.ga K "Box") "holds")
  is_Box : InsF K (He.ga K "Box")
  eq_Box : OwnEq K (He.ga K "Box") (He.ma K (He.ga K "Box") "__eq__")
  cr_Box : ClX.CRead K (He.ga K "Box") (.type "type")
  cm_Box_of_told : ClX.CMet K (He.ga K "Box") (.type "type") "of_told" (He.ma K (He.ga K "Box") "of_told") (He5.wf K (He.ga K "Box") "classmethod" "of_told")
  noat_Box_lows : PySem.W.findIn K (.ref (He.ga K "Box")) "lows" = some none
  noat_Box_highs : PySem.W.findIn K (.ref (He.ga K "Box")) "highs" = some none
  noat_Box_told : PySem.W.findIn K (.ref (He.ga K "Box")) "told" = some none
  noat_Box_size : PySem.W.findIn K (.ref (He.ga K "Box")) "size" = some none
  g_Page : mg "Page" = some (.ref (He.ga K "Page"))
  cls_Page : Cls K (He.ga K "Page")
  mk_Page : Mk K (He.ga K "Page") (He.ma K (He.ga K "Page") "__init__")
  m_Page_holds : Meth K (He.ga K "Page") "holds" (He.ma K (He.ga K "Page") "holds")
  m_Page_mark : Meth K (He.ga K "Page") "mark" (He.ma K (He.ga K "Page") "mark")
  m_Page_with_marks : Meth K (He.ga K "Page") "with_marks" (He.ma K (He.ga K "Page") "with_marks")
  is_Page : InsF K (He.ga K "Page")
  eq_Page : OwnEq K (He.ga K "Page") (He.ma K (He.ga K "Page") "__eq__")
  cr_Page : ClX.CRead K (He.ga K "Page") (.type "type")
  cm_Page_of_told : ClX.CMet K (He.ga K "Page") (.type "type") "of_told" (He.ma K (He.ga K "Page") "of_told") (He5.wf K (He.ga K "Page") "classmethod" "of_told")
  noat_Page_rows : PySem.W.findIn K (.ref (He.ga K "Page")) "rows" = some none
  noat_Page_marks : PySem.W.findIn K (.ref (He.ga K "Page")) "marks" = some none
  noat_Page_signs : PySem.W.findIn K (.ref (He.ga K "Page")) "signs" = some none
  noat_Page_place : PySem.W.findIn K (.ref (He.ga K "Page")) "place" = some none
  noat_Page_first : PySem.W.findIn K (.ref (He.ga K "Page")) "first" = some none
  noat_Page_told : PySem.W.findIn K (.ref (He.ga K "Page")) "told" = some none
  kit_BadBox_FetchError : PySem.W.kitOne K (.ref (He.ga K "BadBox")) (.ref (He.ga K "FetchError")) = some true
  kit_BadBox_ValueError : PySem.W.kitOne K (.ref (He.ga K "BadBox")) (.type "ValueError") = some true
  kit_Box_Box : PySem.W.kitOne K (.ref (He.ga K "Box")) (.ref (He.ga K "Box")) = some true
  kit_Page_Page : PySem.W.kitOne K (.ref (He.ga K "Page")) (.ref (He.ga K "Page")) = some true
  d_BadBox___init__ : ∃ fd, FnP K "__init__" "BadBox.__init__" s_BadBox___init__ [] (He.ma K (He.ga K "BadBox") "__init__") fd
  d_BadPage___init__ : ∃ fd, FnP K "__init__" "BadPage.__init__" s_BadPage___init__ [] (He.ma K (He.ga K "BadPage") "__init__") fd
  g_is_whole : mg "is_whole" = some (.ref (He.ga K "is_whole"))
  d_is_whole : ∃ fd, FnP K "is_whole" "is_whole" s_is_whole [.non, .non] (He.ga K "is_whole") fd
  g_points_of : mg "points_of" = some (.ref (He.ga K "points_of"))
  d_points_of : ∃ fd, FnP K "points_of" "points_of" s_points_of [] (He.ga K "points_of") fd
  d_Box___init__ : ∃ fd, FnP K "__init__" "Box.__init__" s_Box___init__ [] (He.ma K (He.ga K "Box") "__init__") fd
  d_Box___eq__ : ∃ fd, FnP K "__eq__" "Box.__eq__" s_Box___eq__ [] (He.ma K (He.ga K "Box") "__eq__") fd
  g_slab_parts : mg "slab_parts" = some (.ref (He.ga K "slab_parts"))
  d_slab_parts : ∃ fd, FnP K "slab_parts" "slab_parts" s_slab_parts [] (He.ga K "slab_parts") fd
  g_slabs_of : mg "slabs_of" = some (.ref (He.ga K "slabs_of"))
  d_slabs_of : ∃ fd, FnP K "slabs_of" "slabs_of" s_slabs_of [] (He.ga K "slabs_of") fd
  g_checked_couples : mg "checked_couples" = some (.ref (He.ga K "checked_couples"))
  d_checked_couples : ∃ fd, FnP K "checked_couples" "checked_couples" s_checked_couples [] (He.ga K "checked_couples") fd
  g_check_marks : mg "check_marks" = some (.ref (He.ga K "check_marks"))
  d_check_marks : ∃ fd, FnP K "check_marks" "check_marks" s_check_marks [] (He.ga K "check_marks") fd
  g_place_rows : mg "place_rows" = some (.ref (He.ga K "place_rows"))
  d_place_rows : ∃ fd, FnP K "place_rows" "place_rows" s_place_rows [] (He.ga K "place_rows") fd
  d_Page___init__ : ∃ fd, FnP K "__init__" "Page.__init__" s_Page___init__ [.ref (He.dflAt ("Page", some "__init__") 0 K)] (He.ma K (He.ga K "Page") "__init__") fd
  d_Page___eq__ : ∃ fd, FnP K "__eq__" "Page.__eq__" s_Page___eq__ [] (He.ma K (He.ga K "Page") "__eq__") fd
  g__law_cell : mg "_law_cell" = some (.ref (He.ga K "_law_cell"))
  d__law_cell : ∃ fd, FnP K "_law_cell" "_law_cell" s__law_cell [] (He.ga K "_law_cell") fd
  g__law_pool : mg "_law_pool" = some (.ref (He.ga K "_law_pool"))
  d__law_pool : ∃ fd, FnP K "_law_pool" "_law_pool" s__law_pool [] (He.ga K "_law_pool") fd
  g__law_pull : mg "_law_pull" = some (.ref (He.ga K "_law_pull"))
  d__law_pull : ∃ fd, FnP K "_law_pull" "_law_pull" s__law_pull [] (He.ga K "_law_pull") fd
  g__law_spots : mg "_law_spots" = some (.ref (He.ga K "_law_spots"))
  d__law_spots : ∃ fd, FnP K "_law_spots" "_law_spots" s__law_spots [] (He.ga K "_law_spots") fd
  g__law_slabs : mg "_law_slabs" = some (.ref (He.ga K "_law_slabs"))
  d__law_slabs : ∃ fd, FnP K "_law_slabs" "_law_slabs" s__law_slabs [] (He.ga K "_law_slabs") fd
  g__law_shuffled : mg "_law_shuffled" = some (.ref (He.ga K "_law_shuffled"))
  d__law_shuffled : ∃ fd, FnP K "_law_shuffled" "_law_shuffled" s__law_shuffled [] (He.ga K "_law_shuffled") fd
  g__law_widths : mg "_law_widths" = some (.ref (He.ga K "_law_widths"))
  d__law_widths : ∃ fd, FnP K "_law_widths" "_law_widths" s__law_widths [] (He.ga K "_law_widths") fd
  g__law_cutting : mg "_law_cutting" = some (.ref (He.ga K "_law_cutting"))
  d__law_cutting : ∃ fd, FnP K "_law_cutting" "_law_cutting" s__law_cutting [] (He.ga K "_law_cutting") fd
  g__law_told : mg "_law_told" = some (.ref (He.ga K "_law_told"))
  d__law_told : ∃ fd, FnP K "_law_told" "_law_told" s__law_told [] (He.ga K "_law_told") fd
  g__law_set : mg "_law_set" = some (.ref (He.ga K "_law_set"))
  d__law_set : ∃ fd, FnP K "_law_set" "_law_set" s__law_set [] (He.ga K "_law_set") fd
  g__law_form_holds : mg "_law_form_holds" = some (.ref (He.ga K "_law_form_holds"))
  d__law_form_holds : ∃ fd, FnP K "_law_form_holds" "_law_form_holds" s__law_form_holds [] (He.ga K "_law_form_holds") fd
  g__law_pages_hold : mg "_law_pages_hold" = some (.ref (He.ga K "_law_pages_hold"))
  d__law_pages_hold : ∃ fd, FnP K "_law_pages_hold" "_law_pages_hold" s__law_pages_hold [] (He.ga K "_law_pages_hold") fd
  g__law_is_great : mg "_law_is_great" = some (.ref (He.ga K "_law_is_great"))
  d__law_is_great : ∃ fd, FnP K "_law_is_great" "_law_is_great" s__law_is_great [] (He.ga K "_law_is_great") fd
  g__law_section : mg "_law_section" = some (.ref (He.ga K "_law_section"))
  d__law_section : ∃ fd, FnP K "_law_section" "_law_section" s__law_section [] (He.ga K "_law_section") fd
  g__law_stripes : mg "_law_stripes" = some (.ref (He.ga K "_law_stripes"))
  d__law_stripes : ∃ fd, FnP K "_law_stripes" "_law_stripes" s__law_stripes [] (He.ga K "_law_stripes") fd
  g_law : mg "law" = some (.ref (He.ga K "law"))
  d_law : ∃ fd, FnP K "law" "law" s_law [] (He.ga K "law") fd
def fb0 (K : PySem.W.Frag) : Bool := (He.Fa.free "ValueError").ok K && ((He.Fa.free "all").ok K && ((He.Fa.free "bool").ok K && ((He.Fa.free "int").ok K && ((He.Fa.free "isinstance").ok K && ((He.Fa.free "len").ok K && ((He.Fa.free "list").ok K && ((He.Fa.free "range").ok K && ((He.Fa.free "reversed").ok K && ((He.Fa.free "set").ok K && ((He.Fa.free "sorted").ok K && ((He.Fa.free "tuple").ok K)))))))))))
def fb1 (K : PySem.W.Frag) : Bool := (He.Fa.free "zip").ok K && ((He.Fa.int "MOST_COLUMNS" (5)).ok K && ((He.Fa.int "HIGHEST" (64)).ok K && ((He.Fa.glo "SIGNS").ok K && (tupB K (He.ga K "SIGNS") ["put", "gone"] && (tupB K (He.dflAt ("Page", some "__init__") 0 K) [] && ((He.Fa.glo "FetchError").ok K && (excB K (He.ga K "FetchError") && (decide (PySem.W.exmOne K (.ref (He.ga K "FetchError")) (.ref (He.ga K "FetchError")) = some true) && (PySem.W.excIn K (He.ga K "FetchError") He.veBase "ValueError.__new__" && (PySem.W.keepIn K (.ref (He.ga K "FetchError")) && (decide (PySem.W.typeIn K (.ref (He.ga K "FetchError")) = some (.type "type")))))))))))))
def fb2 (K : PySem.W.Frag) : Bool := (He.Fa.glo "BadBox").ok K && (excB K (He.ga K "BadBox") && (decide (PySem.W.exmOne K (.ref (He.ga K "BadBox")) (.ref (He.ga K "BadBox")) = some true) && (oexB K (He.ga K "BadBox") && (decide (PySem.W.findIn K (.ref (He.ga K "BadBox")) "__init__" = some (some (.ref (He.ma K (He.ga K "BadBox") "__init__")))) && (decide (PySem.W.typeIn K (.ref (He.ma K (He.ga K "BadBox") "__init__")) = some (.type "function")) && (decide (PySem.W.findIn K (.ref (He.ga K "BadBox")) "what" = some none) && (decide (PySem.W.findIn K (.ref (He.ga K "BadBox")) "at" = some none) && ((He.Fa.glo "BadPage").ok K && (excB K (He.ga K "BadPage") && (decide (PySem.W.exmOne K (.ref (He.ga K "BadPage")) (.ref (He.ga K "BadPage")) = some true) && (oexB K (He.ga K "BadPage"))))))))))))
def fb3 (K : PySem.W.Frag) : Bool := decide (PySem.W.findIn K (.ref (He.ga K "BadPage")) "__init__" = some (some (.ref (He.ma K (He.ga K "BadPage") "__init__")))) && (decide (PySem.W.typeIn K (.ref (He.ma K (He.ga K "BadPage") "__init__")) = some (.type "function")) && (decide (PySem.W.findIn K (.ref (He.ga K "BadPage")) "what" = some none) && ((He.Fa.glo "Box").ok K && ((He.Fa.cls "Box").ok K && ((He.Fa.mkr "Box").ok K && ((He.Fa.meth "Box" "holds").ok K && (decide (PySem.W.findIn K (.ref (He.ga K "Box")) "__class__" = some (some (.builtin "object.__class__"))) && (decide (PySem.W.specialIn K (.builtin "object.__class__") "__get__" = some (some (.builtin "getset_descriptor.__get__"))) && (decide (PySem.W.takesIn K (.builtin "object.__class__") = some true) && decide (PySem.W.mroIn K (He.ga K "Box") (.type "object") = some true))) && (decide (PySem.W.findIn K (.ref (He.ga K "Box")) "__eq__" = some (some (.ref (He.ma K (He.ga K "Box") "__eq__")))) && (PySem.W.isFn K (.ref (He.ma K (He.ga K "Box") "__eq__")) && (decide (PySem.W.findIn K (.ref (He.ga K "Box")) "__ne__" = some (some (.builtin "object.__ne__"))) && decide (PySem.W.subIn K (.ref (He.ga K "Box")) (.type "object") = some true))) && (PySem.W.readsIn K (He.ga K "Box") (.type "type") && decide (PySem.W.specialIn K (.ref (He.ga K "Box")) "__getattribute__" = some (some (.builtin "type.__getattribute__"))) && (He5.wrapB K (He.ga K "Box") "classmethod" "classmethod.__get__" "of_told" && PySem.W.fnIn K (He5.wf K (He.ga K "Box") "classmethod" "of_told") && (decide (PySem.W.findIn K (.ref (He.ga K "Box")) "lows" = some none))))))))))))
def fb4 (K : PySem.W.Frag) : Bool := decide (PySem.W.findIn K (.ref (He.ga K "Box")) "highs" = some none) && (decide (PySem.W.findIn K (.ref (He.ga K "Box")) "told" = some none) && (decide (PySem.W.findIn K (.ref (He.ga K "Box")) "size" = some none) && ((He.Fa.glo "Page").ok K && ((He.Fa.cls "Page").ok K && ((He.Fa.mkr "Page").ok K && ((He.Fa.meth "Page" "holds").ok K && ((He.Fa.meth "Page" "mark").ok K && ((He.Fa.meth "Page" "with_marks").ok K && (decide (PySem.W.findIn K (.ref (He.ga K "Page")) "__class__" = some (some (.builtin "object.__class__"))) && (decide (PySem.W.specialIn K (.builtin "object.__class__") "__get__" = some (some (.builtin "getset_descriptor.__get__"))) && (decide (PySem.W.takesIn K (.builtin "object.__class__") = some true) && decide (PySem.W.mroIn K (He.ga K "Page") (.type "object") = some true))) && (decide (PySem.W.findIn K (.ref (He.ga K "Page")) "__eq__" = some (some (.ref (He.ma K (He.ga K "Page") "__eq__")))) && (PySem.W.isFn K (.ref (He.ma K (He.ga K "Page") "__eq__")) && (decide (PySem.W.findIn K (.ref (He.ga K "Page")) "__ne__" = some (some (.builtin "object.__ne__"))) && decide (PySem.W.subIn K (.ref (He.ga K "Page")) (.type "object") = some true))) && (PySem.W.readsIn K (He.ga K "Page") (.type "type") && decide (PySem.W.specialIn K (.ref (He.ga K "Page")) "__getattribute__" = some (some (.builtin "type.__getattribute__"))))))))))))))
def fb5 (K : PySem.W.Frag) : Bool := He5.wrapB K (He.ga K "Page") "classmethod" "classmethod.__get__" "of_told" && PySem.W.fnIn K (He5.wf K (He.ga K "Page") "classmethod" "of_told") && (decide (PySem.W.findIn K (.ref (He.ga K "Page")) "rows" = some none) && (decide (PySem.W.findIn K (.ref (He.ga K "Page")) "marks" = some none) && (decide (PySem.W.findIn K (.ref (He.ga K "Page")) "signs" = some none) && (decide (PySem.W.findIn K (.ref (He.ga K "Page")) "place" = some none) && (decide (PySem.W.findIn K (.ref (He.ga K "Page")) "first" = some none) && (decide (PySem.W.findIn K (.ref (He.ga K "Page")) "told" = some none) && (decide (PySem.W.kitOne K (.ref (He.ga K "BadBox")) (.ref (He.ga K "FetchError")) = some true) && (decide (PySem.W.kitOne K (.ref (He.ga K "BadBox")) (.type "ValueError") = some true) && (decide (PySem.W.kitOne K (.ref (He.ga K "Box")) (.ref (He.ga K "Box")) = some true) && (decide (PySem.W.kitOne K (.ref (He.ga K "Page")) (.ref (He.ga K "Page")) = some true) && ((He.Fa.glo "is_whole").ok K)))))))))))
def fb6 (K : PySem.W.Frag) : Bool := (He.Fa.glo "points_of").ok K && ((He.Fa.glo "slab_parts").ok K && ((He.Fa.glo "slabs_of").ok K && ((He.Fa.glo "checked_couples").ok K && ((He.Fa.glo "check_marks").ok K && ((He.Fa.glo "place_rows").ok K && ((He.Fa.glo "_law_cell").ok K && ((He.Fa.glo "_law_pool").ok K && ((He.Fa.glo "_law_pull").ok K && ((He.Fa.glo "_law_spots").ok K && ((He.Fa.glo "_law_slabs").ok K && ((He.Fa.glo "_law_shuffled").ok K)))))))))))
def fb7 (K : PySem.W.Frag) : Bool := (He.Fa.glo "_law_widths").ok K && ((He.Fa.glo "_law_cutting").ok K && ((He.Fa.glo "_law_told").ok K && ((He.Fa.glo "_law_set").ok K && ((He.Fa.glo "_law_form_holds").ok K && ((He.Fa.glo "_law_pages_hold").ok K && ((He.Fa.glo "_law_is_great").ok K && ((He.Fa.glo "_law_section").ok K && ((He.Fa.glo "_law_stripes").ok K && ((He.Fa.glo "law").ok K)))))))))
def fb (K : PySem.W.Frag) : Bool := fb0 K && (fb1 K && (fb2 K && (fb3 K && (fb4 K && (fb5 K && (fb6 K && (fb7 K)))))))
def dd_BadBox___init__ : He5.DefA := ⟨fun K => (He.ma K (He.ga K "BadBox") "__init__"), "__init__", "BadBox.__init__", defArgs s_BadBox___init__, defBody s_BadBox___init__, defScope s_BadBox___init__, [], []⟩
def dd_BadPage___init__ : He5.DefA := ⟨fun K => (He.ma K (He.ga K "BadPage") "__init__"), "__init__", "BadPage.__init__", defArgs s_BadPage___init__, defBody s_BadPage___init__, defScope s_BadPage___init__, [], []⟩
def dd_is_whole : He5.DefA := ⟨fun K => (He.ga K "is_whole"), "is_whole", "is_whole", defArgs s_is_whole, defBody s_is_whole, defScope s_is_whole, [.non, .non], []⟩
def dd_points_of : He5.DefA := ⟨fun K => (He.ga K "points_of"), "points_of", "points_of", defArgs s_points_of, defBody s_points_of, defScope s_points_of, [], []⟩
def dd_Box___init__ : He5.DefA := ⟨fun K => (He.ma K (He.ga K "Box") "__init__"), "__init__", "Box.__init__", defArgs s_Box___init__, defBody s_Box___init__, defScope s_Box___init__, [], []⟩
def dd_Box___eq__ : He5.DefA := ⟨fun K => (He.ma K (He.ga K "Box") "__eq__"), "__eq__", "Box.__eq__", defArgs s_Box___eq__, defBody s_Box___eq__, defScope s_Box___eq__, [], []⟩
def dd_slab_parts : He5.DefA := ⟨fun K => (He.ga K "slab_parts"), "slab_parts", "slab_parts", defArgs s_slab_parts, defBody s_slab_parts, defScope s_slab_parts, [], []⟩
def dd_slabs_of : He5.DefA := ⟨fun K => (He.ga K "slabs_of"), "slabs_of", "slabs_of", defArgs s_slabs_of, defBody s_slabs_of, defScope s_slabs_of, [], []⟩
def dd_checked_couples : He5.DefA := ⟨fun K => (He.ga K "checked_couples"), "checked_couples", "checked_couples", defArgs s_checked_couples, defBody s_checked_couples, defScope s_checked_couples, [], []⟩
def dd_check_marks : He5.DefA := ⟨fun K => (He.ga K "check_marks"), "check_marks", "check_marks", defArgs s_check_marks, defBody s_check_marks, defScope s_check_marks, [], []⟩
def dd_place_rows : He5.DefA := ⟨fun K => (He.ga K "place_rows"), "place_rows", "place_rows", defArgs s_place_rows, defBody s_place_rows, defScope s_place_rows, [], []⟩
def dd_Page___init__ : He5.DefA := ⟨fun K => (He.ma K (He.ga K "Page") "__init__"), "__init__", "Page.__init__", defArgs s_Page___init__, defBody s_Page___init__, defScope s_Page___init__, [.adr (He.dflAt ("Page", some "__init__") 0)], []⟩
def dd_Page___eq__ : He5.DefA := ⟨fun K => (He.ma K (He.ga K "Page") "__eq__"), "__eq__", "Page.__eq__", defArgs s_Page___eq__, defBody s_Page___eq__, defScope s_Page___eq__, [], []⟩
def dd__law_cell : He5.DefA := ⟨fun K => (He.ga K "_law_cell"), "_law_cell", "_law_cell", defArgs s__law_cell, defBody s__law_cell, defScope s__law_cell, [], []⟩
def dd__law_pool : He5.DefA := ⟨fun K => (He.ga K "_law_pool"), "_law_pool", "_law_pool", defArgs s__law_pool, defBody s__law_pool, defScope s__law_pool, [], []⟩
def dd__law_pull : He5.DefA := ⟨fun K => (He.ga K "_law_pull"), "_law_pull", "_law_pull", defArgs s__law_pull, defBody s__law_pull, defScope s__law_pull, [], []⟩
def dd__law_spots : He5.DefA := ⟨fun K => (He.ga K "_law_spots"), "_law_spots", "_law_spots", defArgs s__law_spots, defBody s__law_spots, defScope s__law_spots, [], []⟩
def dd__law_slabs : He5.DefA := ⟨fun K => (He.ga K "_law_slabs"), "_law_slabs", "_law_slabs", defArgs s__law_slabs, defBody s__law_slabs, defScope s__law_slabs, [], []⟩
def dd__law_shuffled : He5.DefA := ⟨fun K => (He.ga K "_law_shuffled"), "_law_shuffled", "_law_shuffled", defArgs s__law_shuffled, defBody s__law_shuffled, defScope s__law_shuffled, [], []⟩
def dd__law_widths : He5.DefA := ⟨fun K => (He.ga K "_law_widths"), "_law_widths", "_law_widths", defArgs s__law_widths, defBody s__law_widths, defScope s__law_widths, [], []⟩
def dd__law_cutting : He5.DefA := ⟨fun K => (He.ga K "_law_cutting"), "_law_cutting", "_law_cutting", defArgs s__law_cutting, defBody s__law_cutting, defScope s__law_cutting, [], []⟩
def dd__law_told : He5.DefA := ⟨fun K => (He.ga K "_law_told"), "_law_told", "_law_told", defArgs s__law_told, defBody s__law_told, defScope s__law_told, [], []⟩
def dd__law_set : He5.DefA := ⟨fun K => (He.ga K "_law_set"), "_law_set", "_law_set", defArgs s__law_set, defBody s__law_set, defScope s__law_set, [], []⟩
def dd__law_form_holds : He5.DefA := ⟨fun K => (He.ga K "_law_form_holds"), "_law_form_holds", "_law_form_holds", defArgs s__law_form_holds, defBody s__law_form_holds, defScope s__law_form_holds, [], []⟩
def dd__law_pages_hold : He5.DefA := ⟨fun K => (He.ga K "_law_pages_hold"), "_law_pages_hold", "_law_pages_hold", defArgs s__law_pages_hold, defBody s__law_pages_hold, defScope s__law_pages_hold, [], []⟩
def dd__law_is_great : He5.DefA := ⟨fun K => (He.ga K "_law_is_great"), "_law_is_great", "_law_is_great", defArgs s__law_is_great, defBody s__law_is_great, defScope s__law_is_great, [], []⟩
def dd__law_section : He5.DefA := ⟨fun K => (He.ga K "_law_section"), "_law_section", "_law_section", defArgs s__law_section, defBody s__law_section, defScope s__law_section, [], []⟩
def dd__law_stripes : He5.DefA := ⟨fun K => (He.ga K "_law_stripes"), "_law_stripes", "_law_stripes", defArgs s__law_stripes, defBody s__law_stripes, defScope s__law_stripes, [], []⟩
def dd_law : He5.DefA := ⟨fun K => (He.ga K "law"), "law", "law", defArgs s_law, defBody s_law, defScope s_law, [], []⟩
def fn : List He5.DefA := [dd_BadBox___init__, dd_BadPage___init__, dd_is_whole, dd_points_of, dd_Box___init__, dd_Box___eq__, dd_slab_parts, dd_slabs_of, dd_checked_couples, dd_check_marks, dd_place_rows, dd_Page___init__, dd_Page___eq__, dd__law_cell, dd__law_pool, dd__law_pull, dd__law_spots, dd__law_slabs, dd__law_shuffled, dd__law_widths, dd__law_cutting, dd__law_told, dd__law_set, dd__law_form_holds, dd__law_pages_hold, dd__law_is_great, dd__law_section, dd__law_stripes, dd_law]
theorem tx_of {K : PySem.W.Frag} {h : Heap} {mg : Str → Option Value} (X : K.In h) (G : h.Ns mainGlobals mg) (c : SaysE fb fn K) : Tx K mg := by
  have top := c.all.1
  obtain ⟨z0, top⟩ := He.ba top
  obtain ⟨z1, top⟩ := He.ba top
  obtain ⟨z2, top⟩ := He.ba top
  obtain ⟨z3, top⟩ := He.ba top
  obtain ⟨z4, top⟩ := He.ba top
  obtain ⟨z5, top⟩ := He.ba top
  obtain ⟨z6, top⟩ := He.ba top
  have z7 := top
  obtain ⟨q0_0, z0⟩ := He.ba z0
  obtain ⟨q0_1, z0⟩ := He.ba z0
  obtain ⟨q0_2, z0⟩ := He.ba z0
  obtain ⟨q0_3, z0⟩ := He.ba z0
  obtain ⟨q0_4, z0⟩ := He.ba z0
  obtain ⟨q0_5, z0⟩ := He.ba z0
  obtain ⟨q0_6, z0⟩ := He.ba z0
  obtain ⟨q0_7, z0⟩ := He.ba z0
  obtain ⟨q0_8, z0⟩ := He.ba z0
  obtain ⟨q0_9, z0⟩ := He.ba z0
  obtain ⟨q0_10, z0⟩ := He.ba z0
  have q0_11 := z0
  obtain ⟨q1_0, z1⟩ := He.ba z1
  obtain ⟨q1_1, z1⟩ := He.ba z1
  obtain ⟨q1_2, z1⟩ := He.ba z1
  obtain ⟨q1_3, z1⟩ := He.ba z1
  obtain ⟨q1_4, z1⟩ := He.ba z1
  obtain ⟨q1_5, z1⟩ := He.ba z1
  obtain ⟨q1_6, z1⟩ := He.ba z1
  obtain ⟨q1_7, z1⟩ := He.ba z1
  obtain ⟨q1_8, z1⟩ := He.ba z1
  obtain ⟨q1_9, z1⟩ := He.ba z1
  obtain ⟨q1_10, z1⟩ := He.ba z1
  have q1_11 := z1
  obtain ⟨q2_0, z2⟩ := He.ba z2
  obtain ⟨q2_1, z2⟩ := He.ba z2
  obtain ⟨q2_2, z2⟩ := He.ba z2
  obtain ⟨q2_3, z2⟩ := He.ba z2
  obtain ⟨q2_4, z2⟩ := He.ba z2
  obtain ⟨q2_5, z2⟩ := He.ba z2
  obtain ⟨q2_6, z2⟩ := He.ba z2
  obtain ⟨q2_7, z2⟩ := He.ba z2
  obtain ⟨q2_8, z2⟩ := He.ba z2
  obtain ⟨q2_9, z2⟩ := He.ba z2
  obtain ⟨q2_10, z2⟩ := He.ba z2
  have q2_11 := z2
  obtain ⟨q3_0, z3⟩ := He.ba z3
  obtain ⟨q3_1, z3⟩ := He.ba z3
  obtain ⟨q3_2, z3⟩ := He.ba z3
  obtain ⟨q3_3, z3⟩ := He.ba z3
  obtain ⟨q3_4, z3⟩ := He.ba z3
  obtain ⟨q3_5, z3⟩ := He.ba z3
  obtain ⟨q3_6, z3⟩ := He.ba z3
  obtain ⟨q3_7, z3⟩ := He.ba z3
  obtain ⟨q3_8, z3⟩ := He.ba z3
  obtain ⟨q3_9, z3⟩ := He.ba z3
  obtain ⟨q3_10, z3⟩ := He.ba z3
  have q3_11 := z3
  obtain ⟨q4_0, z4⟩ := He.ba z4
  obtain ⟨q4_1, z4⟩ := He.ba z4
  obtain ⟨q4_2, z4⟩ := He.ba z4
  obtain ⟨q4_3, z4⟩ := He.ba z4
  obtain ⟨q4_4, z4⟩ := He.ba z4
  obtain ⟨q4_5, z4⟩ := He.ba z4
  obtain ⟨q4_6, z4⟩ := He.ba z4
  obtain ⟨q4_7, z4⟩ := He.ba z4
  obtain ⟨q4_8, z4⟩ := He.ba z4
  obtain ⟨q4_9, z4⟩ := He.ba z4
  obtain ⟨q4_10, z4⟩ := He.ba z4
  have q4_11 := z4
  obtain ⟨q5_0, z5⟩ := He.ba z5
  obtain ⟨q5_1, z5⟩ := He.ba z5
  obtain ⟨q5_2, z5⟩ := He.ba z5
  obtain ⟨q5_3, z5⟩ := He.ba z5
  obtain ⟨q5_4, z5⟩ := He.ba z5
  obtain ⟨q5_5, z5⟩ := He.ba z5
  obtain ⟨q5_6, z5⟩ := He.ba z5
  obtain ⟨q5_7, z5⟩ := He.ba z5
  obtain ⟨q5_8, z5⟩ := He.ba z5
  obtain ⟨q5_9, z5⟩ := He.ba z5
  obtain ⟨q5_10, z5⟩ := He.ba z5
  have q5_11 := z5
  obtain ⟨q6_0, z6⟩ := He.ba z6
  obtain ⟨q6_1, z6⟩ := He.ba z6
  obtain ⟨q6_2, z6⟩ := He.ba z6
  obtain ⟨q6_3, z6⟩ := He.ba z6
  obtain ⟨q6_4, z6⟩ := He.ba z6
  obtain ⟨q6_5, z6⟩ := He.ba z6
  obtain ⟨q6_6, z6⟩ := He.ba z6
  obtain ⟨q6_7, z6⟩ := He.ba z6
  obtain ⟨q6_8, z6⟩ := He.ba z6
  obtain ⟨q6_9, z6⟩ := He.ba z6
  obtain ⟨q6_10, z6⟩ := He.ba z6
  have q6_11 := z6
  obtain ⟨q7_0, z7⟩ := He.ba z7
  obtain ⟨q7_1, z7⟩ := He.ba z7
  obtain ⟨q7_2, z7⟩ := He.ba z7
  obtain ⟨q7_3, z7⟩ := He.ba z7
  obtain ⟨q7_4, z7⟩ := He.ba z7
  obtain ⟨q7_5, z7⟩ := He.ba z7
  obtain ⟨q7_6, z7⟩ := He.ba z7
  obtain ⟨q7_7, z7⟩ := He.ba z7
  obtain ⟨q7_8, z7⟩ := He.ba z7
  have q7_9 := z7
  exact ⟨He.free_ok X G q0_0,
    He.free_ok X G q0_1,
    He.free_ok X G q0_2,
    He.free_ok X G q0_3,
    He.free_ok X G q0_4,
    He.free_ok X G q0_5,
    He.free_ok X G q0_6,
    He.free_ok X G q0_7,
    He.free_ok X G q0_8,
    He.free_ok X G q0_9,
    He.free_ok X G q0_10,
    He.free_ok X G q0_11,
    He.free_ok X G q1_0,
    He.int_ok X G q1_1,
    He.int_ok X G q1_2,
    He.glo_ok X G q1_3,
    tupB_ok q1_4,
    tupB_ok q1_5,
    He.glo_ok X G q1_6,
    excB_ok q1_7,
    of_decide_eq_true q1_8,
    q1_9,
    q1_10,
    of_decide_eq_true q1_11,
    He.glo_ok X G q2_0,
    excB_ok q2_1,
    of_decide_eq_true q2_2,
    oexB_ok q2_3,
    of_decide_eq_true q2_4,
    of_decide_eq_true q2_5,
    of_decide_eq_true q2_6,
    of_decide_eq_true q2_7,
    He.glo_ok X G q2_8,
    excB_ok q2_9,
    of_decide_eq_true q2_10,
    oexB_ok q2_11,
    of_decide_eq_true q3_0,
    of_decide_eq_true q3_1,
    of_decide_eq_true q3_2,
    He.glo_ok X G q3_3,
    He.cls_ok q3_4,
    He.mkr_ok q3_5,
    He.meth_ok q3_6,
    insf_ok q3_7,
    owneq_ok q3_8,
    cread_ok q3_9,
    cmet_ok q3_10,
    of_decide_eq_true q3_11,
    of_decide_eq_true q4_0,
    of_decide_eq_true q4_1,
    of_decide_eq_true q4_2,
    He.glo_ok X G q4_3,
    He.cls_ok q4_4,
    He.mkr_ok q4_5,
    He.meth_ok q4_6,
    He.meth_ok q4_7,
    He.meth_ok q4_8,
    insf_ok q4_9,
    owneq_ok q4_10,
    cread_ok q4_11,
    cmet_ok q5_0,
    of_decide_eq_true q5_1,
    of_decide_eq_true q5_2,
    of_decide_eq_true q5_3,
    of_decide_eq_true q5_4,
    of_decide_eq_true q5_5,
    of_decide_eq_true q5_6,
    of_decide_eq_true q5_7,
    of_decide_eq_true q5_8,
    of_decide_eq_true q5_9,
    of_decide_eq_true q5_10,
    c.def_ (d := dd_BadBox___init__) (by simp only [fn, List.mem_cons, true_or, or_true]),
    c.def_ (d := dd_BadPage___init__) (by simp only [fn, List.mem_cons, true_or, or_true]),
    He.glo_ok X G q5_11,
    c.def_ (d := dd_is_whole) (by simp only [fn, List.mem_cons, true_or, or_true]),
    He.glo_ok X G q6_0,
    c.def_ (d := dd_points_of) (by simp only [fn, List.mem_cons, true_or, or_true]),
    c.def_ (d := dd_Box___init__) (by simp only [fn, List.mem_cons, true_or, or_true]),
    c.def_ (d := dd_Box___eq__) (by simp only [fn, List.mem_cons, true_or, or_true]),
    He.glo_ok X G q6_1,
    c.def_ (d := dd_slab_parts) (by simp only [fn, List.mem_cons, true_or, or_true]),
    He.glo_ok X G q6_2,
    c.def_ (d := dd_slabs_of) (by simp only [fn, List.mem_cons, true_or, or_true]),
    He.glo_ok X G q6_3,
    c.def_ (d := dd_checked_couples) (by simp only [fn, List.mem_cons, true_or, or_true]),
    He.glo_ok X G q6_4,
    c.def_ (d := dd_check_marks) (by simp only [fn, List.mem_cons, true_or, or_true]),
    He.glo_ok X G q6_5,
    c.def_ (d := dd_place_rows) (by simp only [fn, List.mem_cons, true_or, or_true]),
    c.def_ (d := dd_Page___init__) (by simp only [fn, List.mem_cons, true_or, or_true]),
    c.def_ (d := dd_Page___eq__) (by simp only [fn, List.mem_cons, true_or, or_true]),
    He.glo_ok X G q6_6,
    c.def_ (d := dd__law_cell) (by simp only [fn, List.mem_cons, true_or, or_true]),
    He.glo_ok X G q6_7,
    c.def_ (d := dd__law_pool) (by simp only [fn, List.mem_cons, true_or, or_true]),
    He.glo_ok X G q6_8,
    c.def_ (d := dd__law_pull) (by simp only [fn, List.mem_cons, true_or, or_true]),
    He.glo_ok X G q6_9,
    c.def_ (d := dd__law_spots) (by simp only [fn, List.mem_cons, true_or, or_true]),
    He.glo_ok X G q6_10,
    c.def_ (d := dd__law_slabs) (by simp only [fn, List.mem_cons, true_or, or_true]),
    He.glo_ok X G q6_11,
    c.def_ (d := dd__law_shuffled) (by simp only [fn, List.mem_cons, true_or, or_true]),
    He.glo_ok X G q7_0,
    c.def_ (d := dd__law_widths) (by simp only [fn, List.mem_cons, true_or, or_true]),
    He.glo_ok X G q7_1,
    c.def_ (d := dd__law_cutting) (by simp only [fn, List.mem_cons, true_or, or_true]),
    He.glo_ok X G q7_2,
    c.def_ (d := dd__law_told) (by simp only [fn, List.mem_cons, true_or, or_true]),
    He.glo_ok X G q7_3,
    c.def_ (d := dd__law_set) (by simp only [fn, List.mem_cons, true_or, or_true]),
    He.glo_ok X G q7_4,
    c.def_ (d := dd__law_form_holds) (by simp only [fn, List.mem_cons, true_or, or_true]),
    He.glo_ok X G q7_5,
    c.def_ (d := dd__law_pages_hold) (by simp only [fn, List.mem_cons, true_or, or_true]),
    He.glo_ok X G q7_6,
    c.def_ (d := dd__law_is_great) (by simp only [fn, List.mem_cons, true_or, or_true]),
    He.glo_ok X G q7_7,
    c.def_ (d := dd__law_section) (by simp only [fn, List.mem_cons, true_or, or_true]),
    He.glo_ok X G q7_8,
    c.def_ (d := dd__law_stripes) (by simp only [fn, List.mem_cons, true_or, or_true]),
    He.glo_ok X G q7_9,
    c.def_ (d := dd_law) (by simp only [fn, List.mem_cons, true_or, or_true])⟩
section
variable {P : Program} {w : World} {K : PySem.W.Frag} {mg : Str → Option Value} {base : Heap} {f : Addr} {fd : FuncData}
/-! ### is_whole, its bounds given -/
theorem ok_whole (T : Tx K mg) : ∃ fd, FnOk P w K mg base CX0 1 (He.ga K "is_whole") fd ["thing", "low", "high"] spWhole ∧ FnP K "is_whole" "is_whole" s_is_whole [.non, .non] (He.ga K "is_whole") fd := by
  obtain ⟨fd, F⟩ := T.d_is_whole
  refine ⟨fd, F.ok sc_is_whole (fun vs H Q E h => ?_) (fun cdv A outer s H vs Q E hr h => ?_), F⟩
  · obtain ⟨v, lo, hi, t, rfl, _⟩ := h
    rfl
  · obtain ⟨v, lo, hi, t, rfl, kn, q⟩ := h
    refine ⟨_, PSs.nox (pss_cons (ps_if (PW.pt (pw_or (pt_not (pt_val (pe_callB call_isi (by rfl) T.n_isinstance (by decide +kernel) (pa_cons (pv 0) (pa_cons (pe_bltn (v := .ty "int") (u := .type "int") (by rfl) T.n_int (by decide +kernel) rfl) pa_nil))))) (pw_or1 (pt_val (pe_callB call_isi (by rfl) T.n_isinstance (by decide +kernel) (pa_cons (pv 0) (pa_cons (pe_bltn (v := .ty "bool") (u := .type "bool") (by rfl) T.n_bool (by decide +kernel) rfl) pa_nil)))))))
        (pss_one (ps_ret pe_bl))
        pss_nil)
      (pss_cons (ps_if (PW.pt (pw_and (pt_cmpR op_notN (pv 1) pe_non (nomark _)) (pw_and1 (pt_cmpR op_lt (pv 0) (pv 1) (nomark _)))))
        (pss_one (ps_ret pe_bl))
        pss_nil)
      (pss_one (ps_ret (pe_or (pe_cmpR op_isN (pv 2) pe_non (nomark _)) (pe_one (pe_cmpR op_le (pv 0) (pv 2) (nomark _)))))))), ?_⟩
    rcases kn.whole (K := K) with ⟨i, rfl, a1, a2⟩ | ⟨a, nv, no⟩
    · refine ⟨_, rfl, _, _, _, _, _, rfl, .ty _, kn.ty, a1, _, rfl, iteF ⟨_, rfl, _, _, _, _, _, rfl, .ty _, kn.ty, a2, _, rfl, iteF ?_⟩⟩
      refine ⟨_, rfl, rfl, _, rfl, iteT ⟨_, rfl, _, rfl, _, _, rfl, rfl, _, rfl, ite2 (fun c => ?_) (fun c => ?_)⟩⟩
      · have e : wholeV (.int i) lo hi = false := by
          have z := of_decide_eq_true c
          show (decide (lo ≤ i) && decide (i ≤ hi)) = false
          rw [decide_eq_false (by omega), Bool.false_and]
        rw [e] at q
        exact q
      · refine ⟨_, rfl, rfl, _, rfl, iteF ⟨_, rfl, _, rfl, _, _, rfl, rfl, ?_⟩⟩
        have e : wholeV (.int i) lo hi = decide (i ≤ hi) := by
          have z : ¬ i < lo := fun z => c (decide_eq_true z)
          show (decide (lo ≤ i) && decide (i ≤ hi)) = _
          rw [decide_eq_true (show lo ≤ i by omega), Bool.true_and]
        rw [e] at q
        exact q
    · rw [no] at q
      rcases a with ⟨a1, a2⟩ | a1
      · exact ⟨_, rfl, _, _, _, _, _, rfl, .ty _, kn.ty, a1, _, rfl, iteF ⟨_, rfl, _, _, _, _, _, rfl, .ty _, kn.ty, a2, _, rfl, iteT q⟩⟩
      · exact ⟨_, rfl, _, _, _, _, _, rfl, .ty _, kn.ty, a1, _, rfl, iteT (iteT q)⟩
theorem C_is_whole (T : Tx K mg) : Cal P w K mg base CX0 1 "is_whole" ["thing", "low", "high"] [] spWhole := by
  obtain ⟨fd, G, F⟩ := ok_whole (P := P) (w := w) (base := base) T
  obtain ⟨ds, v, b⟩ := F.binds1 (ps := ["thing", "low", "high"]) 3 2 (List.cons_ne_nil _ _) rfl fun _ _ _ _ _ _ _ us its hu hi => match us, hu, its, hi with | [_, _, _], _, [_, _], _ => ⟨_, rfl, rfl⟩
  exact ⟨_, fd, ds, G, T.g_is_whole, F.kp, b, v⟩

end
end K07

set_option maxRecDepth 100000
set_option maxHeartbeats 0
namespace K07
open PySem PySem.Spec PyProof.Rows L2 Q
def ob (s : PySem.W.SharedT) : He.AlD := obsEG 6 fb fn (HandSHeadRun.getT s)
abbrev hk : PySem.W.Hook := hookE 6 fb fn
theorem ob_eq (s : PySem.W.SharedT) : ob s = hk.obs s.abs := obsEG_eq (HandSHeadRun.getT_eq s)
abbrev RowQ : PySem.W.OpenRow := PySem.W.OpenLaw.row PySem.Challenge.rw_fewfetches_k07_whole_slab_form_is_one
theorem run (w : World) : HandSHeadRun.RunEq RowQ (PySem.W.view RowQ.prog [36]) hk ob 4000 [("_wall" : PySem.Str), ("FetchError" : PySem.Str), ("BadBox" : PySem.Str), ("BadPage" : PySem.Str), ("is_whole" : PySem.Str), ("MOST_COLUMNS" : PySem.Str), ("HIGHEST" : PySem.Str), ("points_of" : PySem.Str), ("Box" : PySem.Str), ("SIGNS" : PySem.Str), ("slab_parts" : PySem.Str), ("slabs_of" : PySem.Str), ("checked_couples" : PySem.Str), ("check_marks" : PySem.Str), ("place_rows" : PySem.Str), ("Page" : PySem.Str), ("_law_cell" : PySem.Str), ("_law_pool" : PySem.Str), ("_law_pull" : PySem.Str), ("_law_spots" : PySem.Str), ("_law_slabs" : PySem.Str), ("_law_shuffled" : PySem.Str), ("_law_widths" : PySem.Str), ("_law_cutting" : PySem.Str), ("_law_told" : PySem.Str), ("_law_set" : PySem.Str), ("_law_form_holds" : PySem.Str), ("_law_pages_hold" : PySem.Str), ("_law_is_great" : PySem.Str), ("_law_section" : PySem.Str), ("_law_stripes" : PySem.Str)] w := by
  intro os
  kernel_rfl

end K07

set_option maxRecDepth 100000
set_option maxHeartbeats 4000000
namespace K07
open PySem PySem.Spec PyProof.Rows L2 Q RZ
section
variable {P : Program} {w : World} {K : PySem.W.Frag} {mg : Str → Option Value} {base : Heap} {f : Addr} {fd : FuncData}
/-! ### the law's pool of draws (k07 .. k13) -/
/-- a pool at p of which at most n draws were made -/
def PoolAt (H : Hp) (p : Addr) (n : Int) : Prop := ∃ l m k c : Int, H p = some (.lst [.int l, .int m, .int k, .int c]) ∧ 0 ≤ k ∧ k ≤ n
theorem PoolAt.mono {H : Hp} {p : Addr} {n n' : Int} (h : PoolAt H p n) (l : n ≤ n') : PoolAt H p n' := by
  obtain ⟨a, m, k, c, h1, h2, h3⟩ := h
  exact ⟨a, m, k, c, h1, h2, Int.le_trans h3 l⟩
theorem PoolAt.same {H H' : Hp} {p : Addr} {n : Int} (h : PoolAt H p n) (e : L2.Same H H') : PoolAt H' p n := by
  obtain ⟨a, m, k, c, h1, h2⟩ := h
  exact ⟨a, m, k, c, e _ _ h1, h2⟩
theorem PoolAt.new {H : Hp} {a p : Addr} {n : Int} (h : PoolAt H p n) (na : H a = none) : a ≠ p := fun z => by
  obtain ⟨_, _, _, _, h1, _⟩ := h
  rw [z, h1] at na
  cases na
theorem PoolAt.upd {H : Hp} {a p : Addr} {n : Int} {o : HO} (h : PoolAt H p n) (ne : a ≠ p) : PoolAt (L2.upd H a o) p n := by
  obtain ⟨l, m, k, c, h1, h2⟩ := h
  exact ⟨l, m, k, c, by rw [upd_ne ne.symm]; exact h1, h2⟩
/-- _law_cell: a number of the script, or 0 -/
def spCell (K : PySem.W.Frag) : Sp := fun vs H Q _ => ∃ (a : Addr) (ns : List Int) (k : Nat), vs = [.ref a, .int k] ∧ SqL K H a (ns.map V.int) ∧ ∀ r, Q (.int r) H
theorem C__law_cell (T : Tx K mg) : Cal P w K mg base CX0 1 "_law_cell" ["script", "k"] [] (spCell K) := by
  obtain ⟨fd, F⟩ := T.d__law_cell
  refine ⟨_, fd, [], F.ok sc__law_cell (fun vs H Q E h => ?_) (fun cdv A outer s H vs Q E hr h => ?_), T.g__law_cell, F.kp, F.bindsN fun _ _ _ _ _ _ us hl => match us, hl with | [_, _], _ => rfl, .nil⟩
  · obtain ⟨a, ns, k, rfl, _⟩ := h
    rfl
  · obtain ⟨a, ns, k, rfl, hS, kQ⟩ := h
    refine ⟨_, PSs.nox (pss_cons (ps_if (pt_cmpR op_lt (pv 1) (pe_callB call_len_seq (by rfl) T.n_len (by decide +kernel) (pa_cons (pv 0) pa_nil)) (nomark _))
        (pss_one (ps_ret (pe_op op_mod (pe_callTy call_int1 (by rfl) T.n_int (by decide +kernel) (pa_cons (pe_ix ix_list (pv 0) (pv 1) (fun _ _ => rfl)) pa_nil)) (pe_op op_mulW (pe_op op_pow pe_int pe_int) (pe_op op_pow pe_int pe_int)))))
        pss_nil)
      (pss_one (ps_ret pe_int))), ?_⟩
    refine ⟨_, rfl, _, rfl, a, _, rfl, .inl hS, _, _, rfl, rfl, _, rfl, ite2 (fun c => ?_) (fun c => kQ 0)⟩
    have hk : k < ns.length := by
      have := of_decide_eq_true c
      rw [List.length_map] at this
      omega
    refine ⟨_, rfl, _, rfl, a, _, _, _, rfl, rfl, hS, atI_nat (j := k) (by rw [List.getElem?_map, List.getElem?_eq_getElem hk]; rfl), .inl ⟨_, rfl, _, _, rfl, rfl, ⟨by decide, by decide, by decide⟩, _, _, rfl, rfl, ⟨by decide, by decide, by decide⟩, _, _, rfl, rfl, (by show (10 ^ 60 : Int).natAbs.log2 + (10 ^ 60 : Int).natAbs.log2 < 1000000; decide +kernel), _, _, rfl, rfl, (by show (0 : Int) < 10 ^ 60 * 10 ^ 60; decide), kQ _⟩⟩
def spPool (K : PySem.W.Frag) : Sp := fun vs H Q _ => ∃ (a : Addr) (ns : List Int) (k : Nat), vs = [.ref a, .int k] ∧ SqL K H a (ns.map V.int) ∧ ∀ p H', H p = none → L2.Same H H' → PoolAt H' p 0 → Q (.ref p) H'
theorem C__law_pool (T : Tx K mg) : Cal P w K mg base CX0 2 "_law_pool" ["script", "k"] [] (spPool K) := by
  obtain ⟨fd, F⟩ := T.d__law_pool
  have C__law_cell := C__law_cell (P := P) (w := w) (base := base) T
  refine ⟨_, fd, [], F.ok sc__law_pool (fun vs H Q E h => ?_) (fun cdv A outer s H vs Q E hr h => ?_), T.g__law_pool, F.kp, F.bindsN fun _ _ _ _ _ _ us hl => match us, hl with | [_, _], _ => rfl, .nil⟩
  · obtain ⟨a, ns, k, rfl, _⟩ := h
    rfl
  · obtain ⟨a, ns, k, rfl, hS, kQ⟩ := h
    refine ⟨_, PSs.nox (pss_cons (ps_set (i := 2) sc__law_pool.nd rfl (Or.inl rfl) (pe_cal C__law_cell (hr.mono (by decide)) pass0 (pa_cons (pv 0) (pa_cons (pv 1) pa_nil))))
      (pss_cons (ps_set (i := 3) sc__law_pool.nd rfl (Or.inl rfl) pe_int)
      (pss_cons (ps_if (pt_cmpR op_ge (pv 2) (pe_op op_pow pe_int pe_int) (nomark _))
        (pss_one (ps_set (i := 3) sc__law_pool.nd rfl (Or.inl rfl) (pv 2)))
        pss_nil)
      (pss_one (ps_ret (pe_lst (pa_cons (pv 3) (pa_cons (pe_op op_mod (pe_callTy call_int1 (by rfl) T.n_int (by decide +kernel) (pa_cons (pe_op op_add (pe_op op_add (pe_op op_mul (pv 2) pe_int) (pe_op op_mul (pv 1) pe_int)) pe_int) pa_nil)) pe_int) (pa_cons pe_int (pa_cons (pv 2) pa_nil)))))))))), ?_⟩
    refine ⟨_, rfl, _, rfl, a, ns, k, rfl, hS, fun r => ?_⟩
    refine ⟨_, rfl, _, _, rfl, rfl, ⟨by decide, by decide, by decide⟩, _, _, rfl, rfl, _, rfl, ite2 (fun c => ?_) (fun c => ?_)⟩
    · refine ⟨_, rfl, _, rfl, _, rfl, _, _, rfl, rfl, .inr ⟨by decide, by decide⟩, _, rfl, _, _, rfl, rfl, .inr ⟨by decide, by decide⟩, _, _, rfl, rfl, _, _, rfl, rfl, .inl ⟨_, rfl, _, _, rfl, rfl, (by show (0 : Int) < 2147483647; decide), _, rfl, (by show 4 ≤ sizeLine; decide), fun p np => ?_⟩⟩
      exact kQ p _ np (same_new np) ⟨_, _, _, _, upd_same, Int.le_refl _, Int.le_refl _⟩
    · refine ⟨_, rfl, _, rfl, _, _, rfl, rfl, .inr ⟨by decide, by decide⟩, _, rfl, _, _, rfl, rfl, .inr ⟨by decide, by decide⟩, _, _, rfl, rfl, _, _, rfl, rfl, .inl ⟨_, rfl, _, _, rfl, rfl, (by show (0 : Int) < 2147483647; decide), _, rfl, (by show 4 ≤ sizeLine; decide), fun p np => ?_⟩⟩
      exact kQ p _ np (same_new np) ⟨_, _, _, _, upd_same, Int.le_refl _, Int.le_refl _⟩
/-- _law_pull: a number below many, or 0; the pool alone is turned -/
def spPull : Sp := fun vs H Q _ => ∃ (p : Addr) (n many : Int), vs = [.ref p, .int many] ∧ PoolAt H p n ∧ n < 2 ^ 60 ∧ many < 2 ^ 200 ∧ ∀ (r : Int) (H' : Hp), 0 ≤ r → (r < many ∨ r = 0) → Off p H H' → PoolAt H' p (n + 1) → Q (.int r) H'
theorem C__law_pull (T : Tx K mg) : Cal P w K mg base CX0 1 "_law_pull" ["pool", "many"] [] spPull := by
  obtain ⟨fd, F⟩ := T.d__law_pull
  refine ⟨_, fd, [], F.ok sc__law_pull (fun vs H Q E h => ?_) (fun cdv A outer s H vs Q E hr h => ?_), T.g__law_pull, F.kp, F.bindsN fun _ _ _ _ _ _ us hl => match us, hl with | [_, _], _ => rfl, .nil⟩
  · obtain ⟨p, n, many, rfl, _⟩ := h
    rfl
  · obtain ⟨p, n, many, rfl, B, hn, h200, q⟩ := h
    have B0 := B
    obtain ⟨l, m, k, c, hp, k0, kn⟩ := B
    refine ⟨_, PSs.nox (pss_cons (ps_if (pt_cmpR op_le (pv 1) pe_int (nomark _))
        (pss_one (ps_ret pe_int))
        pss_nil)
      (pss_cons (ps_if (pt_cmpR op_gt (pe_ix ix_list (pv 0) pe_int (fun _ _ => rfl)) pe_int (nomark _))
        (pss_cons (ps_set (i := 2) sc__law_pull.nd rfl (Or.inl rfl) (pe_op op_mod (pe_callTy call_int1 (by rfl) T.n_int (by decide +kernel) (pa_cons (pe_ix ix_list (pv 0) pe_int (fun _ _ => rfl)) pa_nil)) (pv 1)))
        (pss_cons (ps_asg (pe_op op_fdivW (pe_ix ix_list (pv 0) pe_int (fun _ _ => rfl)) (pv 1)) (pg_sub (pv 0) pe_int set_list))
        (pss_one (ps_ret (pv 2)))))
        pss_nil)
      (pss_cons (ps_asg (pe_op op_add (pe_ix ix_list (pv 0) pe_int (fun _ _ => rfl)) pe_int) (pg_sub (pv 0) pe_int set_list))
      (pss_cons (ps_asg (pe_op op_mod (pe_callTy call_int1 (by rfl) T.n_int (by decide +kernel) (pa_cons (pe_op op_add (pe_op op_add (pe_op op_add (pe_op op_mul (pe_ix ix_list (pv 0) pe_int (fun _ _ => rfl)) pe_int) (pe_op op_mul (pe_ix ix_list (pv 0) pe_int (fun _ _ => rfl)) (pe_op op_add (pe_op op_mul pe_int (pe_ix ix_list (pv 0) pe_int (fun _ _ => rfl))) pe_int))) (pe_op op_mul (pe_ix ix_list (pv 0) pe_int (fun _ _ => rfl)) pe_int)) pe_int) pa_nil)) pe_int) (pg_sub (pv 0) pe_int set_list))
      (pss_one (ps_ret (pe_op op_mod (pe_op op_mod (pe_callTy call_int1 (by rfl) T.n_int (by decide +kernel) (pa_cons (pe_op op_add (pe_op op_mul (pe_ix ix_list (pv 0) pe_int (fun _ _ => rfl)) pe_int) (pe_ix ix_list (pv 0) pe_int (fun _ _ => rfl))) pa_nil)) pe_int) (pv 1)))))))), ?_⟩
    refine ⟨_, rfl, _, _, rfl, rfl, _, rfl, ite2 (fun e => ?_) (fun e => ?_)⟩
    · exact q 0 H (Int.le_refl _) (.inr rfl) (Off.refl _ _) (B0.mono (by omega))
    have h0 : 0 < many := by
      have : ¬ many ≤ 1 := fun z => e (decide_eq_true z)
      omega
    have md : ∀ i : Int, 0 ≤ i % many ∧ i % many < many := fun i => ⟨Int.emod_nonneg i (by omega), Int.emod_lt_of_pos i h0⟩
    have wd : ∀ i : Int, CDivW i many := fun i => wide_div h0 (b := 200) (by have := h200; omega) (by decide) (by decide)
    refine ⟨_, rfl, p, _, 0, _, rfl, rfl, SqL.of hp, rfl, _, _, rfl, rfl, _, rfl, ite2 (fun c2 => ?_) (fun c2 => ?_)⟩
    · refine ⟨_, rfl, p, _, 0, _, rfl, rfl, SqL.of hp, rfl, .inl ⟨_, rfl, _, rfl, _, _, rfl, rfl, h0, ?_⟩⟩
      refine ⟨_, rfl, p, _, 0, _, rfl, rfl, SqL.of hp, rfl, _, rfl, _, _, rfl, rfl, wd _, _, rfl, p, _, 0, 0, rfl, rfl, hp, rfl, ?_⟩
      exact ⟨_, rfl, q _ _ (md l).1 (.inl (md l).2) Off.upd ⟨l / many, m, k, c, upd_same, k0, by omega⟩⟩
    · refine ⟨_, rfl, p, _, 2, _, rfl, rfl, SqL.of hp, rfl, _, _, rfl, rfl, _, rfl, p, _, 2, 2, rfl, rfl, hp, rfl, ?_⟩
      refine ⟨_, rfl, p, _, 1, _, rfl, rfl, SqL.of upd_same, rfl, _, _, rfl, rfl, .inr ⟨by decide, by decide⟩, _, rfl, p, _, 3, _, rfl, rfl, SqL.of upd_same, rfl, _, rfl, p, _, 2, _, rfl, rfl, SqL.of upd_same, rfl, _, _, rfl, rfl, .inl ⟨by decide, by decide⟩, _, _, rfl, rfl, _, _, rfl, rfl, .inr ⟨by omega, by omega⟩, _, _, rfl, rfl,
        _, rfl, p, _, 2, _, rfl, rfl, SqL.of upd_same, rfl, _, _, rfl, rfl, .inr ⟨by decide, by decide⟩, _, _, rfl, rfl, _, _, rfl, rfl, .inl ⟨_, rfl, _, _, rfl, rfl, (by show (0 : Int) < 2147483647; decide), ?_⟩⟩
      refine ⟨_, rfl, p, _, 1, 1, rfl, rfl, upd_same, rfl, ?_⟩
      rw [upd_upd]
      refine ⟨_, rfl, p, _, 1, _, rfl, rfl, SqL.of upd_same, rfl, _, _, rfl, rfl, .inr ⟨by decide, by decide⟩, _, rfl, p, _, 2, _, rfl, rfl, SqL.of upd_same, rfl, _, _, rfl, rfl, .inl ⟨_, rfl, _, _, rfl, rfl, (by show (0 : Int) < 2147483629; decide), _, rfl, _, _, rfl, rfl, h0, ?_⟩⟩
      exact q _ _ (md _).1 (.inl (md _).2) Off.upd ⟨l, _, k + 1, c, upd_same, by omega, by omega⟩

end
end K07

set_option maxRecDepth 100000
set_option maxHeartbeats 4000000
/-! sorted(xs) of data of any depth; dict(pairs) whose keys are tuples. -/
namespace Q
open PySem PySem.Spec PyProof.Rows L2
/-- sorted(xs): each item is data, every two alike -/
@[irreducible] def rSortedD (K : PySem.W.Frag) : List V → Hp → VK → Prop := fun vs H R => ∃ (a : Addr) (β : Type) (enc : β → PyData) (val : β → V) (bs : List β), vs = [.ref a] ∧ SqL K H a (bs.map val) ∧ (∀ b ∈ bs, Dp K H (val b) (enc b)) ∧
  ((PySem.W.AllAlike (bs.map enc) ∧ PySem.W.Sortable (bs.map enc)) ∨ bs.length < 2) ∧ (∀ b ∈ bs, (enc b).depth ≤ 60) ∧ ∀ p, H p = none → R (.ref p) (upd H p (.lst ((bs.mergeSort (PySem.W.dataLe false enc)).map val)))
theorem each_vals {β : Type} {val : β → V} : ∀ {bs : List β} {us : List Value}, Vals (bs.map val) us → PySem.W.EachIs (fun u b => RelV (val b) u) us bs
  | [], us, h => by
    rw [List.map_nil] at h
    cases h
    exact .nil
  | b :: bs, us, h => by
    rw [List.map_cons] at h
    cases h with
    | cons a t => exact .cons a (each_vals t)
theorem vals_each {β : Type} {val : β → V} {bs : List β} {us : List Value} (h : PySem.W.EachIs (fun u b => RelV (val b) u) us bs) : Vals (bs.map val) us := by
  induction h with
  | nil => exact .nil
  | cons a _ ih => exact .cons a ih
theorem each_imp {α β : Type} {R S : α → β → Prop} {as : List α} {bs : List β} (h : PySem.W.EachIs R as bs) (f : ∀ a b, b ∈ bs → R a b → S a b) : PySem.W.EachIs S as bs := by
  induction h with
  | nil => exact .nil
  | cons a _ ih => exact .cons (f _ _ List.mem_cons_self a) (ih fun x y m => f x y (List.mem_cons_of_mem _ m))
theorem short_sort {β : Type} (le : β → β → Bool) : ∀ {bs : List β}, bs.length < 2 → bs.mergeSort le = bs
  | [], _ => List.mergeSort_nil
  | [b], _ => List.mergeSort_singleton b
  | _ :: _ :: _, h => absurd h (by simp)
theorem perm_short {α : Type} : ∀ {l m : List α}, l.Perm m → m.length < 2 → l = m
  | l, [], h, _ => List.Perm.eq_nil h
  | l, [x], h, _ => List.perm_singleton.mp h
  | _, _ :: _ :: _, _, h => absurd h (by simp)
theorem cr_sortedD {X : Cx} (hu : X.A.units + 70 < cLine) : CallR X (.builtin "sorted") (rSortedD X.K) := by
  intro pins s σ H vs us Q I r h
  unfold rSortedD at h
  obtain ⟨a, β, enc, val, bs, rfl, hs, hd, hal, hdp, q⟩ := h
  obtain ⟨its, rv, hl, hz⟩ := I.list hs
  obtain ⟨u, rfl, ru⟩ := vals1 r
  obtain rfl : u = Value.ref a := ru
  have hL : bs.length ≤ sizeLine := by rw [List.length_map] at hz; exact hz
  have e := each_vals rv
  have fin : ∀ out : List Value, PySem.W.EachIs (fun u b => RelV (val b) u) out (bs.mergeSort (PySem.W.dataLe false enc)) → EP X pins σ Q (.ref (s.heap.objs.size + 1)) { s with heap := sortedAll s.heap its out.toArray } := fun out eo => by
    obtain ⟨n, hn⟩ := sortedAll_at s.heap its out.toArray
    refine ⟨.ref _, upd H (s.heap.objs.size + 1) (.lst ((bs.mergeSort (PySem.W.dataLe false enc)).map val)), I.laid (t' := s.toks) (fun _ _ => sortedAll_old) (Nat.le_succ _) ⟨?_, out, n, vals_each eo, hn⟩, rfl, q _ (I.hok.fresh (Nat.le_succ _))⟩
    rw [List.length_map, List.length_mergeSort]
    exact hL
  by_cases h2 : bs.length < 2
  · refine SrtO.sorted_ord (ltv := fun _ _ => false) ⟨fun _ _ _ => rfl, fun _ _ _ _ _ => rfl⟩ hl.isList (by rw [← rv.length]; exact hz) (fun z => absurd z (by rw [← rv.length, List.length_map]; omega)) fun out _ hb => ?_
    have eo : out = its := perm_short hb.perm (by rw [← rv.length, List.length_map]; exact h2)
    refine fin out ?_
    rw [eo, short_sort _ h2]
    exact e
  · obtain ⟨hal, hk⟩ := hal.resolve_right h2
    refine PySem.W.sorted_data (β := β) (enc := enc) hl.isList e (each_imp e fun v b m rb => Dp.reads I _ _ _ (hd b m) rb) hal hk hL (fun b m => by have := hdp b m; show X.A.units + 2 + _ < _; omega) fun out _ eo => fin out eo
/-! ### dict(xs), xs a list of pairs whose keys are tuples -/
def mergeT (acc ps : List (List Key × V)) : List (List Key × V) := ps.foldl (fun a p => putK a p.1 p.2) acc
theorem length_mergeT : ∀ (ps acc : List (List Key × V)), (mergeT acc ps).length ≤ acc.length + ps.length
  | [], acc => Nat.le_refl _
  | p :: ps, acc => by
    have h1 := length_mergeT ps (putK acc p.1 p.2)
    have h2 := length_putK acc p.1 p.2
    show (mergeT (putK acc p.1 p.2) ps).length ≤ acc.length + (ps.length + 1)
    omega
theorem ktAll {H : Hp} : ∀ {ps : List (List Key × V)} {xs : List (List Key × Addr × Value)} {acc : List (List Key × V)} {ys : List (List Key × Addr × Value)}, KT H acc ys → KT H ps xs → KT H (mergeT acc ps) (PySem.storedAllH ys xs)
  | _, _, _, _, r, .nil => r
  | _, _, acc, ys, r, .cons (a := p) (b := x) h t => by
    have z := ktAll (r.put p.1 h.2.1 h.2.2) t
    rw [h.1] at z
    show KT H (mergeT (putK acc p.1 p.2) _) (PySem.storedAllH (PySem.storedH ys x.1 x.2.1 x.2.2) _)
    rw [h.1]
    exact z
/-- the pairs of such a list -/
theorem tpairs_of {X : Cx} {pins : List (Addr × Obj)} {σ : L2.St} {H : Hp} {s : Shared} (I : Inv X pins σ H s) : ∀ {ps : List Addr} {kvs : List (List Key × V)}, Paired (fun (p : Addr) (kv : List Key × V) => ∃ kb, SqT X.K H p [.ref kb, kv.2] ∧ H kb = some (.tup (kv.1.map kV))) ps kvs →
    ∃ xs : List (List Key × Addr × Value), KT H kvs xs ∧ xs.length = ps.length ∧ ∀ (j : Nat) (x : List Key × Addr × Value), xs[j]? = some x → ∃ p, ps[j]? = some p ∧ s.heap.IsTuple p #[.ref x.2.1, x.2.2]
  | _, _, .nil => ⟨[], .nil, rfl, fun j x e => by simp at e⟩
  | _, _, .cons (a := p) (b := kv) h t => by
    obtain ⟨xs, r, hl, hp⟩ := tpairs_of I t
    obtain ⟨kb, h1, h2⟩ := h
    obtain ⟨its, rv, ht, _⟩ := I.tuple h1
    obtain ⟨u, y, rfl, ru, ry⟩ := vals2 rv
    cases ru
    refine ⟨(kv.1, kb, y) :: xs, .cons ⟨rfl, h2, ry⟩ r, by rw [List.length_cons, List.length_cons, hl], fun j x e => ?_⟩
    cases j with
    | zero =>
      cases e
      exact ⟨p, rfl, ht⟩
    | succ j => exact hp j x e
@[irreducible] def rDictT (K : PySem.W.Frag) : List V → Hp → VK → Prop := fun vs H Q => ∃ (a : Addr) (ps : List Addr) (kvs : List (List Key × V)), vs = [.ref a] ∧ SqL K H a (ps.map V.ref) ∧
    Paired (fun (p : Addr) (kv : List Key × V) => ∃ kb, SqT K H p [.ref kb, kv.2] ∧ H kb = some (.tup (kv.1.map kV))) ps kvs ∧ ∀ p, H p = none → Q (.ref p) (upd H p (.dT (mergeT [] kvs)))
theorem call_dictPT {X : Cx} (hcalm : X.calm = true) (hu : X.A.units + 10 < cLine) : CallR X (.type "dict") (rDictT X.K) := by
  intro pins s σ H vs us Q I r q
  unfold rDictT at q
  obtain ⟨a, ps, kvs, rfl, hq, hp, q⟩ := q
  obtain ⟨u, rfl, rx⟩ := vals1 r
  cases rx
  obtain ⟨its, rv, pl, hz⟩ := I.list hq
  obtain rfl := refs_at rv
  rw [List.length_map] at hz
  obtain ⟨xs, rel, hl, hx⟩ := tpairs_of I hp
  obtain ⟨o, n, ho, hc, hd, hdat⟩ := pl
  have hm : (s.heap.objs.size == sysModules) = false := beq_eq_false_iff_ne.mpr (Nat.ne_of_gt I.big)
  have keys : ∀ x ∈ xs, (tupleKind (mixKind X.prog X.w)).is s.heap x.1 x.2.1 := fun x m => by
    obtain ⟨j, e⟩ := List.getElem?_of_mem m
    obtain ⟨p, z⟩ := (show ∃ p : List Key × V, kvs[j]? = some p ∧ p.1 = x.1 ∧ H x.2.1 = some (.tup (p.1.map kV)) by
      have : ∀ {l : List (List Key × V)} {m : List (List Key × Addr × Value)}, KT H l m → ∀ (j : Nat) x, m[j]? = some x → ∃ p : List Key × V, l[j]? = some p ∧ p.1 = x.1 ∧ H x.2.1 = some (.tup (p.1.map kV)) := by
        intro l m k
        induction k with
        | nil => intro j x e; simp at e
        | cons h _ ih =>
          intro j x e
          cases j with
          | zero => cases e; exact ⟨_, rfl, h.1, h.2.1⟩
          | succ j => exact ih j x e
      exact this rel j x e)
    rw [← z.2.1]
    exact key_of I.hok z.2.2
  refine PySem.call_dict_pairsH (knd := tupleKind (mixKind X.prog X.w)) (ps := xs) (PySem.PairArg.list a (ps.map Value.ref).toArray (fun j => ps.getD j 0) (xs.map fun x => (Value.ref x.2.1, x.2.2))) (I.ok.hd hcalm) (tupleKind_room_in1 (by show X.A.units + 1 + 1 < _; omega)) ⟨⟨o, n, ho, hc, hd, hdat⟩, by simp [hl], fun j k v e => ?_⟩ ⟨by simp, fun i key v e => ?_⟩ (fun h' kp x m => ?_) (by rw [List.length_map, hl]; exact hz) fun h' tk hd' k => ?_
  · rw [List.getElem?_map] at e
    obtain ⟨x, e1, e2⟩ := Option.map_eq_some_iff.mp e
    cases e2
    obtain ⟨p, e3, e4⟩ := hx j x e1
    refine ⟨?_, .inl ?_⟩
    · show (ps.map Value.ref).toArray[j]? = some (.ref (ps.getD j 0))
      rw [List.getElem?_toArray, List.getElem?_map, List.getD_eq_getElem?_getD, e3]
      rfl
    · show s.heap.IsTuple (ps.getD j 0) _
      rw [List.getD_eq_getElem?_getD, e3]
      exact e4
  · have e : (xs.map fun x => (Value.ref x.2.1, x.2.2))[i]? = some (key, v) := e
    rw [List.getElem?_map] at e
    obtain ⟨x, e1, e2⟩ := Option.map_eq_some_iff.mp e
    cases e2
    exact ⟨x.1, x.2.1, e1, rfl⟩
  · obtain ⟨o', arr, n', h1, h2⟩ := keys x m
    exact ⟨o', arr, n', kp _ _ (Nat.ne_of_lt (Heap.lt_size h1)) (fun z => nomatch z) h1, h2⟩
  · obtain ⟨q1, es, ep, h1, h2, h3, h4, _, h5⟩ := hd'
    have kt : KT H (mergeT [] kvs) (PySem.storedAllH [] xs) := ktAll .nil rel
    have hlen : (mergeT [] kvs).length ≤ sizeLine := by
      refine Nat.le_trans (length_mergeT kvs []) ?_
      rw [List.length_nil, Nat.zero_add, Paired.length rel, hl]
      exact hz
    refine ⟨.ref s.heap.objs.size, upd H s.heap.objs.size (.dT (mergeT [] kvs)), I.laid (t' := tk) (fun b o e => k b o (fun z => nomatch z) e) (Nat.le_refl _) ⟨hlen, hm, _, kt.keeps fun c ys ec => ?_, q1, es, ep, h1, h2, h3, h4, h5⟩, rfl, q _ (I.hok.fresh (Nat.le_refl _))⟩
    rw [upd_ne (ne_of_none ec (I.hok.fresh (Nat.le_refl _)))]
    exact ec
end Q

set_option maxRecDepth 100000
set_option maxHeartbeats 4000000
/-! Heaps in which all but the lists stands; slices by a place. -/
namespace Q
open PySem PySem.Spec PyProof.Rows L2
/-- all but the lists (and the tables of code objects) stands -/
def NL (H H' : Hp) : Prop := ∀ a o, (∀ xs, o ≠ .lst xs) → (∀ ps, o ≠ .tbl ps) → H a = some o → H' a = some o
theorem NL.refl (H : Hp) : NL H H := fun _ _ _ _ e => e
theorem NL.trans {H H1 H2 : Hp} (h : NL H H1) (k : NL H1 H2) : NL H H2 := fun a o n m e => k a o n m (h a o n m e)
theorem NL.same {H H' : Hp} (h : L2.Same H H') : NL H H' := fun a o _ _ e => h a o e
theorem NL.lst {H : Hp} {a : Addr} {xs ys : List V} (h : H a = some (.lst xs)) : NL H (upd H a (.lst ys)) := fun b o n _ e => by
  by_cases z : b = a
  · rw [z, h] at e
    exact absurd (Option.some.inj e).symm (n xs)
  · rw [upd_ne z]
    exact e
theorem NL.new {H : Hp} {a : Addr} {o : HO} (h : H a = none) : NL H (upd H a o) := NL.same (same_new h)
theorem NL.tup {H H' : Hp} {a : Addr} {xs : List V} (h : NL H H') (e : H a = some (.tup xs)) : H' a = some (.tup xs) := h _ _ (fun _ z => nomatch z) (fun _ z => nomatch z) e
theorem NL.ins {H H' : Hp} {a C dx : Addr} {fs : List (Str × V)} (h : NL H H') (e : H a = some (.ins C dx fs)) : H' a = some (.ins C dx fs) := h _ _ (fun _ z => nomatch z) (fun _ z => nomatch z) e
theorem NL.sqT {K : PySem.W.Frag} {H H' : Hp} {a : Addr} {xs : List V} (k : NL H H') (h : SqT K H a xs) : SqT K H' a xs := by
  rcases h with (h | ⟨o, h⟩) | h
  · exact .inl (.inl (k _ _ (fun _ z => nomatch z) (fun _ z => nomatch z) h))
  · exact .inl (.inr ⟨o, k _ _ (fun _ z => nomatch z) (fun _ z => nomatch z) h⟩)
  · exact .inr h
/-- what stood stands, a list of ours aside that was not there -/
theorem same_but {H H' : Hp} {a : Addr} {o : HO} (h : L2.Same H H') (n : H a = none) : L2.Same H (upd H' a o) := fun b u e => by
  rw [upd_ne (ne_of_none e n)]
  exact h _ _ e
theorem nwS {H H' : Hp} {p : Addr} {o : HO} (n : H p = none) (h : upd H p o = H') : L2.Same H H' ∧ H' p = some o := by
  subst h
  exact ⟨same_new n, upd_same⟩
theorem updS {H H' : Hp} {p : Addr} {o : HO} (h : upd H p o = H') : (∀ b u, b ≠ p → H b = some u → H' b = some u) ∧ H' p = some o := by
  subst h
  exact ⟨fun b u n e => by rw [upd_ne n]; exact e, upd_same⟩
/-- a list of ours that was not there is written: what stood stands -/
theorem Same.put {H H1 H2 : Hp} {p : Addr} (s : L2.Same H H1) (n : H p = none) (u : ∀ b o, b ≠ p → H1 b = some o → H2 b = some o) : L2.Same H H2 := fun b o e => u b o (ne_of_none e n) (s b o e)
theorem NL.put {H1 H2 : Hp} {p : Addr} {xs : List V} (e : H1 p = some (.lst xs)) (u : ∀ b o, b ≠ p → H1 b = some o → H2 b = some o) : NL H1 H2 := fun b o n _ z => u b o (fun w => by rw [w, e] at z; exact n xs (Option.some.inj z).symm) z
theorem cutV_take (xs : List V) {i : Nat} (h : i ≤ xs.length) : cutV xs none (some (i : Int)) = xs.take i := by
  unfold cutV
  rw [HT.sIx_none, HT.sIx_nat, List.drop_zero, Nat.sub_zero, Nat.min_eq_left h]
theorem cutV_drop (xs : List V) (i : Nat) : cutV xs (some (i : Int)) none = xs.drop i := by
  unfold cutV
  rw [HT.sIx_none, HT.sIx_nat]
  by_cases h : i ≤ xs.length
  · rw [Nat.min_eq_left h, List.take_of_length_le (by rw [List.length_drop]; omega)]
  · rw [Nat.min_eq_right (by omega), List.drop_length, List.drop_eq_nil_of_le (by omega)]
    exact List.take_nil
theorem paired_zip {α β : Type} {R : α → β → Prop} : ∀ {as : List α} {bs : List β}, Paired R as bs → (as.zip bs).map Prod.fst = as ∧ (as.zip bs).map Prod.snd = bs ∧ ∀ x ∈ as.zip bs, R x.1 x.2
  | _, _, .nil => ⟨rfl, rfl, fun _ m => nomatch m⟩
  | _, _, .cons a r => by
    obtain ⟨h1, h2, h3⟩ := paired_zip r
    refine ⟨by rw [List.zip_cons_cons, List.map_cons, h1], by rw [List.zip_cons_cons, List.map_cons, h2], fun x m => ?_⟩
    rw [List.zip_cons_cons] at m
    rcases List.mem_cons.mp m with e | m
    · rw [e]
      exact a
    · exact h3 x m
theorem paired_of {α β γ : Type} {R : α → β → Prop} {f : γ → α} {g : γ → β} : ∀ {cs : List γ}, (∀ c ∈ cs, R (f c) (g c)) → Paired R (cs.map f) (cs.map g)
  | [], _ => .nil
  | c :: cs, h => .cons (h c List.mem_cons_self) (paired_of fun x m => h x (List.mem_cons_of_mem _ m))
/-- sorted(xs), by what the items stand for -/
theorem sortedD_of {K : PySem.W.Frag} {γ : Type} {R : V → γ → Prop} {enc : γ → PyData} {H : Hp} {a : Addr} {vs : List V} {cs : List γ} {Q : VK} (h : SqL K H a vs) (p : Paired R vs cs) (hd : ∀ v c, c ∈ cs → R v c → Dp K H v (enc c))
    (hal : (PySem.W.AllAlike (cs.map enc) ∧ PySem.W.Sortable (cs.map enc)) ∨ cs.length < 2) (dp : ∀ c ∈ cs, (enc c).depth ≤ 60) (q : ∀ l ys, H l = none → Paired R ys (cs.mergeSort (PySem.W.dataLe false enc)) → Q (.ref l) (upd H l (.lst ys))) : rSortedD K [.ref a] H Q := by
  obtain ⟨h1, h2, h3⟩ := paired_zip p
  have ms : ∀ x ∈ vs.zip cs, x.2 ∈ cs := fun x m => by
    have : x.2 ∈ (vs.zip cs).map Prod.snd := List.mem_map_of_mem m
    rw [h2] at this
    exact this
  have e2 : (vs.zip cs).map (fun x => enc x.2) = cs.map enc := by
    rw [← h2, List.map_map, h2]
    rfl
  unfold rSortedD
  refine ⟨a, V × γ, fun x => enc x.2, Prod.fst, vs.zip cs, rfl, by rw [h1]; exact h, fun x m => hd _ _ (ms x m) (h3 x m), ?_, fun x m => dp _ (ms x m), fun l hl => q l _ hl ?_⟩
  · rw [e2]
    refine hal.imp id fun z => ?_
    have := congrArg List.length h2
    rw [List.length_map] at this
    omega
  · have e3 : ((vs.zip cs).mergeSort (PySem.W.dataLe false fun x : V × γ => enc x.2)).map Prod.snd = cs.mergeSort (PySem.W.dataLe false enc) := by
      rw [List.map_mergeSort (r := PySem.W.dataLe false fun x : V × γ => enc x.2) (s := PySem.W.dataLe false enc) (f := Prod.snd) (fun _ _ _ _ => rfl), h2]
    rw [← e3]
    exact paired_of fun x m => h3 x (List.mem_mergeSort.mp m)
/-- the order of a frame's rules of sorting -/
theorem cr_sortedR {X : Cx} {k : Nat} (hr : Room k X.A) : CallR X (.builtin "sorted") (rSortedD X.K) := cr_sortedD (by have := hr.un; omega)
theorem call_dictR {X : Cx} {k : Nat} (hr : Room k X.A) (hcalm : X.calm = true) : CallR X (.type "dict") (rDictT X.K) := call_dictPT hcalm (by have := hr.un; omega)
end Q

set_option maxRecDepth 100000
set_option maxHeartbeats 4000000
/-! A list comprehension, each item for what it stands for. -/
namespace Q
open PySem PySem.Spec PyProof.Rows L2
theorem Paired.imp {α β : Type} {R S : α → β → Prop} {as : List α} {bs : List β} (h : Paired R as bs) (f : ∀ a b, R a b → S a b) : Paired S as bs := Paired.mapP h f
theorem paired_get {α β : Type} {R : α → β → Prop} : ∀ {as : List α} {bs : List β}, Paired R as bs → ∀ (i : Nat) (a : α) (b : β), as[i]? = some a → bs[i]? = some b → R a b
  | _, _, .nil, i, a, b, h1, _ => by simp at h1
  | _, _, .cons x r, 0, a, b, h1, h2 => by cases h1; cases h2; exact x
  | _, _, .cons x r, i + 1, a, b, h1, h2 => paired_get r i a b h1 h2
theorem paired_len {α β : Type} {R : α → β → Prop} {as : List α} {bs : List β} (h : Paired R as bs) : as.length = bs.length := by
  induction h with
  | nil => rfl
  | cons _ _ ih => rw [List.length_cons, List.length_cons, ih]
theorem paired_and {α β : Type} {R : α → β → Prop} {p : β → Prop} : ∀ {as : List α} {bs : List β}, Paired R as bs → (∀ b ∈ bs, p b) → Paired (fun a b => R a b ∧ p b) as bs
  | _, _, .nil, _ => .nil
  | _, _, .cons a r, h => .cons ⟨a, h _ List.mem_cons_self⟩ (paired_and r fun b m => h b (List.mem_cons_of_mem _ m))
theorem lc_keep {J : It} {n : Nat} {G : Hp → Prop} {Y : Nat → Hp → V → Hp → Prop} (w : Walk J n G Y) {γ : Type} {cs : List γ} (hn : n = cs.length) {p : γ → Bool} {R : Hp → V → γ → Prop} (keepR : ∀ H H' y c, NL H H' → R H y c → R H' y c)
    {g : TG} {tt : TT} {te : TE} {vs : List Nat} {σ : L2.St} {H : Hp} {D : Addr} {Qd : Hp → Prop} (nD : H D = none) (len : cs.length < sizeLine) (hG : ∀ H', L2.Same H H' → G H') (hY : ∀ i H1 x H2, Y i H1 x H2 → L2.Same H1 H2)
    (hs : ∀ (i : Nat) (x : V) (H1 H2 : Hp) (R' : V → Hp → Prop) (N : Hp → Prop) (hi : i < cs.length), L2.Same H H1 → Y i H1 x H2 → (p cs[i] = true → ∀ y H3, L2.Same H2 H3 → R H3 y cs[i] → R' y H3) → (p cs[i] = false → ∀ H3, L2.Same H2 H3 → N H3) →
      g x (wipe σ vs) H2 fun σ2 H3 => wipe σ2 vs = wipe σ vs ∧ tt σ2 H3 fun b H4 => if b = true then te σ2 H4 R' else N H4)
    (hd : ∀ H' ys, L2.Same H H' → H' D = some (.lst ys) → Paired (R H') ys (cs.filter p) → Qd H') :
    ∃ W : Nat → Nat → Hp → Prop, (∃ m, W 0 m (upd H D (.lst []))) ∧ ∀ i m H, W i m H →
      (J.stop i H ∧ Qd H) ∨ (J.go i H ∧ ∃ Nx : Hp → Prop, (∀ H', Nx H' → ∃ m', m' < m ∧ W (i + 1) m' H') ∧ ∀ x H', J.yld i H x H' → g x (wipe σ vs) H' fun σ2 H2 => wipe σ2 vs = wipe σ vs ∧ tt σ2 H2 fun b H3 =>
        if b = true then te σ2 H3 fun y H4 => ∃ acc, H4 D = some (.lst acc) ∧ acc.length < sizeLine ∧ Nx (upd H4 D (.lst (acc ++ [y]))) else Nx H3) := by
  subst hn
  refine lc_it w (fun i H' => L2.Same H H' ∧ ∃ acc, H' D = some (.lst acc) ∧ Paired (R H') acc ((cs.take i).filter p)) ⟨same_new nD, [], upd_same, .nil⟩ (fun i H' _ q => hG H' q.1) ?_ ?_
  · rintro i x H1 H2 hi ⟨sm, acc, hD, hp⟩ y
    have s12 := hY _ _ _ _ y
    have ln : acc.length < sizeLine := by
      have h1 := paired_len hp
      have h2 := List.length_filter_le p (cs.take i)
      rw [List.length_take] at h2
      omega
    have et : (cs.take (i + 1)).filter p = (cs.take i).filter p ++ (if p cs[i] = true then [cs[i]] else []) := by
      rw [List.take_succ_eq_append_getElem hi, List.filter_append]
      by_cases q : p cs[i] = true
      · rw [if_pos q, List.filter_cons_of_pos q, List.filter_nil]
      · rw [if_neg q, List.filter_cons_of_neg q, List.filter_nil]
    refine hs i x H1 H2 _ _ hi sm y (fun q v H3 s3 r => ?_) fun q H3 s3 => ?_
    · have hD3 := s3 _ _ (s12 _ _ hD)
      have nl : NL H3 (upd H3 D (.lst (acc ++ [v]))) := NL.lst hD3
      refine ⟨acc, hD3, ln, same_but ((sm.trans s12).trans s3) nD, acc ++ [v], upd_same, ?_⟩
      rw [et, if_pos q]
      exact Paired.snoc (Paired.mapP hp fun a b z => keepR _ _ _ _ (((NL.same s12).trans (NL.same s3)).trans nl) z) (keepR _ _ _ _ nl r)
    · refine ⟨(sm.trans s12).trans s3, acc, s3 _ _ (s12 _ _ hD), ?_⟩
      rw [et, if_neg (by rw [q]; exact Bool.false_ne_true), List.append_nil]
      exact Paired.mapP hp fun a b z => keepR _ _ _ _ ((NL.same s12).trans (NL.same s3)) z
  · rintro H1 ⟨sm, acc, hD, hp⟩
    rw [List.take_length] at hp
    exact hd H1 acc sm hD hp
theorem yat_same {xs : List V} : ∀ i H1 x H2, YAt xs i H1 x H2 → L2.Same H1 H2 := fun _ _ _ _ y => by
  rw [y.1]
  exact Same.refl _
/-- over a list whose items stand for cs; no test -/
theorem lc_each {K : PySem.W.Frag} {a : Addr} {xs : List V} {γ δ : Type} {S : Hp → V → γ → Prop} {f : γ → δ} {cs : List γ} {R : Hp → V → δ → Prop} (keepR : ∀ H H' y c, NL H H' → R H y c → R H' y c) (keepS : ∀ H H' y c, NL H H' → S H y c → S H' y c)
    {g : TG} {te : TE} {vs : List Nat} {σ : L2.St} {H : Hp} {D : Addr} {Qd : Hp → Prop} (nD : H D = none) (hl : SqL K H a xs) (hp : Paired (S H) xs cs) (len : cs.length < sizeLine)
    (hs : ∀ (x : V) (c : γ) (H1 : Hp) (R' : V → Hp → Prop) (N : Hp → Prop), L2.Same H H1 → S H1 x c → (∀ y H3, L2.Same H1 H3 → R H3 y (f c) → R' y H3) →
      g x (wipe σ vs) H1 fun σ2 H3 => wipe σ2 vs = wipe σ vs ∧ tYes σ2 H3 fun b H4 => if b = true then te σ2 H4 R' else N H4)
    (hd : ∀ H' ys, L2.Same H H' → H' D = some (.lst ys) → Paired (R H') ys (cs.map f) → Qd H') :
    ∃ W : Nat → Nat → Hp → Prop, (∃ m, W 0 m (upd H D (.lst []))) ∧ ∀ i m H, W i m H →
      ((Itl K a).stop i H ∧ Qd H) ∨ ((Itl K a).go i H ∧ ∃ Nx : Hp → Prop, (∀ H', Nx H' → ∃ m', m' < m ∧ W (i + 1) m' H') ∧ ∀ x H', (Itl K a).yld i H x H' → g x (wipe σ vs) H' fun σ2 H2 => wipe σ2 vs = wipe σ vs ∧ tYes σ2 H2 fun b H3 =>
        if b = true then te σ2 H3 fun y H4 => ∃ acc, H4 D = some (.lst acc) ∧ acc.length < sizeLine ∧ Nx (upd H4 D (.lst (acc ++ [y]))) else Nx H3) := by
  refine lc_keep (walk_list (xs := xs)) (cs := cs) (paired_len hp) (p := fun _ => true) (R := fun H y c => R H y (f c)) (fun H H' y c => keepR H H' y (f c)) nD len (fun H' s => s.seq hl) yat_same (fun i x H1 H2 R' N hi s y k1 k2 => ?_) fun H' ys s e q => hd H' ys s e ?_
  · obtain ⟨rfl, e⟩ := y
    refine hs x cs[i] H2 R' N s ?_ (k1 rfl)
    exact keepS _ _ _ _ (NL.same s) (paired_get hp i _ _ e (List.getElem?_eq_getElem hi))
  · have ef : cs.filter (fun _ => true) = cs := List.filter_eq_self.mpr fun _ _ => rfl
    rw [ef] at q
    have : ∀ {as : List V} {bs : List γ}, Paired (fun y c => R H' y (f c)) as bs → Paired (R H') as (bs.map f) := fun h => by
      induction h with
      | nil => exact .nil
      | cons a _ ih => exact .cons a ih
    exact this q
/-- over a list whose items stand for cs: those that pass a test -/
theorem lc_pick {K : PySem.W.Frag} {a : Addr} {xs : List V} {γ : Type} {S : Hp → V → γ → Prop} {cs : List γ} {p : γ → Bool} {R : Hp → V → γ → Prop} (keepR : ∀ H H' y c, NL H H' → R H y c → R H' y c) (keepS : ∀ H H' y c, NL H H' → S H y c → S H' y c)
    {g : TG} {tt : TT} {te : TE} {vs : List Nat} {σ : L2.St} {H : Hp} {D : Addr} {Qd : Hp → Prop} (nD : H D = none) (hl : SqL K H a xs) (hp : Paired (S H) xs cs) (len : cs.length < sizeLine)
    (hs : ∀ (x : V) (c : γ) (H1 : Hp) (R' : V → Hp → Prop) (N : Hp → Prop), L2.Same H H1 → S H1 x c → (p c = true → ∀ y H3, L2.Same H1 H3 → R H3 y c → R' y H3) → (p c = false → ∀ H3, L2.Same H1 H3 → N H3) →
      g x (wipe σ vs) H1 fun σ2 H3 => wipe σ2 vs = wipe σ vs ∧ tt σ2 H3 fun b H4 => if b = true then te σ2 H4 R' else N H4)
    (hd : ∀ H' ys, L2.Same H H' → H' D = some (.lst ys) → Paired (R H') ys (cs.filter p) → Qd H') :
    ∃ W : Nat → Nat → Hp → Prop, (∃ m, W 0 m (upd H D (.lst []))) ∧ ∀ i m H, W i m H →
      ((Itl K a).stop i H ∧ Qd H) ∨ ((Itl K a).go i H ∧ ∃ Nx : Hp → Prop, (∀ H', Nx H' → ∃ m', m' < m ∧ W (i + 1) m' H') ∧ ∀ x H', (Itl K a).yld i H x H' → g x (wipe σ vs) H' fun σ2 H2 => wipe σ2 vs = wipe σ vs ∧ tt σ2 H2 fun b H3 =>
        if b = true then te σ2 H3 fun y H4 => ∃ acc, H4 D = some (.lst acc) ∧ acc.length < sizeLine ∧ Nx (upd H4 D (.lst (acc ++ [y]))) else Nx H3) := by
  refine lc_keep (walk_list (xs := xs)) (cs := cs) (paired_len hp) (p := p) (R := R) keepR nD len (fun H' s => s.seq hl) yat_same (fun i x H1 H2 R' N hi s y k1 k2 => ?_) hd
  obtain ⟨rfl, e⟩ := y
  exact hs x cs[i] H2 R' N s (keepS _ _ _ _ (NL.same s) (paired_get hp i _ _ e (List.getElem?_eq_getElem hi))) k1 k2
/-- over range(lo, lo + n) -/
theorem lc_rng {lo : Int} {n : Nat} {δ : Type} {f : Nat → δ} {p : Nat → Bool} {R : Hp → V → δ → Prop} (keepR : ∀ H H' y c, NL H H' → R H y c → R H' y c) {g : TG} {tt : TT} {te : TE} {vs : List Nat} {σ : L2.St} {H : Hp} {D : Addr} {Qd : Hp → Prop} (nD : H D = none) (len : n < sizeLine)
    (hs : ∀ (i : Nat) (H1 : Hp) (R' : V → Hp → Prop) (N : Hp → Prop), i < n → L2.Same H H1 → (p i = true → ∀ y H3, L2.Same H1 H3 → R H3 y (f i) → R' y H3) → (p i = false → ∀ H3, L2.Same H1 H3 → N H3) →
      g (.int (lo + i)) (wipe σ vs) H1 fun σ2 H3 => wipe σ2 vs = wipe σ vs ∧ tt σ2 H3 fun b H4 => if b = true then te σ2 H4 R' else N H4)
    (hd : ∀ H' ys, L2.Same H H' → H' D = some (.lst ys) → Paired (R H') ys (((List.range n).filter p).map f) → Qd H') :
    ∃ W : Nat → Nat → Hp → Prop, (∃ m, W 0 m (upd H D (.lst []))) ∧ ∀ i m H, W i m H →
      ((Itr lo n).stop i H ∧ Qd H) ∨ ((Itr lo n).go i H ∧ ∃ Nx : Hp → Prop, (∀ H', Nx H' → ∃ m', m' < m ∧ W (i + 1) m' H') ∧ ∀ x H', (Itr lo n).yld i H x H' → g x (wipe σ vs) H' fun σ2 H2 => wipe σ2 vs = wipe σ vs ∧ tt σ2 H2 fun b H3 =>
        if b = true then te σ2 H3 fun y H4 => ∃ acc, H4 D = some (.lst acc) ∧ acc.length < sizeLine ∧ Nx (upd H4 D (.lst (acc ++ [y]))) else Nx H3) := by
  refine lc_keep (walk_range (lo := lo) (n := n)) (cs := List.range n) (by rw [List.length_range]) (p := p) (R := fun H y i => R H y (f i)) (fun H H' y c => keepR H H' y (f c)) nD (by rw [List.length_range]; exact len) (fun _ _ => trivial) (fun _ _ _ _ y => by rw [y.1]; exact Same.refl _) (fun i x H1 H2 R' N hi s y k1 k2 => ?_) fun H' ys s e q => hd H' ys s e ?_
  · obtain ⟨rfl, rfl⟩ := y
    have ei : (List.range n)[i] = i := List.getElem_range ..
    rw [ei] at k1 k2
    exact hs i H2 R' N (by rwa [List.length_range] at hi) s k1 k2
  · have : ∀ {as : List V} {bs : List Nat}, Paired (fun y c => R H' y (f c)) as bs → Paired (R H') as (bs.map f) := fun h => by
      induction h with
      | nil => exact .nil
      | cons a _ ih => exact .cons a ih
    exact this q
end Q

set_option maxRecDepth 100000
set_option maxHeartbeats 4000000
/-! The points of a box, column by column; a list of points. -/
namespace Q
open PySem PySem.Spec PyProof.Rows L2
/-- how many -/
def cnt : List Int → List Int → Nat
  | l :: ls, h :: hs => (h - l).toNat * cnt ls hs
  | _, _ => 1
theorem upTo_len (l h : Int) : (upTo l h).length = (h - l).toNat := by
  unfold upTo
  rw [List.length_map, List.length_range]
theorem upTo_mem {l h v : Int} : v ∈ upTo l h ↔ l ≤ v ∧ v < h := by
  unfold upTo
  rw [List.mem_map]
  constructor
  · rintro ⟨k, hk, rfl⟩
    have := List.mem_range.mp hk
    omega
  · rintro ⟨h1, h2⟩
    exact ⟨(v - l).toNat, List.mem_range.mpr (by omega), by omega⟩
theorem flat_len {α β : Type} {f : α → List β} {n : Nat} : ∀ {as : List α}, (∀ a ∈ as, (f a).length = n) → (as.flatMap f).length = as.length * n
  | [], _ => by simp
  | a :: as, h => by
    rw [List.flatMap_cons, List.length_append, h a List.mem_cons_self, flat_len fun x m => h x (List.mem_cons_of_mem _ m), List.length_cons, Nat.succ_mul]
    omega
theorem spots_len : ∀ ls hs : List Int, (spots ls hs).length = cnt ls hs
  | [], [] => rfl
  | [], _ :: _ => rfl
  | _ :: _, [] => rfl
  | l :: ls, h :: hs => by
    show ((upTo l h).flatMap fun v => (spots ls hs).map (v :: ·)).length = (h - l).toNat * cnt ls hs
    rw [flat_len (n := cnt ls hs) fun v _ => by rw [List.length_map, spots_len], upTo_len]
theorem spots_snoc : ∀ {ls hs : List Int}, ls.length = hs.length → ∀ l h, spots (ls ++ [l]) (hs ++ [h]) = (spots ls hs).flatMap fun p => (upTo l h).map fun v => p ++ [v]
  | [], [], _, l, h => by
    show ((upTo l h).flatMap fun v => (spots [] []).map (v :: ·)) = ([[]] : List (List Int)).flatMap _
    have e : (fun v : Int => (spots [] []).map (v :: ·)) = fun v => [[v]] := rfl
    rw [e, List.flatMap_singleton]
    show (upTo l h).flatMap (fun v => [[v]]) = (upTo l h).map fun v => [] ++ [v]
    rw [← List.map_eq_flatMap]
    rfl
  | a :: ls, b :: hs, e, l, h => by
    show ((upTo a b).flatMap fun v => (spots (ls ++ [l]) (hs ++ [h])).map (v :: ·)) = ((upTo a b).flatMap fun v => (spots ls hs).map (v :: ·)).flatMap _
    rw [List.flatMap_assoc]
    congr 1
    funext v
    rw [spots_snoc (by simpa using e), List.map_flatMap, List.flatMap_map]
    congr 1
    funext p
    rw [List.map_map]
    rfl
  | [], _ :: _, e, _, _ => by cases e
  | _ :: _, [], e, _, _ => by cases e
theorem mem_spots : ∀ {ls hs p : List Int}, ls.length = hs.length → (p ∈ spots ls hs ↔ Within ls hs p)
  | [], [], p, _ => by
    show p ∈ [[]] ↔ _
    constructor
    · intro m
      rw [List.mem_singleton.mp m]
      exact .nil
    · intro m
      cases m
      exact List.mem_singleton.mpr rfl
  | l :: ls, h :: hs, p, e => by
    show p ∈ ((upTo l h).flatMap fun v => (spots ls hs).map (v :: ·)) ↔ _
    constructor
    · intro m
      obtain ⟨v, hv, m⟩ := List.mem_flatMap.mp m
      obtain ⟨q, hq, rfl⟩ := List.mem_map.mp m
      have := upTo_mem.mp hv
      exact .cons this.1 this.2 ((mem_spots (by simpa using e)).mp hq)
    · intro m
      cases m with
      | cons a b r => exact List.mem_flatMap.mpr ⟨_, upTo_mem.mpr ⟨a, b⟩, List.mem_map.mpr ⟨_, (mem_spots (by simpa using e)).mpr r, rfl⟩⟩
  | [], _ :: _, _, e => by cases e
  | _ :: _, [], _, e => by cases e
/-- all ranges hold something -/
def Full : List Int → List Int → Prop
  | l :: ls, h :: hs => l < h ∧ Full ls hs
  | [], [] => True
  | _, _ => False
theorem Full.len : ∀ {ls hs : List Int}, Full ls hs → ls.length = hs.length
  | [], [], _ => rfl
  | _ :: _, _ :: _, h => by rw [List.length_cons, List.length_cons, h.2.len]
  | [], _ :: _, h => h.elim
  | _ :: _, [], h => h.elim
theorem cnt_pos : ∀ {ls hs : List Int}, Full ls hs → 1 ≤ cnt ls hs
  | [], [], _ => Nat.le_refl _
  | l :: ls, h :: hs, f => by
    have a := cnt_pos f.2
    have b := f.1
    show 1 ≤ (h - l).toNat * cnt ls hs
    have : 1 ≤ (h - l).toNat := by omega
    exact Nat.mul_le_mul this a
  | [], _ :: _, h => h.elim
  | _ :: _, [], h => h.elim
theorem cnt_take : ∀ {ls hs : List Int} (k : Nat), Full ls hs → cnt (ls.take k) (hs.take k) ≤ cnt ls hs
  | [], [], k, _ => by rw [List.take_nil]; exact Nat.le_refl _
  | l :: ls, h :: hs, 0, f => cnt_pos f
  | l :: ls, h :: hs, k + 1, f => Nat.mul_le_mul (Nat.le_refl _) (cnt_take k f.2)
  | [], _ :: _, _, h => h.elim
  | _ :: _, [], _, h => h.elim
/-- a point as a tuple of ours -/
def ptRel (H : Hp) (v : V) (p : List Int) : Prop := ∃ t, v = .ref t ∧ H t = some (.tup (p.map V.int))
theorem ptRel.nl {H H' : Hp} {v : V} {p : List Int} (k : NL H H') (h : ptRel H v p) : ptRel H' v p := by
  obtain ⟨t, e, h⟩ := h
  exact ⟨t, e, k.tup h⟩
/-- a list of points -/
def SpotsAt (H : Hp) (l : Addr) (ps : List (List Int)) : Prop := ∃ vs, H l = some (.lst vs) ∧ Paired (ptRel H) vs ps
theorem SpotsAt.same {H H' : Hp} {l : Addr} {ps : List (List Int)} (h : SpotsAt H l ps) (s : L2.Same H H') : SpotsAt H' l ps := by
  obtain ⟨vs, h1, h2⟩ := h
  exact ⟨vs, s _ _ h1, Paired.mapP h2 fun _ _ z => z.nl (NL.same s)⟩
/-- a couple of numbers -/
def prRel (H : Hp) (v : V) (r : Int × Int) : Prop := ∃ t, v = .ref t ∧ H t = some (.tup [.int r.1, .int r.2])
theorem prRel.nl {H H' : Hp} {v : V} {r : Int × Int} (k : NL H H') (h : prRel H v r) : prRel H' v r := by
  obtain ⟨t, e, h⟩ := h
  exact ⟨t, e, k.tup h⟩
/-- the bag is a list: all but the lists stands -/
theorem kb_nl {b c : Addr} {n : Int} {H H' : Hp} (k : Kb b H H') (B : BagAt H b c n) : NL H H' := fun a o no _ e => by
  by_cases z : a = b
  · obtain ⟨ns, p, r, q, m, h1, _⟩ := B
    rw [z, h1] at e
    exact absurd (Option.some.inj e).symm (no _)
  · exact k a o z e
/-- a list of ours that was not there is written -/
theorem kb_put {b D : Addr} {H H1 H2 : Hp} (k : Kb b H H1) (nD : H D = none) (u : ∀ a o, a ≠ D → H1 a = some o → H2 a = some o) : Kb b H H2 := fun a o na e => u a o (ne_of_none e nD) (k a o na e)
theorem bag_but {b c D : Addr} {n : Int} {H1 H2 : Hp} (B : BagAt H1 b c n) (bD : D ≠ b) (cD : D ≠ c) (u : ∀ a o, a ≠ D → H1 a = some o → H2 a = some o) : BagAt H2 b c n := by
  obtain ⟨ns, p, r, q, m, h1, h2, h3⟩ := B
  exact ⟨ns, p, r, q, m, u _ _ bD.symm h1, u _ _ cD.symm h2, h3⟩
theorem paired_app {α β : Type} {R : α → β → Prop} {as as' : List α} {bs bs' : List β} (h : Paired R as bs) (h' : Paired R as' bs') : Paired R (as ++ as') (bs ++ bs') := by
  induction h with
  | nil => exact h'
  | cons a _ ih => exact .cons a ih
theorem paired_at {α β : Type} {R : α → β → Prop} : ∀ {as : List α} {bs : List β}, Paired R as bs → ∀ (i : Nat) (hi : i < bs.length), ∃ a, as[i]? = some a ∧ R a bs[i]
  | _, _, .nil, i, hi => absurd hi (Nat.not_lt_zero _)
  | _, _, .cons x r, 0, hi => ⟨_, rfl, x⟩
  | _, _, .cons x r, i + 1, hi => paired_at r i (by rw [List.length_cons] at hi; omega)
theorem paired_idx {α β : Type} {R : α → β → Prop} : ∀ {as : List α} {bs : List β}, as.length = bs.length → (∀ (i : Nat) (a : α) (b : β), as[i]? = some a → bs[i]? = some b → R a b) → Paired R as bs
  | [], [], _, _ => .nil
  | a :: as, b :: bs, e, h => .cons (h 0 a b rfl rfl) (paired_idx (by simpa using e) fun i x y h1 h2 => h (i + 1) x y h1 h2)
  | [], _ :: _, e, _ => by cases e
  | _ :: _, [], e, _ => by cases e
end Q

set_option maxRecDepth 100000
set_option maxHeartbeats 4000000
/-! Ascending lists; points within ranges; a dict's keys. -/
namespace Q
open PySem PySem.Spec PyProof.Rows L2
theorem asc_ext {α : Type} {lt : α → α → Prop} (irr : ∀ x, ¬ lt x x) (asy : ∀ x y, lt x y → ¬ lt y x) : ∀ {l m : List α}, l.Pairwise lt → m.Pairwise lt → (∀ x, x ∈ l ↔ x ∈ m) → l = m
  | [], [], _, _, _ => rfl
  | [], y :: m, _, _, h => absurd ((h y).mpr List.mem_cons_self) (by simp)
  | x :: l, [], _, _, h => absurd ((h x).mp List.mem_cons_self) (by simp)
  | x :: l, y :: m, p, q, h => by
    obtain ⟨p1, p2⟩ := List.pairwise_cons.mp p
    obtain ⟨q1, q2⟩ := List.pairwise_cons.mp q
    have e : x = y := by
      rcases List.mem_cons.mp ((h x).mp List.mem_cons_self) with e | a
      · exact e
      · rcases List.mem_cons.mp ((h y).mpr List.mem_cons_self) with e | b
        · exact e.symm
        · exact absurd (p1 _ b) (asy _ _ (q1 _ a))
    subst e
    rw [asc_ext irr asy p2 q2 fun z => ⟨fun a => by
      rcases List.mem_cons.mp ((h z).mp (List.mem_cons_of_mem _ a)) with e | b
      · exact absurd (p1 z a) (by rw [e]; exact irr _)
      · exact b, fun a => by
      rcases List.mem_cons.mp ((h z).mpr (List.mem_cons_of_mem _ a)) with e | b
      · exact absurd (q1 z a) (by rw [e]; exact irr _)
      · exact b⟩]
theorem asc_int {l m : List Int} (h : l.Pairwise (· < ·)) (k : m.Pairwise (· < ·)) (e : ∀ x, x ∈ l ↔ x ∈ m) : l = m := asc_ext (fun x => by omega) (fun x y => by omega) h k e
theorem upTo_asc (l h : Int) : (upTo l h).Pairwise (· < ·) := by
  unfold upTo
  rw [List.pairwise_map]
  refine List.Pairwise.imp ?_ (List.pairwise_lt_range (n := (h - l).toNat))
  intro a b q
  omega
theorem app_asc {l m : List Int} (h : l.Pairwise (· < ·)) (k : m.Pairwise (· < ·)) (e : ∀ x ∈ l, ∀ y ∈ m, x < y) : (l ++ m).Pairwise (· < ·) := List.pairwise_append.mpr ⟨h, k, e⟩
theorem upTo_first {l h : Int} (lt : l < h) : (upTo l h)[0]? = some l ∧ ∃ xs, upTo l h = xs ++ [h - 1] := by
  refine ⟨by rw [upTo_cons lt]; rfl, ?_⟩
  unfold upTo
  obtain ⟨n, e⟩ : ∃ n : Nat, (h - l).toNat = n + 1 := ⟨(h - l).toNat - 1, by omega⟩
  rw [e, List.range_succ, List.map_append]
  refine ⟨(List.range n).map fun (k : Nat) => l + (k : Int), ?_⟩
  have : l + (n : Int) = h - 1 := by omega
  rw [← this]
  rfl
/-- within, place by place -/
theorem within_iff : ∀ {ls hs p : List Int}, ls.length = hs.length → (Within ls hs p ↔ p.length = ls.length ∧ ∀ i, i < ls.length → ls.getD i 0 ≤ p.getD i 0 ∧ p.getD i 0 < hs.getD i 0)
  | [], [], p, _ => by
    constructor
    · intro h
      cases h
      exact ⟨rfl, fun i hi => absurd hi (Nat.not_lt_zero _)⟩
    · rintro ⟨h, _⟩
      rw [List.eq_nil_of_length_eq_zero h]
      exact .nil
  | l :: ls, h :: hs, [], e => by
    constructor
    · intro w
      cases w
    · rintro ⟨w, _⟩
      cases w
  | l :: ls, h :: hs, x :: p, e => by
    have ih := within_iff (ls := ls) (hs := hs) (p := p) (by simpa using e)
    constructor
    · intro w
      cases w with
      | cons a b r =>
        obtain ⟨r1, r2⟩ := ih.mp r
        refine ⟨by rw [List.length_cons, List.length_cons, r1], fun i hi => ?_⟩
        cases i with
        | zero => exact ⟨a, b⟩
        | succ i => exact r2 i (by rw [List.length_cons] at hi; omega)
    · rintro ⟨w1, w2⟩
      have z := w2 0 (by rw [List.length_cons]; omega)
      exact .cons z.1 z.2 (ih.mpr ⟨by simpa using w1, fun i hi => w2 (i + 1) (by rw [List.length_cons]; omega)⟩)
  | [], _ :: _, _, e => by cases e
  | _ :: _, [], _, e => by cases e
theorem nodup_len {α : Type} [DecidableEq α] : ∀ {l m : List α}, l.Nodup → (∀ x ∈ l, x ∈ m) → l.length ≤ m.length
  | [], _, _, _ => Nat.zero_le _
  | x :: l, m, n, h => by
    obtain ⟨n1, n2⟩ := List.nodup_cons.mp n
    have hx := h x List.mem_cons_self
    have ih := nodup_len n2 (m := m.erase x) fun y hy => (List.mem_erase_of_ne (fun e : y = x => n1 (by rw [← e]; exact hy))).2 (h y (List.mem_cons_of_mem _ hy))
    have e := List.length_erase_of_mem hx
    have := List.length_pos_of_mem hx
    rw [List.length_cons]
    omega
/-- the points ascend -/
theorem lex_cons {x y : Int} {p q : List Int} : (x :: p) < (y :: q) ↔ x < y ∨ (x = y ∧ p < q) := List.cons_lt_cons_iff
theorem lex_irr : ∀ p : List Int, ¬ p < p
  | [] => by intro h; cases h
  | x :: p => by
    rw [lex_cons]
    rintro (h | ⟨_, h⟩)
    · omega
    · exact lex_irr p h
theorem lex_asy : ∀ p q : List Int, p < q → ¬ q < p
  | [], [], h, _ => by cases h
  | [], _ :: _, _, k => by cases k
  | _ :: _, [], h, _ => by cases h
  | x :: p, y :: q, h, k => by
    rw [lex_cons] at h k
    rcases h with h | ⟨e, h⟩ <;> rcases k with k | ⟨e', k⟩
    · omega
    · omega
    · omega
    · exact lex_asy p q h k
theorem spots_asc : ∀ ls hs : List Int, (spots ls hs).Pairwise (· < ·)
  | [], [] => List.pairwise_singleton _ _
  | [], _ :: _ => List.pairwise_singleton _ _
  | _ :: _, [] => List.pairwise_singleton _ _
  | l :: ls, h :: hs => by
    show ((upTo l h).flatMap fun v => (spots ls hs).map (v :: ·)).Pairwise (· < ·)
    rw [List.pairwise_flatMap]
    refine ⟨fun v _ => ?_, ?_⟩
    · rw [List.pairwise_map]
      exact (spots_asc ls hs).imp fun {a b} q => lex_cons.mpr (.inr ⟨rfl, q⟩)
    · refine (upTo_asc l h).imp fun {a b} q x hx y hy => ?_
      obtain ⟨x', _, rfl⟩ := List.mem_map.mp hx
      obtain ⟨y', _, rfl⟩ := List.mem_map.mp hy
      exact lex_cons.mpr (.inl q)
theorem spots_nodup (ls hs : List Int) : (spots ls hs).Nodup := List.Pairwise.imp (S := fun a b => a ≠ b) (fun {a b} q e => lex_irr a (by rw [← e] at q; exact q)) (spots_asc ls hs)
/-! ### a dict made of pairs has just their keys -/
theorem valV_mergeT (k : List Key) : ∀ (ps acc : List (List Key × V)), (valV (mergeT acc ps) k).isSome = true ↔ (valV acc k).isSome = true ∨ k ∈ ps.map Prod.fst
  | [], acc => by
    show (valV acc k).isSome = true ↔ _
    simp
  | p :: ps, acc => by
    show (valV (mergeT (putK acc p.1 p.2) ps) k).isSome = true ↔ _
    rw [valV_mergeT k ps, valV_put, List.map_cons, List.mem_cons]
    by_cases e : k = p.1
    · rw [if_pos e]
      exact ⟨fun _ => .inr (.inl e), fun _ => .inl rfl⟩
    · rw [if_neg e]
      exact ⟨fun h => h.elim .inl fun z => .inr (.inr z), fun h => h.elim .inl fun z => z.elim (fun y => absurd y e) .inr⟩
abbrev ptKey (p : List Int) : List Key := p.map Sum.inl
theorem ptKey_kV (p : List Int) : (ptKey p).map kV = p.map V.int := by
  rw [List.map_map]
  rfl
theorem ptKey_inj {p q : List Int} (h : ptKey p = ptKey q) : p = q := List.map_inj_right (fun _ _ e => Sum.inl.inj e) |>.mp h
/-- the dict of points: is it in -/
theorem dict_pts (ps : List (List Int)) (q : List Int) : (valV (mergeT [] (ps.map fun p => (ptKey p, V.bl true))) (ptKey q)).isSome = decide (q ∈ ps) := by
  rw [Bool.eq_iff_iff, decide_eq_true_eq, valV_mergeT, List.map_map]
  constructor
  · rintro (h | h)
    · cases h
    · obtain ⟨p, hp, e⟩ := List.mem_map.mp h
      rw [← ptKey_inj e]
      exact hp
  · exact fun h => .inr (List.mem_map.mpr ⟨q, h, rfl⟩)
/-- a couple of a point and True -/
def kvRel (H : Hp) (v : V) (p : List Int) : Prop := ∃ q kb, v = .ref q ∧ H q = some (.tup [.ref kb, .bl true]) ∧ H kb = some (.tup (p.map V.int))
theorem kvRel.nl {H H' : Hp} {v : V} {p : List Int} (k : NL H H') (h : kvRel H v p) : kvRel H' v p := by
  obtain ⟨q, kb, e, h1, h2⟩ := h
  exact ⟨q, kb, e, k.tup h1, k.tup h2⟩
theorem dictPts_of {K : PySem.W.Frag} {H : Hp} {a : Addr} {ys : List V} {ps : List (List Int)} {Q : VK} (h : H a = some (.lst ys)) (hp : Paired (kvRel H) ys ps) (q : ∀ p, H p = none → Q (.ref p) (upd H p (.dT (mergeT [] (ps.map fun p => (ptKey p, V.bl true)))))) :
    rDictT K [.ref a] H Q := by
  unfold rDictT
  have key : ∀ {ys : List V} {ps : List (List Int)}, Paired (kvRel H) ys ps → ∃ as : List Addr, ys = as.map V.ref ∧ Paired (fun (p : Addr) (kv : List Key × V) => ∃ kb, SqT K H p [.ref kb, kv.2] ∧ H kb = some (.tup (kv.1.map kV))) as (ps.map fun p => (ptKey p, V.bl true)) := fun hp => by
    induction hp with
    | nil => exact ⟨[], rfl, .nil⟩
    | cons x _ ih =>
      obtain ⟨as, e, r⟩ := ih
      obtain ⟨q, kb, rfl, h1, h2⟩ := x
      exact ⟨q :: as, by rw [e]; rfl, .cons ⟨kb, SqT.of h1, by rw [h2, ptKey_kV]⟩ r⟩
  obtain ⟨as, e, r⟩ := key hp
  exact ⟨a, as, _, rfl, SqL.of (by rw [h, e]), r, q⟩
/-- is the point in the dict -/
theorem dget_pt {H : Hp} {d t : Addr} {ps : List (List Int)} {p : List Int} (h : H d = some (.dT (mergeT [] (ps.map fun p => (ptKey p, V.bl true))))) (ht : H t = some (.tup (p.map V.int))) : ∃ o, DGet H d (.ref t) o ∧ o.isSome = decide (p ∈ ps) :=
  ⟨_, DGet.t (k := ptKey p) h (by rw [ht, ptKey_kV]), dict_pts ps p⟩
end Q

set_option maxRecDepth 100000
set_option maxHeartbeats 4000000
/-! The rules whose relation names the written part, inside one comprehension (B) and inside two (BB).  Printed by mkblk.py. -/
namespace Q
open PySem PySem.Spec PyProof.Rows L2
section
variable {X : Cx} {s s2 : Shared} {H H2 : Hp} {sc sc2 : Scope} {ce ce2 : Env} {fp fp2 : List Addr}
theorem op_catAB : OpR (X.blk s H sc ce fp) (binaryOp .Add) (rCatA X.K) := op_catA (X := (X.blk s H sc ce fp))
theorem op_catABB : OpR ((X.blk s H sc ce fp).blk s2 H2 sc2 ce2 fp2) (binaryOp .Add) (rCatA X.K) := op_catA (X := ((X.blk s H sc ce fp).blk s2 H2 sc2 ce2 fp2))
theorem op_catTB : OpR (X.blk s H sc ce fp) (binaryOp .Add) (rCatT X.K) := op_catT (X := (X.blk s H sc ce fp))
theorem op_catTBB : OpR ((X.blk s H sc ce fp).blk s2 H2 sc2 ce2 fp2) (binaryOp .Add) (rCatT X.K) := op_catT (X := ((X.blk s H sc ce fp).blk s2 H2 sc2 ce2 fp2))
theorem ix_listB : IxR (X.blk s H sc ce fp)  (rIxL X.K) := ix_list (X := (X.blk s H sc ce fp))
theorem ix_listBB : IxR ((X.blk s H sc ce fp).blk s2 H2 sc2 ce2 fp2)  (rIxL X.K) := ix_list (X := ((X.blk s H sc ce fp).blk s2 H2 sc2 ce2 fp2))
theorem ix_tupB : IxR (X.blk s H sc ce fp)  (rIxT X.K) := ix_tup (X := (X.blk s H sc ce fp))
theorem ix_tupBB : IxR ((X.blk s H sc ce fp).blk s2 H2 sc2 ce2 fp2)  (rIxT X.K) := ix_tup (X := ((X.blk s H sc ce fp).blk s2 H2 sc2 ce2 fp2))
theorem ix_seqB : IxR (X.blk s H sc ce fp)  (rIx X.K) := ix_seq (X := (X.blk s H sc ce fp))
theorem ix_seqBB : IxR ((X.blk s H sc ce fp).blk s2 H2 sc2 ce2 fp2)  (rIx X.K) := ix_seq (X := ((X.blk s H sc ce fp).blk s2 H2 sc2 ce2 fp2))
theorem call_len_seqB : CallR (X.blk s H sc ce fp) (.builtin "len") (fun xs H Q => ∃ p ys, xs = [.ref p] ∧ (SqL X.K H p ys ∨ SqT X.K H p ys) ∧ Q (.int ys.length) H) := call_len_seq (X := (X.blk s H sc ce fp))
theorem call_len_seqBB : CallR ((X.blk s H sc ce fp).blk s2 H2 sc2 ce2 fp2) (.builtin "len") (fun xs H Q => ∃ p ys, xs = [.ref p] ∧ (SqL X.K H p ys ∨ SqT X.K H p ys) ∧ Q (.int ys.length) H) := call_len_seq (X := ((X.blk s H sc ce fp).blk s2 H2 sc2 ce2 fp2))
theorem call_tupOfB : CallR (X.blk s H sc ce fp) (.type "tuple") (rTupOf X.K) := call_tupOf (X := (X.blk s H sc ce fp))
theorem call_tupOfBB : CallR ((X.blk s H sc ce fp).blk s2 H2 sc2 ce2 fp2) (.type "tuple") (rTupOf X.K) := call_tupOf (X := ((X.blk s H sc ce fp).blk s2 H2 sc2 ce2 fp2))
theorem call_list_ofB : CallR (X.blk s H sc ce fp) (.type "list") (fun xs H Q => ∃ p ys, xs = [.ref p] ∧ (SqL X.K H p ys ∨ SqT X.K H p ys) ∧ ∀ l, H l = none → Q (.ref l) (upd H l (.lst ys))) := call_list_of (X := (X.blk s H sc ce fp))
theorem call_list_ofBB : CallR ((X.blk s H sc ce fp).blk s2 H2 sc2 ce2 fp2) (.type "list") (fun xs H Q => ∃ p ys, xs = [.ref p] ∧ (SqL X.K H p ys ∨ SqT X.K H p ys) ∧ ∀ l, H l = none → Q (.ref l) (upd H l (.lst ys))) := call_list_of (X := ((X.blk s H sc ce fp).blk s2 H2 sc2 ce2 fp2))
theorem call_isiB : CallR (X.blk s H sc ce fp) (.builtin "isinstance") (rIsi X.K) := call_isi (X := (X.blk s H sc ce fp))
theorem call_isiBB : CallR ((X.blk s H sc ce fp).blk s2 H2 sc2 ce2 fp2) (.builtin "isinstance") (rIsi X.K) := call_isi (X := ((X.blk s H sc ce fp).blk s2 H2 sc2 ce2 fp2))
theorem call_isiTB : CallR (X.blk s H sc ce fp) (.builtin "isinstance") (rIsiT X.K) := call_isiT (X := (X.blk s H sc ce fp))
theorem call_isiTBB : CallR ((X.blk s H sc ce fp).blk s2 H2 sc2 ce2 fp2) (.builtin "isinstance") (rIsiT X.K) := call_isiT (X := ((X.blk s H sc ce fp).blk s2 H2 sc2 ce2 fp2))
theorem pi_listB {tg l : Expr} {tl : TE} (hl : PE (X.blk s H sc ce fp) l tl) : PI (X.blk s H sc ce fp) tg l (iList X.K tl) := pi_list hl
theorem pi_listBB {tg l : Expr} {tl : TE} (hl : PE ((X.blk s H sc ce fp).blk s2 H2 sc2 ce2 fp2) l tl) : PI ((X.blk s H sc ce fp).blk s2 H2 sc2 ce2 fp2) tg l (iList X.K tl) := pi_list hl
theorem pi_tupB {tg l : Expr} {tl : TE} (hl : PE (X.blk s H sc ce fp) l tl) : PI (X.blk s H sc ce fp) tg l (iTup X.K tl) := pi_tup hl
theorem pi_tupBB {tg l : Expr} {tl : TE} (hl : PE ((X.blk s H sc ce fp).blk s2 H2 sc2 ce2 fp2) l tl) : PI ((X.blk s H sc ce fp).blk s2 H2 sc2 ce2 fp2) tg l (iTup X.K tl) := pi_tup hl
theorem pi_seqB {tg l : Expr} {tl : TE} (hl : PE (X.blk s H sc ce fp) l tl) : PI (X.blk s H sc ce fp) tg l (iSeq X.K tl) := pi_seq hl
theorem pi_seqBB {tg l : Expr} {tl : TE} (hl : PE ((X.blk s H sc ce fp).blk s2 H2 sc2 ce2 fp2) l tl) : PI ((X.blk s H sc ce fp).blk s2 H2 sc2 ce2 fp2) tg l (iSeq X.K tl) := pi_seq hl
end
end Q

set_option maxRecDepth 100000
set_option maxHeartbeats 4000000
namespace K07
open PySem PySem.Spec PyProof.Rows L2 Q RZ
section
variable {P : Program} {w : World} {K : PySem.W.Frag} {mg : Str → Option Value} {base : Heap} {f : Addr} {fd : FuncData}
/-- _law_is_great: either answer -/
def spGreat (K : PySem.W.Frag) : Sp := fun vs H Q _ => ∃ (a : Addr) (ns : List Int), vs = [.ref a] ∧ SqL K H a (ns.map V.int) ∧ ∀ b, Q (.bl b) H
theorem C__law_is_great (T : Tx K mg) : Cal P w K mg base CX0 1 "_law_is_great" ["script"] [] (spGreat K) := by
  obtain ⟨fd, F⟩ := T.d__law_is_great
  refine ⟨_, fd, [], F.ok sc__law_is_great (fun vs H Q E h => ?_) (fun cdv A outer s H vs Q E hr h => ?_), T.g__law_is_great, F.kp, F.bindsN fun _ _ _ _ _ _ us hl => match us, hl with | [_], _ => rfl, .nil⟩
  · obtain ⟨a, ns, rfl, _⟩ := h
    rfl
  · obtain ⟨a, ns, rfl, hS, kQ⟩ := h
    refine ⟨_, PSs.nox (pss_one (ps_ret (pe_and (pe_cmpR op_gt (pe_callB call_len_seq (by rfl) T.n_len (by decide +kernel) (pa_cons (pv 0) pa_nil)) pe_int (nomark _)) (pe_one (pe_cmpR op_eq (pe_op op_mod (pe_callTy call_int1 (by rfl) T.n_int (by decide +kernel) (pa_cons (pe_ix ix_list (pv 0) (pe_un un_neg pe_int) (fun _ _ => rfl)) pa_nil)) pe_int) pe_int (nomark _)))))), ?_⟩
    refine ⟨_, rfl, _, _, rfl, .inl hS, _, _, rfl, rfl, _, rfl, ite2 (fun c => ?_) (fun c => kQ _)⟩
    have hn : 0 < ns.length := by
      have := of_decide_eq_true c
      rw [List.length_map] at this
      omega
    obtain ⟨xs, x, rfl⟩ : ∃ xs x, ns = xs ++ [x] := ⟨ns.dropLast, ns.getLast (by intro z; rw [z] at hn; cases hn), (List.dropLast_concat_getLast _).symm⟩
    have e : (xs ++ [x]).map V.int = xs.map V.int ++ [V.int x] := by rw [List.map_append]; rfl
    rw [e] at hS
    refine ⟨_, rfl, 1, rfl, a, _, _, _, rfl, rfl, hS, atI_last _ _, .inl ⟨_, rfl, _, _, rfl, rfl, (by show (0 : Int) < 8; decide), rfl, kQ _⟩⟩

theorem full_at : ∀ {ls hs : List Int}, Full ls hs → ∀ {i : Nat} (h1 : i < ls.length) (h2 : i < hs.length), ls[i] < hs[i]
  | l :: ls, h :: hs, f, 0, _, _ => f.1
  | l :: ls, h :: hs, f, i + 1, h1, h2 => full_at f.2 (i := i) (by simpa using h1) (by simpa using h2)
  | [], [], _, _, h1, _ => absurd h1 (Nat.not_lt_zero _)
  | [], _ :: _, f, _, _, _ => f.elim
  | _ :: _, [], f, _, _, _ => f.elim
/-- xs[i] of a list or a tuple -/
theorem rIx_sq {H : Hp} {a : Addr} {xs : List V} {i : Nat} {v : V} {Q : VK} (h : Sq K H a xs) (e : xs[i]? = some v) (q : Q v H) : rIx K (.ref a) (.int i) H Q := h.elim (fun h => .inl ⟨a, _, _, _, rfl, rfl, h, atI_nat e, q⟩) fun h => .inr (.inl ⟨a, _, _, _, rfl, rfl, h, atI_nat e, q⟩)
/-- _law_spots(lows, highs) -/
def spSpots2 (K : PySem.W.Frag) : Sp := fun vs H Q _ => ∃ (a b : Addr) (lz hz : List Int), vs = [.ref a, .ref b] ∧ Sq K H a (lz.map V.int) ∧ Sq K H b (hz.map V.int) ∧ Full lz hz ∧ cnt lz hz ≤ 10000 ∧ (∀ i, i < lz.length → -1000 ≤ lz.getD i 0 ∧ hz.getD i 0 ≤ 1000) ∧ lz.length ≤ 1000 ∧ ∀ p H', L2.Same H H' → SpotsAt H' p (spots lz hz) → Q (.ref p) H'
theorem C__law_spots (T : Tx K mg) : Cal P w K mg base CX0 1 "_law_spots" ["lows", "highs"] [] (spSpots2 K) := by
  obtain ⟨fd, F⟩ := T.d__law_spots
  refine ⟨_, fd, [], F.ok sc__law_spots (fun vs H Q E h => ?_) (fun cdv A outer s H vs Q E hr h => ?_), T.g__law_spots, F.kp, F.bindsN fun _ _ _ _ _ _ us hl => match us, hl with | [_, _], _ => rfl, .nil⟩
  · obtain ⟨a, b, lz, hz, rfl, _⟩ := h
    rfl
  · obtain ⟨a, b, lz, hz, rfl, ha, hb, fu, hc, bd, len, kQ⟩ := h
    have lh := fu.len
    refine ⟨_, PSs.nox (pss_cons (ps_set (i := 2) sc__law_spots.nd rfl (Or.inl rfl) (pe_lst (pa_cons (pe_tup pa_nil) pa_nil)))
      (pss_cons (ps_for PassesOwn.never rfl (pi_range1 (by rfl) T.n_range (pa_cons (pe_callB call_len_seq (by rfl) T.n_len (by decide +kernel) (pa_cons (pv 0) pa_nil)) pa_nil)) (pg_name (i := 3) sc__law_spots.nd rfl (Or.inl rfl))
        (pss_cons (ps_set (i := 4) sc__law_spots.nd rfl (Or.inl rfl) (pe_lst pa_nil))
        (pss_cons (ps_for PassesOwn.never rfl (pi_list (pv 2)) (pg_name (i := 5) sc__law_spots.nd rfl (Or.inr rfl))
          (pss_one (ps_set (i := 4) sc__law_spots.nd rfl (Or.inl rfl) (pe_op op_cat (pv 4) (pe_lc (own := [("value", 6)]) (g := gName 6) (tt := tYes) (by rfl) sc__law_spots.nd (pi_range2 (by rfl) T.n_range (pa_cons (pe_ix ix_seq (pv 0) (pv 3) (fun _ _ => rfl)) (pa_cons (pe_ix ix_seq (pv 1) (pv 3) (fun _ _ => rfl)) pa_nil))) (blkOk_by (N := ["lows", "highs", "found", "k", "wider", "start", "value"]) (sc := defScope s__law_spots) (by decide +kernel)) (fun _ _ _ _ _ => (pg_name (i := 6) sc__law_spots.nd rfl (Or.inl rfl))) (fun _ _ _ _ _ => pts_nil) (fun _ _ _ _ _ => (pe_op op_catAB (pv 5) (pe_tup (pa_cons (pv 6) pa_nil)))))))))
        (pss_one (ps_set (i := 2) sc__law_spots.nd rfl (Or.inl rfl) (pv 4))))))
      (pss_one (ps_ret (pv 2))))), ?_⟩
    have zl : 20000 < sizeLine := by decide
    refine ⟨Nat.zero_le _, fun t0 n0 => ?_⟩
    generalize hq_ : L2.upd H t0 _ = Ha
    obtain ⟨s1, e1⟩ := _root_.Q.nwS n0 hq_
    clear hq_
    refine ⟨(by show 1 ≤ sizeLine; decide), fun D0 n1 => ?_⟩
    generalize hq_ : L2.upd Ha D0 _ = Hb
    obtain ⟨s2, e2⟩ := _root_.Q.nwS n1 hq_
    clear hq_
    have sb := s1.trans s2
    refine ⟨_, rfl, a, _, rfl, ha.same sb, _, rfl, (by ((try simp only [List.length_map, List.length_take, List.length_drop, List.length_append, List.length_cons, List.length_nil, List.length_zipWith, List.length_set, List.length_replicate, List.length_range]) <;> omega)), (by ((try simp only [List.length_map, List.length_take, List.length_drop, List.length_append, List.length_cons, List.length_nil, List.length_zipWith, List.length_set, List.length_replicate, List.length_range]) <;> omega)), ?_⟩
    rw [List.length_map, Int.toNat_natCast]
    refine for_range (lo := 0) (n := lz.length) (fun i σ H' => (∃ D v3 v4 v5, σ = [some (.ref a), some (.ref b), some (.ref D), v3, v4, v5, none] ∧ SpotsAt H' D (spots (lz.take i) (hz.take i))) ∧ L2.Same H H') ⟨⟨D0, none, none, none, rfl, [.ref t0], e2, .cons ⟨t0, rfl, s2 _ _ e1⟩ .nil⟩, sb⟩ ?_ ?_
    · rintro i σ H' hi ⟨⟨D, v3, v4, v5, rfl, ws, hD, hW⟩, sm⟩
      rw [Int.zero_add]
      have hi2 : i < hz.length := by omega
      have ft := spots_snoc (ls := lz.take i) (hs := hz.take i) (by ((try simp only [List.length_map, List.length_take, List.length_drop, List.length_append, List.length_cons, List.length_nil, List.length_zipWith, List.length_set, List.length_replicate, List.length_range]) <;> omega)) lz[i] hz[i]
      have t1 : lz.take i ++ [lz[i]] = lz.take (i + 1) := (List.take_succ_eq_append_getElem hi).symm
      have t2 : hz.take i ++ [hz[i]] = hz.take (i + 1) := (List.take_succ_eq_append_getElem hi2).symm
      rw [t1, t2] at ft
      have ct := cnt_take (i + 1) fu
      rw [← spots_len, ft, flat_len (n := (hz[i] - lz[i]).toNat) fun a _ => by rw [List.length_map, upTo_len]] at ct
      have lp : ∀ p ∈ spots (lz.take i) (hz.take i), p.length ≤ 1000 := fun p m => by
        have := ((mem_spots (by ((try simp only [List.length_map, List.length_take, List.length_drop, List.length_append, List.length_cons, List.length_nil, List.length_zipWith, List.length_set, List.length_replicate, List.length_range]) <;> omega))).mp m).length.2
        rw [this]
        ((try simp only [List.length_map, List.length_take, List.length_drop, List.length_append, List.length_cons, List.length_nil, List.length_zipWith, List.length_set, List.length_replicate, List.length_range]) <;> omega)
      have bi := bd i hi
      rw [List.getD_eq_getElem?_getD, List.getElem?_eq_getElem hi, List.getD_eq_getElem?_getD, List.getElem?_eq_getElem hi2] at bi
      have b1 : -1000 ≤ lz[i] := bi.1
      have b2 : hz[i] ≤ 1000 := bi.2
      have b3 : lz[i] < hz[i] := full_at fu hi hi2
      have ia : (lz.map V.int)[i]? = some (.int lz[i]) := by rw [List.getElem?_map, List.getElem?_eq_getElem hi]; rfl
      have ib : (hz.map V.int)[i]? = some (.int hz[i]) := by rw [List.getElem?_map, List.getElem?_eq_getElem hi2]; rfl
      generalize hps : spots (lz.take i) (hz.take i) = ps at hW ft ct lp
      refine ⟨Nat.zero_le _, fun E0 m0 => ?_⟩
      generalize hq_ : L2.upd H' E0 _ = Hd
      obtain ⟨s3, e3⟩ := _root_.Q.nwS m0 hq_
      clear hq_
      have e4 := s3 _ _ hD
      refine ⟨_, rfl, D, rfl, ⟨_, SqL.of e4⟩, ?_⟩
      have lW := paired_len hW
      generalize hlo : lz[i] = lo at ft ct b1 b3 ia
      generalize hhi : hz[i] = hi' at ft ct b2 b3 ib
      refine for_list (xs := ws) (fun j σ H' => (∃ E us v5, σ = [some (.ref a), some (.ref b), some (.ref D), some (.int i), some (.ref E), v5, none] ∧ H' E = some (.lst us) ∧ Paired (ptRel H') us ((ps.take j).flatMap fun p => (_root_.Q.upTo lo hi').map fun v => p ++ [v])) ∧ L2.Same Hd H') ⟨⟨E0, [], _, rfl, e3, .nil⟩, Same.refl _⟩ (fun i σ H' _ q => SqL.of (q.2 _ _ e4)) ?_ ?_
      · rintro j x σ H2 ex ⟨⟨E, us, v5, rfl, hE, hU⟩, sm2⟩
        have hj : j < ps.length := by
          have := (List.getElem?_eq_some_iff.mp ex).1
          omega
        obtain ⟨x', ex', tp, rfl, htp⟩ := paired_at (Paired.mapP hW fun _ _ z => z.nl (NL.same (s3.trans sm2))) j hj
        rw [ex] at ex'
        cases ex'
        have s0 := (sm.trans s3).trans sm2
        refine ⟨_, rfl, _, rfl, _, rfl, rIx_sq (ha.same s0) ia ⟨_, rfl, _, rfl, rIx_sq (hb.same s0) ib ⟨lo, hi', rfl, ⟨by omega, by omega, by omega, by omega⟩, fun F nF => ?_⟩⟩⟩
        have nn : (hi' - lo).toNat < sizeLine := by omega
        refine lc_rng (f := fun k => ps[j] ++ [lo + (k : Int)]) (p := fun _ => true) (R := ptRel) (fun _ _ _ _ k z => z.nl k) nF nn (fun k H3 R' N hk s3 k1 _ => ?_) fun H3 ys s3 hF hY => ?_
        · refine ⟨rfl, _, rfl, _, rfl, (by show 1 ≤ sizeLine; decide), fun q nq => ?_⟩
          generalize hq_ : L2.upd H3 q _ = H4
          obtain ⟨s5, e5⟩ := _root_.Q.nwS nq hq_
          clear hq_
          have h1 := s5 _ _ (s3 _ _ htp)
          refine ⟨tp, q, _, _, rfl, rfl, SqT.of h1, SqT.of e5, ?_, fun e => ?_, fun _ e => ?_, fun _ _ r nr => ?_⟩
          · show (ps[j].map V.int).length + 1 ≤ sizeLine
            have := lp _ (List.getElem_mem hj)
            rw [List.length_map]
            omega
          · refine k1 rfl _ _ s5 ⟨q, rfl, ?_⟩
            have : ps[j] = [] := by simpa using e
            rw [this]
            exact e5
          · cases e
          · generalize hq_ : L2.upd H4 r _ = H5
            obtain ⟨s6, e6⟩ := _root_.Q.nwS nr hq_
            clear hq_
            exact k1 rfl _ _ (s5.trans s6) ⟨r, rfl, by rw [e6, List.map_append]; rfl⟩
        · have ef : (List.range (hi' - lo).toNat).filter (fun _ => true) = List.range (hi' - lo).toNat := List.filter_eq_self.mpr fun _ _ => rfl
          rw [ef] at hY
          have lY := paired_len hY
          have lU := paired_len hU
          rw [flat_len (n := (hi' - lo).toNat) fun a _ => by rw [List.length_map, upTo_len], List.length_take, Nat.min_eq_left (by omega)] at lU
          rw [List.length_map, List.length_range] at lY
          have lt : j * (hi' - lo).toNat + (hi' - lo).toNat ≤ ps.length * (hi' - lo).toNat := by
            rw [← Nat.succ_mul]
            exact Nat.mul_le_mul_right _ hj
          refine ⟨E, F, _, _, rfl, rfl, s3 _ _ hE, hF, by omega, fun G nG => ?_⟩
          generalize hq_ : L2.upd H3 G _ = H4
          obtain ⟨s4', e5⟩ := _root_.Q.nwS nG hq_
          clear hq_
          refine ⟨⟨G, _, _, rfl, e5, ?_⟩, (sm2.trans s3).trans s4'⟩
          rw [List.take_succ_eq_append_getElem hj, List.flatMap_append]
          refine paired_app (Paired.mapP hU fun _ _ z => z.nl (NL.same (s3.trans s4'))) ?_
          have : [ps[j]].flatMap (fun p => (_root_.Q.upTo lo hi').map fun v => p ++ [v]) = (List.range (hi' - lo).toNat).map fun (k : Nat) => ps[j] ++ [lo + (k : Int)] := by
            unfold _root_.Q.upTo
            simp
          rw [this]
          exact Paired.mapP hY fun _ _ z => z.nl (NL.same s4')
      · rintro σ H2 ⟨⟨E, us, v5, rfl, hE, hU⟩, sm2⟩
        rw [lW, List.take_length, ← ft] at hU
        exact ⟨_, rfl, ⟨E, _, _, _, rfl, us, hE, hU⟩, (sm.trans s3).trans sm2⟩
    · rintro σ H' ⟨⟨D, v3, v4, v5, rfl, hD⟩, sm⟩
      rw [List.take_length, show hz.take lz.length = hz by rw [lh, List.take_length]] at hD
      exact ⟨_, rfl, kQ D H' sm hD⟩

end
end K07

set_option maxRecDepth 100000
set_option maxHeartbeats 4000000
namespace K07
open PySem PySem.Spec PyProof.Rows L2 Q RZ
section
variable {P : Program} {w : World} {K : PySem.W.Frag} {mg : Str → Option Value} {base : Heap} {f : Addr} {fd : FuncData}
theorem seqIx_nat {n j : Nat} (h : j < n) : seqIndex? (j : Int) n = some j := by
  unfold seqIndex?
  have h1 : ¬ (j : Int) < 0 := by omega
  simp only [if_neg h1]
  rw [if_pos (by simp; omega), Int.toNat_natCast]
theorem erase_perm {α : Type} : ∀ {l : List α} {j : Nat} (h : j < l.length), ([l[j]] ++ l.eraseIdx j).Perm l
  | [], _, h => absurd h (Nat.not_lt_zero _)
  | x :: l, 0, _ => List.Perm.refl _
  | x :: l, j + 1, h => by
    have hl : j < l.length := by rw [List.length_cons] at h; omega
    have ih := erase_perm (l := l) (j := j) hl
    show (l[j] :: x :: l.eraseIdx j).Perm (x :: l)
    exact (List.Perm.swap _ _ _).trans (List.Perm.cons x ih)
/-- _law_shuffled: the same things in some order -/
def spShuf (K : PySem.W.Frag) : Sp := fun vs H Q _ => ∃ (p l : Addr) (n : Int) (xs : List V), vs = [.ref p, .ref l] ∧ PoolAt H p n ∧ n < 2 ^ 59 ∧ SqL K H l xs ∧ xs.length ≤ 5000 ∧ ∀ q zs H', H q = none → Kb p H H' → PoolAt H' p (n + xs.length) → H' q = some (.lst zs) → zs.Perm xs → Q (.ref q) H'
theorem C__law_shuffled (T : Tx K mg) : Cal P w K mg base CX0 2 "_law_shuffled" ["pool", "things"] [] (spShuf K) := by
  obtain ⟨fd, F⟩ := T.d__law_shuffled
  have C__law_pull := C__law_pull (P := P) (w := w) (base := base) T
  refine ⟨_, fd, [], F.ok sc__law_shuffled (fun vs H Q E h => ?_) (fun cdv A outer s H vs Q E hr h => ?_), T.g__law_shuffled, F.kp, F.bindsN fun _ _ _ _ _ _ us hl => match us, hl with | [_, _], _ => rfl, .nil⟩
  · obtain ⟨p, l, n, xs, rfl, _⟩ := h
    rfl
  · obtain ⟨p, l, n, xs, rfl, B, hn, hl, len, kQ⟩ := h
    refine ⟨_, PSs.nox (pss_cons (ps_set (i := 2) sc__law_shuffled.nd rfl (Or.inl rfl) (pe_callTy call_list_of (by rfl) T.n_list (by decide +kernel) (pa_cons (pv 1) pa_nil)))
      (pss_cons (ps_set (i := 3) sc__law_shuffled.nd rfl (Or.inl rfl) (pe_lst pa_nil))
      (pss_cons (ps_while PassesOwn.never (pt_truth (pv 2) (by intro _; rfl))
        (pss_one (ps_expr (pe_bm PySem.F.plainAttrs_list PySem.F.slot_list_append PySem.F.type_list_append mt_append (pv 3) (pa_cons (pe_bm PySem.F.plainAttrs_list PySem.F.slot_list_pop PySem.F.type_list_pop mt_popAt (pv 2) (pa_cons (pe_cal C__law_pull (hr.mono (by decide)) pass0 (pa_cons (pv 0) (pa_cons (pe_callB call_len_seq (by rfl) T.n_len (by decide +kernel) (pa_cons (pv 2) pa_nil)) pa_nil))) pa_nil)) pa_nil)))))
      (pss_one (ps_ret (pv 3)))))), ?_⟩
    have big : 20000 < sizeLine := by decide
    refine ⟨_, rfl, l, _, rfl, .inl hl, fun L nL => ?_⟩
    generalize hq_ : L2.upd H L _ = H1
    obtain ⟨s1, o1⟩ := _root_.Q.nwS nL hq_
    clear hq_
    refine ⟨Nat.zero_le _, fun F0 nF => ?_⟩
    generalize hq_ : L2.upd H1 F0 _ = H2
    obtain ⟨s2, o2⟩ := _root_.Q.nwS nF hq_
    clear hq_
    have FL : F0 ≠ L := fun z => by rw [z, o1] at nF; cases nF
    have nF0 : H F0 = none := by
      cases z : H F0 with
      | none => rfl
      | some o => rw [s1 _ _ z] at nF; cases nF
    have Lp : L ≠ p := B.new nL
    have Fp : F0 ≠ p := B.new nF0
    have s12 := s1.trans s2
    refine ⟨fun m σ H' => ∃ us zs, m = us.length ∧ σ = [some (.ref p), some (.ref l), some (.ref L), some (.ref F0)] ∧ Kb p H H' ∧ PoolAt H' p (n + zs.length) ∧ H' L = some (.lst us) ∧ H' F0 = some (.lst zs) ∧ (zs ++ us).Perm xs, ⟨_, xs, [], rfl, rfl, Kb.of_same s12, (B.same s12).mono (by show n ≤ n + (0 : Nat); omega), s2 _ _ o1, o2, List.Perm.refl _⟩, ?_⟩
    rintro m σ H' ⟨us, zs, rfl, rfl, kb, BP, hL, hF, pm⟩
    have lp := pm.length_eq
    rw [List.length_append] at lp
    refine ⟨_, rfl, !us.isEmpty, .inl ⟨us, SqL.of hL, rfl⟩, ?_⟩
    cases us with
    | nil =>
      refine iteF ⟨_, rfl, kQ F0 zs H' nF0 kb ?_ hF ?_⟩
      · rw [← lp]
        exact BP.mono (by simp)
      · rw [List.append_nil] at pm
        exact pm
    | cons u us =>
      refine iteT ⟨_, fun σ2 H2 h => h, ?_⟩
      rw [List.length_cons] at lp
      refine ⟨_, rfl, .inl ⟨rfl, _, SqL.of hF⟩, _, rfl, .inl ⟨rfl, _, SqL.of hL⟩, _, rfl, _, rfl, L, _, rfl, .inl (SqL.of hL), p, _, _, rfl, BP, by omega, (by rw [List.length_cons]; omega), fun r H3 r0 r1 o3 B3 => ?_⟩
      obtain ⟨j, rfl⟩ : ∃ j : Nat, r = j := ⟨r.toNat, by omega⟩
      have hj : j < (u :: us).length := by
        rw [List.length_cons] at r1 ⊢
        omega
      have hj' : j < us.length + 1 := by
        rw [List.length_cons] at hj
        exact hj
      have k3 := o3.kb
      refine ⟨L, u :: us, j, j, (u :: us)[j], rfl, rfl, k3 _ _ Lp hL, by omega, by omega, seqIx_nat hj, List.getElem?_eq_getElem hj, ?_⟩
      generalize hq_ : L2.upd H3 L _ = H4
      obtain ⟨u4, o4⟩ := _root_.Q.updS hq_
      clear hq_
      refine ⟨F0, _, _, rfl, rfl, u4 _ _ FL (k3 _ _ Fp hF), by omega, ?_⟩
      generalize hq_ : L2.upd H4 F0 _ = H5
      obtain ⟨u5, o5⟩ := _root_.Q.updS hq_
      clear hq_
      refine ⟨((u :: us).eraseIdx j).length, ?_, _, zs ++ [(u :: us)[j]], rfl, rfl, fun b o nb e => ?_, ?_, u5 _ _ FL.symm o4, o5, ?_⟩
      · rw [List.length_eraseIdx_of_lt hj, List.length_cons]
        omega
      · have bL : b ≠ L := ne_of_none e nL
        exact u5 _ _ (ne_of_none e nF0) (u4 _ _ bL (k3 _ _ nb (kb _ _ nb e)))
      · obtain ⟨a1, a2, a3, a4, h1, h2⟩ := B3
        refine ⟨a1, a2, a3, a4, u5 _ _ Fp.symm (u4 _ _ Lp.symm h1), h2.1, ?_⟩
        rw [List.length_append]
        show a3 ≤ n + ((zs.length + 1 : Nat) : Int)
        omega
      · refine List.Perm.trans ?_ pm
        rw [List.append_assoc]
        refine List.Perm.append_left zs ?_
        exact erase_perm hj

end
end K07

set_option maxRecDepth 100000
set_option maxHeartbeats 4000000
namespace K07
open PySem PySem.Spec PyProof.Rows L2 Q RZ
section
variable {P : Program} {w : World} {K : PySem.W.Frag} {mg : Str → Option Value} {base : Heap} {f : Addr} {fd : FuncData}
/-- _law_widths: one to three widths -/
def spWidths : Sp := fun vs H Q _ => ∃ (p : Addr) (n x y z : Int), vs = [.ref p, .int x, .int y, .int z] ∧ PoolAt H p n ∧ n < 2 ^ 59 ∧ 1 ≤ x ∧ 1 ≤ y ∧ 1 ≤ z ∧ x < 2 ^ 100 ∧ y < 2 ^ 100 ∧ z < 2 ^ 100 ∧
  ∀ t (ws : List Int) H', Kb p H H' → PoolAt H' p (n + 4) → H' t = some (.tup (ws.map V.int)) → ((ws.length = 1 ∧ ∀ w ∈ ws, 1 ≤ w ∧ w ≤ x) ∨ (ws.length = 2 ∧ ∀ w ∈ ws, 1 ≤ w ∧ w ≤ y) ∨ (ws.length = 3 ∧ ∀ w ∈ ws, 1 ≤ w ∧ w ≤ z)) → Q (.ref t) H'
theorem PoolAt.off {H H' : Hp} {p : Addr} {n : Int} (h : PoolAt H p n) (np : ∀ b o, b = p → H b = some o → H' b = some o) : PoolAt H' p n := by
  obtain ⟨l, m, k, c, h1, h2⟩ := h
  exact ⟨l, m, k, c, np _ _ rfl h1, h2⟩
theorem C__law_widths (T : Tx K mg) : Cal P w K mg base CX0 2 "_law_widths" ["pool", "one", "two", "three"] [] spWidths := by
  obtain ⟨fd, F⟩ := T.d__law_widths
  have C__law_pull := C__law_pull (P := P) (w := w) (base := base) T
  refine ⟨_, fd, [], F.ok sc__law_widths (fun vs H Q E h => ?_) (fun cdv A outer s H vs Q E hr h => ?_), T.g__law_widths, F.kp, F.bindsN fun _ _ _ _ _ _ us hl => match us, hl with | [_, _, _, _], _ => rfl, .nil⟩
  · obtain ⟨p, n, x, y, z, rfl, _⟩ := h
    rfl
  · obtain ⟨p, n, x, y, z, rfl, B, hn, x1, y1, z1, x2, y2, z2, kQ⟩ := h
    refine ⟨_, PSs.nox (pss_cons (ps_set (i := 4) sc__law_widths.nd rfl (Or.inl rfl) (pe_op op_add pe_int (pe_cal C__law_pull (hr.mono (by decide)) pass0 (pa_cons (pv 0) (pa_cons pe_int pa_nil)))))
      (pss_cons (ps_if (pt_cmpR op_eq (pv 4) pe_int (nomark _))
        (pss_one (ps_ret (pe_tup (pa_cons (pe_op op_add pe_int (pe_cal C__law_pull (hr.mono (by decide)) pass0 (pa_cons (pv 0) (pa_cons (pv 1) pa_nil)))) pa_nil))))
        pss_nil)
      (pss_cons (ps_if (pt_cmpR op_eq (pv 4) pe_int (nomark _))
        (pss_one (ps_ret (pe_tup (pa_cons (pe_op op_add pe_int (pe_cal C__law_pull (hr.mono (by decide)) pass0 (pa_cons (pv 0) (pa_cons (pv 2) pa_nil)))) (pa_cons (pe_op op_add pe_int (pe_cal C__law_pull (hr.mono (by decide)) pass0 (pa_cons (pv 0) (pa_cons (pv 2) pa_nil)))) pa_nil)))))
        pss_nil)
      (pss_one (ps_ret (pe_tup (pa_cons (pe_op op_add pe_int (pe_cal C__law_pull (hr.mono (by decide)) pass0 (pa_cons (pv 0) (pa_cons (pv 3) pa_nil)))) (pa_cons (pe_op op_add pe_int (pe_cal C__law_pull (hr.mono (by decide)) pass0 (pa_cons (pv 0) (pa_cons (pv 3) pa_nil)))) (pa_cons (pe_op op_add pe_int (pe_cal C__law_pull (hr.mono (by decide)) pass0 (pa_cons (pv 0) (pa_cons (pv 3) pa_nil)))) pa_nil))))))))), ?_⟩
    have z3 : 3 ≤ sizeLine := by decide
    refine ⟨_, rfl, p, n, 3, rfl, B, by omega, by decide, fun r H1 r0 r3 o1 B1 => ⟨_, _, rfl, rfl, ?_⟩⟩
    refine ⟨_, rfl, rfl, _, rfl, ite2 (fun e => ?_) (fun e => ?_)⟩
    · refine ⟨_, rfl, _, rfl, p, _, x, rfl, B1, by omega, by omega, fun r2 H2 a0 a1 o2 B2 => ⟨_, _, rfl, rfl, (by show 1 ≤ sizeLine; omega), fun t nt => ?_⟩⟩
      generalize hq_ : L2.upd H2 t _ = H3
      obtain ⟨s3, e3⟩ := _root_.Q.nwS nt hq_
      clear hq_
      exact kQ t [1 + r2] H3 ((o1.kb.trans o2.kb).trans (Kb.of_same s3)) ((B2.same s3).mono (by omega)) e3 (.inl ⟨rfl, fun w m => by
        rw [List.mem_singleton.mp m]
        omega⟩)
    refine ⟨_, rfl, rfl, _, rfl, ite2 (fun e2 => ?_) (fun e2 => ?_)⟩
    · refine ⟨_, rfl, _, rfl, p, _, y, rfl, B1, by omega, by omega, fun r2 H2 a0 a1 o2 B2 => ⟨_, _, rfl, rfl, ?_⟩⟩
      refine ⟨_, rfl, _, rfl, p, _, y, rfl, B2, by omega, by omega, fun r3 H3 b0 b1 o3 B3 => ⟨_, _, rfl, rfl, (by show 2 ≤ sizeLine; omega), fun t nt => ?_⟩⟩
      generalize hq_ : L2.upd H3 t _ = H4
      obtain ⟨s4, e4⟩ := _root_.Q.nwS nt hq_
      clear hq_
      exact kQ t [1 + r2, 1 + r3] H4 (((o1.kb.trans o2.kb).trans o3.kb).trans (Kb.of_same s4)) ((B3.same s4).mono (by omega)) e4 (.inr (.inl ⟨rfl, fun w m => by
        rcases List.mem_cons.mp m with h | m
        · omega
        · rw [List.mem_singleton.mp m]
          omega⟩))
    · refine ⟨_, rfl, _, rfl, p, _, z, rfl, B1, by omega, by omega, fun r2 H2 a0 a1 o2 B2 => ⟨_, _, rfl, rfl, ?_⟩⟩
      refine ⟨_, rfl, _, rfl, p, _, z, rfl, B2, by omega, by omega, fun r3 H3 b0 b1 o3 B3 => ⟨_, _, rfl, rfl, ?_⟩⟩
      refine ⟨_, rfl, _, rfl, p, _, z, rfl, B3, by omega, by omega, fun r4 H4 c0 c1 o4 B4 => ⟨_, _, rfl, rfl, (by show 3 ≤ sizeLine; omega), fun t nt => ?_⟩⟩
      generalize hq_ : L2.upd H4 t _ = H5
      obtain ⟨s5, e5⟩ := _root_.Q.nwS nt hq_
      clear hq_
      exact kQ t [1 + r2, 1 + r3, 1 + r4] H5 ((((o1.kb.trans o2.kb).trans o3.kb).trans o4.kb).trans (Kb.of_same s5)) ((B4.same s5).mono (by omega)) e5 (.inr (.inr ⟨rfl, fun w m => by
        rcases List.mem_cons.mp m with h | m
        · omega
        · rcases List.mem_cons.mp m with h | m
          · omega
          · rw [List.mem_singleton.mp m]
            omega⟩))
/-- _law_section: some of the numbers below wide, ascending -/
def spSection : Sp := fun vs H Q _ => ∃ (p : Addr) (n : Int) (wd : Nat), vs = [.ref p, .int wd] ∧ PoolAt H p n ∧ n < 2 ^ 59 ∧ wd ≤ 1000 ∧ ∀ q (ks : List Nat) H', H q = none → Kb p H H' → PoolAt H' p (n + wd) → H' q = some (.lst (ks.map fun (k : Nat) => V.int k)) → ks.Pairwise (· < ·) → (∀ k ∈ ks, k < wd) → Q (.ref q) H'
theorem C__law_section (T : Tx K mg) : Cal P w K mg base CX0 2 "_law_section" ["pool", "wide"] [] spSection := by
  obtain ⟨fd, F⟩ := T.d__law_section
  have C__law_pull := C__law_pull (P := P) (w := w) (base := base) T
  refine ⟨_, fd, [], F.ok sc__law_section (fun vs H Q E h => ?_) (fun cdv A outer s H vs Q E hr h => ?_), T.g__law_section, F.kp, F.bindsN fun _ _ _ _ _ _ us hl => match us, hl with | [_, _], _ => rfl, .nil⟩
  · obtain ⟨p, n, wd, rfl, _⟩ := h
    rfl
  · obtain ⟨p, n, wd, rfl, B, hn, h1000, kQ⟩ := h
    refine ⟨_, PSs.nox (pss_cons (ps_set (i := 3) sc__law_section.nd rfl (Or.inr rfl) (pe_lc (own := [("value", 2)]) (g := gName 2) (tt := tYes) (by rfl) sc__law_section.nd (pi_range1 (by rfl) T.n_range (pa_cons (pv 1) pa_nil)) (blkOk_by (N := ["pool", "wide", "value", "taken"]) (sc := defScope s__law_section) (by decide +kernel)) (fun _ _ _ _ _ => (pg_name (i := 2) sc__law_section.nd rfl (Or.inl rfl))) (fun _ _ _ _ _ => pts_nil) (fun _ _ _ _ _ => (pe_cal C__law_pull (hr.mono (by decide)) pass0 (pa_cons (pv 0) (pa_cons pe_int pa_nil))))))
      (pss_one (ps_ret (pe_lc (own := [("value", 2)]) (g := gName 2) (tt := _) (by rfl) sc__law_section.nd (pi_range1 (by rfl) T.n_range (pa_cons (pv 1) pa_nil)) (blkOk_by (N := ["pool", "wide", "value", "taken"]) (sc := defScope s__law_section) (by decide +kernel)) (fun _ _ _ _ _ => (pg_name (i := 2) sc__law_section.nd rfl (Or.inl rfl))) (fun _ _ _ _ _ => (pts_one (pt_cmpR op_eq (pe_ix ix_listB (pv 3) (pv 2) (fun _ _ => rfl)) pe_int (nomark _)))) (fun _ _ _ _ _ => (pv 2)))))), ?_⟩
    refine ⟨_, rfl, wd, rfl, by omega, by omega, fun D nD => ?_⟩
    rw [Int.toNat_natCast]
    have Dp : D ≠ p := B.new nD
    refine lc_range (lo := 0) (n := wd) (fun i H' => PoolAt H' p (n + (i : Int)) ∧ Kb p H H' ∧ ∃ bs : List Int, H' D = some (.lst (bs.map V.int)) ∧ bs.length = i) ⟨(B.upd Dp).mono (by omega), kb_new nD, [], upd_same, rfl⟩ ?_ ?_
    · rintro i H3 hi ⟨B3, k3, bs, hD, hl⟩
      refine ⟨rfl, _, rfl, p, _, 2, rfl, B3, by omega, by decide, fun r H4 r0 r2 o4 B4 => ?_⟩
      have k4 := o4.kb
      exact ⟨_, k4 _ _ Dp hD, small1000 (by ((try simp only [List.length_map, List.length_take, List.length_drop, List.length_append, List.length_cons, List.length_nil, List.length_zipWith, List.length_set, List.length_replicate, List.length_range]) <;> omega)), (B4.upd Dp).mono (by omega), fun x o nb e => by rw [upd_ne (ne_of_none e nD)]; exact (k3.trans k4) x o nb e, bs ++ [r], by rw [upd_same, List.map_append]; rfl, by ((try simp only [List.length_map, List.length_take, List.length_drop, List.length_append, List.length_cons, List.length_nil, List.length_zipWith, List.length_set, List.length_replicate, List.length_range]) <;> omega)⟩
    rintro H3 ⟨B3, k3, bs, hD, hl⟩
    refine ⟨_, rfl, wd, rfl, by omega, by omega, fun E nE => ?_⟩
    rw [Int.toNat_natCast]
    refine lc_rng (f := fun k => k) (p := fun k => decide (bs.getD k 0 = 0)) (R := fun _ v (k : Nat) => v = .int k) (fun _ _ _ _ _ z => z) nE (small1000 (by omega)) (fun k H8 R' N hk s8 k1 k2 => ?_) fun H4 es s4 hE pE => ?_
    · rw [Int.zero_add]
      have hk2 : k < bs.length := by omega
      have eg : bs.getD k 0 = bs[k] := by rw [List.getD_eq_getElem?_getD, List.getElem?_eq_getElem hk2]; rfl
      rw [eg] at k1 k2
      refine ⟨rfl, _, rfl, _, rfl, D, _, _, _, rfl, rfl, SqL.of (s8 _ _ hD), atI_nat (j := k) (by rw [List.getElem?_map, List.getElem?_eq_getElem hk2]; rfl), rfl, _, rfl, ite2 (fun q => ?_) (fun q => ?_)⟩
      · have q := of_decide_eq_true q
        exact ⟨_, rfl, k1 (decide_eq_true (V.int.inj q)) _ _ (Same.refl _) rfl⟩
      · refine k2 (decide_eq_false fun z => q ?_) _ (Same.refl _)
        rw [z]
        exact decide_eq_true rfl
    have ev : ∀ {as : List V} {ks : List Nat}, Paired (fun v (k : Nat) => v = .int k) as ks → as = ks.map fun (k : Nat) => V.int k := fun h => by
      induction h with
      | nil => rfl
      | cons a _ ih => rw [a, ih]; rfl
    rw [List.map_id'] at pE
    rw [ev pE] at hE
    have nE0 : H E = none := by
      cases z : H E with
      | none => rfl
      | some o =>
        by_cases zz : E = p
        · obtain ⟨_, _, _, _, h1, _⟩ := B3
          rw [zz, h1] at nE
          cases nE
        · rw [k3 _ _ zz z] at nE
          cases nE
    exact kQ E _ H4 nE0 (k3.trans (Kb.of_same s4)) (B3.same s4) hE (List.pairwise_lt_range.filter _) fun k m => List.mem_range.mp (List.mem_filter.mp m).1

end
end K07

set_option maxRecDepth 100000
set_option maxHeartbeats 4000000
namespace K07
open PySem PySem.Spec PyProof.Rows L2 Q RZ
/-! ### Box(lows, highs): what is wrong first, or the box -/
def colFault (l h : V) : Option Str := match l with
  | .int i => if wholeV (.int i) 0 63 = true then (if wholeV h (i + 1) 64 = true then none else some ("high" : Str)) else some ("low" : Str)
  | _ => some ("low" : Str)
def faultFrom : Nat → List V → List V → Option (Str × Int)
  | n, l :: ls, h :: hs => match colFault l h with
    | some w => some (w, (n : Int))
    | none => faultFrom (n + 1) ls hs
  | _, _, _ => none
def boxFault : Option (List V) → Option (List V) → Option (Str × Int)
  | some ls, hs => if 5 < ls.length then some (("lows" : Str), 0) else match hs with
    | some hs => if hs.length = ls.length then faultFrom 0 ls hs else some (("highs" : Str), 0)
    | none => some (("highs" : Str), 0)
  | none, _ => some (("lows" : Str), 0)
theorem fault_step {n : Nat} {ls hs : List V} {l h : V} (e1 : ls[n]? = some l) (e2 : hs[n]? = some h) : faultFrom n (ls.drop n) (hs.drop n) = match colFault l h with
    | some w => some (w, (n : Int))
    | none => faultFrom (n + 1) (ls.drop (n + 1)) (hs.drop (n + 1)) := by
  obtain ⟨h1, rfl⟩ := List.getElem?_eq_some_iff.mp e1
  obtain ⟨h2, rfl⟩ := List.getElem?_eq_some_iff.mp e2
  rw [List.drop_eq_getElem_cons h1, List.drop_eq_getElem_cons h2]
  rfl
/-- a box's ranges: in bounds, none empty -/
def Rgs : List Int → List Int → Prop
  | l :: ls, h :: hs => 0 ≤ l ∧ l < h ∧ h ≤ 64 ∧ Rgs ls hs
  | [], [] => True
  | _, _ => False
theorem col_none {l h : V} (e : colFault l h = none) : ∃ i j, l = .int i ∧ h = .int j ∧ 0 ≤ i ∧ i < j ∧ j ≤ 64 := by
  unfold colFault at e
  split at e
  · rename_i i
    by_cases c : wholeV (.int i) 0 63 = true
    · rw [if_pos c] at e
      by_cases c2 : wholeV h (i + 1) 64 = true
      · cases h with
        | int j =>
          have z1 : (decide (0 ≤ i) && decide (i ≤ 63)) = true := c
          have z2 : (decide (i + 1 ≤ j) && decide (j ≤ 64)) = true := c2
          rw [Bool.and_eq_true, decide_eq_true_eq, decide_eq_true_eq] at z1 z2
          exact ⟨i, j, rfl, rfl, by omega, by omega, by omega⟩
        | _ => cases c2
      · rw [if_neg c2] at e
        cases e
    · rw [if_neg c] at e
      cases e
  · cases e
theorem fault_none : ∀ {n : Nat} {ls hs : List V}, ls.length = hs.length → faultFrom n ls hs = none → ∃ lz hz : List Int, ls = lz.map V.int ∧ hs = hz.map V.int ∧ Rgs lz hz
  | _, [], [], _, _ => ⟨[], [], rfl, rfl, trivial⟩
  | _, [], _ :: _, e, _ => by cases e
  | _, _ :: _, [], e, _ => by cases e
  | n, l :: ls, h :: hs, e, z => by
    have z' : (match colFault l h with
      | some w => some (w, (n : Int))
      | none => faultFrom (n + 1) ls hs) = none := z
    cases q : colFault l h with
    | some w =>
      rw [q] at z'
      cases z'
    | none =>
      rw [q] at z'
      obtain ⟨i, j, rfl, rfl, h1, h2, h3⟩ := col_none q
      obtain ⟨lz, hz, rfl, rfl, r⟩ := fault_none (n := n + 1) (by simpa using e) z'
      exact ⟨i :: lz, j :: hz, rfl, rfl, h1, h2, h3, r⟩
theorem Rgs.len : ∀ {ls hs : List Int}, Rgs ls hs → ls.length = hs.length
  | [], [], _ => rfl
  | [], _ :: _, h => h.elim
  | _ :: _, [], h => h.elim
  | l :: ls, h :: hs, r => by
    have e := Rgs.len (ls := ls) (hs := hs) r.2.2.2
    rw [List.length_cons, List.length_cons, e]
theorem Rgs.at : ∀ {ls hs : List Int} {i : Nat} {l h : Int}, Rgs ls hs → ls[i]? = some l → hs[i]? = some h → 0 ≤ l ∧ l < h ∧ h ≤ 64
  | [], _, _, _, _, _, e, _ => by simp at e
  | _ :: _, [], _, _, _, _, _, e => by simp at e
  | x :: ls, y :: hs, 0, l, h, r, e1, e2 => by
    have d1 : x = l := Option.some.inj e1
    have d2 : y = h := Option.some.inj e2
    rw [← d1, ← d2]
    exact ⟨r.1, r.2.1, r.2.2.1⟩
  | x :: ls, y :: hs, i + 1, l, h, r, e1, e2 => Rgs.at (ls := ls) (hs := hs) (i := i) r.2.2.2 (by simpa using e1) (by simpa using e2)
/-- the number of points of the first n columns -/
def boxSize (ls hs : List Int) : Nat → Int
  | 0 => 1
  | n + 1 => boxSize ls hs n * (hs.getD n 0 - ls.getD n 0)
theorem size_le {ls hs : List Int} (r : Rgs ls hs) : ∀ n : Nat, n ≤ ls.length → 0 ≤ boxSize ls hs n ∧ boxSize ls hs n ≤ 64 ^ n
  | 0, _ => ⟨(by show (0 : Int) ≤ 1; decide), (by show (1 : Int) ≤ 64 ^ 0; decide)⟩
  | n + 1, hn => by
    obtain ⟨h1, h2⟩ := size_le r n (by omega)
    have l1 : n < ls.length := by omega
    have l2 : n < hs.length := by rw [← r.len]; exact l1
    obtain ⟨b1, b2, b3⟩ := r.at (List.getElem?_eq_getElem l1) (List.getElem?_eq_getElem l2)
    have e1 : ls.getD n 0 = ls[n] := by rw [List.getD_eq_getElem?_getD, List.getElem?_eq_getElem l1]; rfl
    have e2 : hs.getD n 0 = hs[n] := by rw [List.getD_eq_getElem?_getD, List.getElem?_eq_getElem l2]; rfl
    have e : boxSize ls hs (n + 1) = boxSize ls hs n * (hs[n] - ls[n]) := by rw [← e1, ← e2]; rfl
    rw [e]
    refine ⟨Int.mul_nonneg h1 (by omega), ?_⟩
    rw [Int.pow_succ]
    exact Int.mul_le_mul h2 (by omega) (by omega) (Int.pow_nonneg (by decide))
/-- a box at y -/
def BoxAt (K : PySem.W.Frag) (H : Hp) (y : Addr) (lz hz : List Int) : Prop := ∃ (dy tl th tt : Addr) (fs : List (Str × V)), H y = some (.ins (He.ga K "Box") dy fs) ∧ (fs.length ≤ 20 ∧ fs.lookup ("holds" : Str) = none) ∧ fs.lookup ("lows" : Str) = some (.ref tl) ∧ fs.lookup ("highs" : Str) = some (.ref th) ∧
  fs.lookup ("told" : Str) = some (.ref tt) ∧ fs.lookup ("size" : Str) = some (.int (boxSize lz hz lz.length)) ∧ SqT K H tl (lz.map V.int) ∧ SqT K H th (hz.map V.int) ∧ SqT K H tt [.ref tl, .ref th]
/-- every item of a list or a tuple is of a known kind -/
def Its (H : Hp) (v : V) : Prop := ∀ xs, seqOf H v = some xs → ∀ x ∈ xs, ∃ T, Kn H x T
theorem Its.same {H H' : Hp} {v : V} {T : String} (h : Its H v) (kn : Kn H v T) (e : Same H H') : Its H' v := fun xs hx x m => by
  rcases kn.seqSome with ⟨-, a, ys, rfl, hs, -⟩ | ⟨hT, hs⟩
  · rw [seqOf_same hs e] at hx
    cases hx
    obtain ⟨T, k⟩ := h _ hs x m
    exact ⟨T, k.same e⟩
  · rcases (kn.same e).seqSome with ⟨hT2, -⟩ | ⟨-, hs2⟩
    · rw [hT] at hT2
      cases hT2
    · rw [hs2] at hx
      cases hx
/-- Box.__init__ -/
def spBoxInit (K : PySem.W.Frag) : Sp := fun vs H Q E => ∃ (y dy : Addr) (v1 v2 : V) (T1 T2 : String), vs = [.ref y, v1, v2] ∧ H y = some (.ins (He.ga K "Box") dy []) ∧ Kn H v1 T1 ∧ Kn H v2 T2 ∧ Its H v1 ∧ Its H v2 ∧
  (∀ w at_ H' d, boxFault (seqOf H v1) (seqOf H v2) = some (w, at_) → Same H H' → H d = none → H' d = some (.xd [("at", .int at_), ("what", .str w)]) → E (.ref (He.ga K "BadBox")) (some d) H') ∧
  ∀ lz hz H', boxFault (seqOf H v1) (seqOf H v2) = none → seqOf H v1 = some (lz.map V.int) → seqOf H v2 = some (hz.map V.int) → Rgs lz hz → lz.length ≤ 5 → (∀ a o, a ≠ y → H a = some o → H' a = some o) → BoxAt K H' y lz hz → Q .non H'

end K07

set_option maxRecDepth 100000
set_option maxHeartbeats 4000000
/-! What a generator's body wants beside. -/
namespace Q
open PySem PySem.Spec PyProof.Rows L2 GenW
open PySem.W.X (SegX wake_any)
def rGetL (K : PySem.W.Frag) : V → V → Hp → VK → Prop := fun x y H Q => ∃ p xs i v, x = .ref p ∧ y = .int i ∧ SqL K H p xs ∧ 0 ≤ i ∧ xs[i.toNat]? = some v ∧ Q v H
theorem get_list {X : Cx} : PGet X (rGetL X.K) := by
  intro pins s σ H x y v u Q I rx ry h
  obtain ⟨p, xs, i, z, rfl, rfl, hq, h0, he, q⟩ := h
  cases rx
  obtain ⟨t, rfl⟩ := ry
  obtain ⟨its, r, pl, hz⟩ := I.list hq
  obtain ⟨w, ew, rw'⟩ := r.get he
  have hl := r.length
  have hn := line63
  have lt := (List.getElem?_eq_some_iff.mp he).1
  exact wpAny_getItem_list (Q := EP X pins σ Q) pl.isList h0 (by omega) (by simpa using ew) ⟨z, H, I, rw', q⟩
/-- the names of this code alone change -/
theorem loc_of_inv {P : Program} {w : World} {K : PySem.W.Frag} {mg : Str → Option Value} {base : Heap} {N : List Str} {qual : Str} {scope : Scope} {f : Addr} {cd : Value} {A : Around} {outer : List Env} {n : Nat} {s s' : Shared} {H H' : Hp} {σ : L2.St} {ps : List (Addr × Obj)} (nc : NoCells scope)
    (I : Inv (gx P w K mg base N qual scope f cd A outer n s H) ps σ H' s') : ∃ oL, s'.heap.get? n = some oL ∧ (∀ v, oL.data ≠ .cell v) ∧ ∀ h : Heap, h.get? n = some oL → LocAt N scope n σ h := by
  obtain ⟨m, ⟨o, es, ep, e, d, r⟩, h2⟩ := I.loc
  refine ⟨o, e, (fun v z => by rw [z] at d; cases d), fun h e' => ⟨m, ⟨o, es, ep, e', d, r⟩, fun i y v e1 e2 e3 => ?_⟩⟩
  obtain ⟨u, ru, q⟩ := h2 i y v e1 e2 e3
  refine ⟨u, ru, ?_⟩
  rcases q with q | ⟨q, _⟩
  · exact q
  · exact absurd q fun z => z.elim (fun y => (nc.none _).1 y) fun y => (nc.none _).2 y
theorem noCells_of {sc : Scope} (h1 : sc.kind = .function) (h2 : (sc.names.all fun y => y.2 != .cell && y.2 != .free) = true) : NoCells sc :=
  ⟨h1, fun x => by
    have all := List.all_eq_true.mp h2
    refine ⟨fun z => ?_, fun z => ?_⟩
    · have := all _ (PySem.mem_of_lookup z)
      simp at this
    · have := all _ (PySem.mem_of_lookup z)
      simp at this⟩
theorem noCells_cells {sc : Scope} (h2 : (sc.names.all fun y => y.2 != .cell && y.2 != .free) = true) (m : Nat) : cellsFrom m sc.names [] = [] :=
  cellsFrom_nil _ _ fun y hy z => by
    have := List.all_eq_true.mp h2 _ hy
    rw [z] at this
    simp at this
/-- a new list of the generator: where nothing stood -/
theorem gx_new {P : Program} {w : World} {K : PySem.W.Frag} {mg : Str → Option Value} {base : Heap} {N : List Str} {qual : Str} {scope : Scope} {f : Addr} {cd : Value} {A : Around} {outer : List Env} {n : Nat} {s s' : Shared} {Hc H' : Hp} {fr : List Addr} {pv : Addr → Option (List V)} {σ : L2.St} {ps : List (Addr × Obj)} {p : Addr} {xs : List V}
    (I : Inv (gx P w K mg base N qual scope f cd A outer n s (gH Hc n s.heap fr pv)) ps σ H' s') (ok : HOk P w Hc s.heap) (hpf : p ∉ fr) (hp : gH Hc n s.heap fr pv p = none) (e : H' p = some (.lst xs)) : s.heap.get? p = none := by
  cases q : s.heap.get? p with
  | none => rfl
  | some o =>
    exfalso
    by_cases l : p < n
    · have := I.base.free p o (cut_of l q) hp (fun z => nomatch z)
      rw [e] at this
      cases this
    · have hpv : pv p = none := by
        cases z : pv p with
        | none => rfl
        | some xs => rw [gH_pv hpf z] at hp; cases hp
      have hc : Hc p = none := by
        cases z : Hc p with
        | none => rfl
        | some u => rw [gH_old hpf hpv z] at hp; cases hp
      rw [gH_lock hpf hpv hc (Nat.le_of_not_lt l) q] at hp
      cases hp
theorem ixN_n {n j : Nat} (hj : j < n) : ixN n (j : Int) = some j := by
  unfold ixN
  rw [if_pos (by omega), if_pos (by omega)]
  rfl
/-- a while statement's parts -/
def whT : Stmt → Expr
  | .While t _ _ _ => t
  | _ => .Name "" ⟨0, 0, 0, 0⟩
def whB : Stmt → List Stmt
  | .While _ b _ _ => b
  | _ => []
end Q

set_option maxRecDepth 100000
set_option maxHeartbeats 4000000
namespace K07
open PySem PySem.Spec PyProof.Rows L2 Q RZ
open PySem.W.X (SegX)
/-- a point, handed out -/
def ptItem (K : PySem.W.Frag) (p : List Int) : Item := fun v H => ∃ t, v = .ref t ∧ H t = some (.tup (p.map V.int))
def spPoints (K : PySem.W.Frag) : SpX := fun vs L D => ∃ (y : Addr) (lz hz : List Int), vs = [.ref y] ∧ Q.Within lz hz lz ∧ lz.length ≤ 1000 ∧ D = (fun H => BoxAt K H y lz hz) ∧ L = (spots lz hz).map (ptItem K)
theorem BoxAt.same {K : PySem.W.Frag} {H H' : Hp} {y : Addr} {lz hz : List Int} (h : BoxAt K H y lz hz) (s : L2.Same H H') : BoxAt K H' y lz hz := by
  obtain ⟨dy, tl, th, tt, fs, h1, h2, h3, h4, h5, h6, h7, h8, h9⟩ := h
  exact ⟨dy, tl, th, tt, fs, s _ _ h1, h2, h3, h4, h5, h6, sqT_same s h7, sqT_same s h8, sqT_same s h9⟩
abbrev ptW : Stmt := (defBody s_points_of).getD 2 (.Pass ⟨0, 0, 0, 0⟩)
theorem nc_points_of : NoCells (defScope s_points_of) := noCells_of rfl (by decide +kernel)
section
variable {P : Program} {w : World} {K : PySem.W.Frag} {mg : Str → Option Value} {base : Heap} {f : Addr} {cdv : Value} {A : Around} {outer : List Env} {n g k : Nat} {s : Shared} {Hc : Hp} {y q : Addr} {lz hz pt : List Int} {pq : Addr → Option (List V)}
abbrev ptX (P : Program) (w : World) (K : PySem.W.Frag) (mg : Str → Option Value) (base : Heap) (f : Addr) (cdv : Value) (A : Around) (outer : List Env) (n : Nat) (s : Shared) (H : Hp) : Cx :=
  gx P w K mg base ["box", "point", "going", "column"] "points_of" (defScope s_points_of) f cdv A outer n s H
/-- how the loop's body ends -/
def PtEnd (H : Hp) (y q : Addr) (lz hz pt : List Int) (σ' : L2.St) (H' : Hp) : Prop := Off q H H' ∧ (∀ q', succ lz hz pt = some q' → H' q = some (.lst (q'.map V.int)) ∧ ∃ c1, σ' = [some (.ref y), some (.ref q), some (.bl true), c1]) ∧
  (succ lz hz pt = none → (∃ xs, H' q = some (.lst xs)) ∧ ∃ c1, σ' = [some (.ref y), some (.ref q), some (.bl false), c1])
/-- behind the yield: the next point, or the end -/
theorem points_rest (T : Tx K mg) {H : Hp} (hr : Room k (ptX P w K mg base f cdv A outer n s H).A) (bx : ∀ H', Off q H H' → BoxAt K H' y lz hz) (wi : Q.Within lz hz pt) (l5 : lz.length ≤ 1000) (hq : H q = some (.lst (pt.map V.int))) (c0 : Option V) :
    ∃ t, PSs (ptX P w K mg base f cdv A outer n s H) (whB ptW).tail t ∧ t { nx := PtEnd H y q lz hz pt, rt := fun _ _ => False } [some (.ref y), some (.ref q), some (.bl true), c0] H := by
  refine ⟨_, (pss_cons (ps_set (i := 3) sc_points_of.nd rfl (Or.inl rfl) (pe_op op_sub (pe_callB call_len_seq (by rfl) T.n_len (by decide +kernel) (pa_cons (pv 1) pa_nil)) pe_int))
      (pss_cons (ps_while PassesOwn.never (PW.pt (pw_and (pt_cmpR op_ge (pv 3) pe_int (nomark _)) (pw_and1 (pt_cmpR op_eq (pe_op op_add (pe_ix ix_list (pv 1) (pv 3) (fun _ _ => rfl)) pe_int) (pe_ix ix_tup (pe_fld (pv 0) rfl) (pv 3) (fun _ _ => rfl)) (nomark _)))))
        (pss_cons (ps_asg (pe_ix ix_tup (pe_fld (pv 0) rfl) (pv 3) (fun _ _ => rfl)) (pg_sub (pv 1) (pv 3) set_list))
        (pss_one (ps_aug (i := 3) sc_points_of.nd rfl (Or.inl rfl) pe_int ip_sub))))
      (pss_one (ps_if (pt_cmpR op_ge (pv 3) pe_int (nomark _))
        (pss_one (ps_augS (pv 1) (pv 3) get_list pe_int ip_add set_list))
        (pss_one (ps_set (i := 2) sc_points_of.nd rfl (Or.inl rfl) pe_bl)))))), ?_⟩
  have hll := wi.length
  have hz1 := line63
  have ml : (pt.map V.int).length = lz.length := by rw [List.length_map, hll.2]
  refine ⟨_, rfl, _, _, rfl, .inl (SqL.of hq), _, _, rfl, rfl, ?_⟩
  rw [ml]
  refine ⟨fun m σ H' => m ≤ lz.length ∧ σ = [some (.ref y), some (.ref q), some (.bl true), some (.int ((m : Int) - 1))] ∧ Off q H H' ∧ H' q = some (.lst ((turned lz pt m).map V.int)) ∧ succ (lz.drop m) (hz.drop m) (pt.drop m) = none, ⟨lz.length, Nat.le_refl _, rfl, Off.refl _ _, ?_, ?_⟩, ?_⟩
  · rw [turned_all hll.2]; exact hq
  · rw [List.drop_length]; rfl
  rintro m σ H' ⟨hm, rfl, of, hq', sn⟩
  have b0 := bx H' of
  obtain ⟨dy, tl, th, tt, fs, g1, g2, g3, g4, g5, g6, g7, g8, g9⟩ := id b0
  have tlen : ((turned lz pt m).map V.int).length = lz.length := by rw [List.length_map, turned_length hll.2]
  refine ⟨_, rfl, _, _, rfl, rfl, _, rfl, ite2 (fun c => ?_) (fun c => ?_)⟩
  · -- a column is there
    obtain ⟨j, rfl⟩ : ∃ j, m = j + 1 := ⟨m - 1, by have := of_decide_eq_true c; omega⟩
    have ej : ((j + 1 : Nat) : Int) - 1 = ((j : Nat) : Int) := by omega
    have hj : j < lz.length := hm
    have v1 : ((turned lz pt (j + 1)).map V.int)[j]? = some (.int (pt.getD j 0)) := by rw [List.getElem?_map, turned_at hll.2 hj]; rfl
    have v2 : (hz.map V.int)[j]? = some (.int (hz.getD j 0)) := by
      have l1 : j < hz.length := by omega
      rw [List.getElem?_map, List.getElem?_eq_getElem l1, List.getD_eq_getElem?_getD, List.getElem?_eq_getElem l1]; rfl
    have v3 : (lz.map V.int)[j]? = some (.int (lz.getD j 0)) := by
      rw [List.getElem?_map, List.getElem?_eq_getElem hj, List.getD_eq_getElem?_getD, List.getElem?_eq_getElem hj]; rfl
    have st := succ_step hll.1 hll.2 hj
    rw [sn] at st
    have wg := within_get wi hj
    rw [ej]
    refine ⟨_, rfl, _, rfl, q, _, _, _, rfl, rfl, SqL.of hq', atI_nat v1, _, _, rfl, rfl, _, rfl, y, _, dy, _, _, rfl, g1, T.cls_Box, T.noat_Box_highs, g4, _, rfl, th, _, _, _, rfl, rfl, g8, atI_nat v2, rfl, _, rfl, ite2 (fun c2 => ?_) (fun c2 => ?_)⟩
    · -- it is at its end: set back
      have c2' : pt.getD j 0 + 1 = hz.getD j 0 := by
        have := of_decide_eq_true c2
        injection this
      have st : succ (lz.drop j) (hz.drop j) (pt.drop j) = none := by
        rw [st]
        show (if pt.getD j 0 + 1 < hz.getD j 0 then _ else none) = none
        rw [if_neg (by omega)]
      refine ⟨fun σ2 H2 => ∃ m', m' < j + 1 ∧ m' ≤ lz.length ∧ σ2 = [some (.ref y), some (.ref q), some (.bl true), some (.int ((m' : Int) - 1))] ∧ Off q H H2 ∧ H2 q = some (.lst ((turned lz pt m').map V.int)) ∧ succ (lz.drop m') (hz.drop m') (pt.drop m') = none, fun σ2 H2 h => h, ?_⟩
      refine ⟨_, rfl, y, _, dy, _, _, rfl, g1, T.cls_Box, T.noat_Box_lows, g3, _, rfl, tl, _, _, _, rfl, rfl, g7, atI_nat v3, _, rfl, _, rfl, q, _, _, j, rfl, rfl, hq', ixN_n (by rw [tlen]; exact hj), ?_⟩
      refine ⟨_, rfl, _, _, rfl, rfl, j, Nat.lt_succ_self _, Nat.le_of_lt hj, rfl, of.trans Off.upd, ?_, st⟩
      rw [upd_same, ← turned_back hll.2 hj, List.map_set]
    · -- it is raised
      have c2' : pt.getD j 0 + 1 < hz.getD j 0 := by
        have : ¬ (pt.getD j 0 + 1 = hz.getD j 0) := fun z => c2 (decide_eq_true (congrArg V.int z))
        omega
      have st : succ (lz.drop j) (hz.drop j) (pt.drop j) = some ((pt.getD j 0 + 1) :: lz.drop (j + 1)) := by
        rw [st]
        show (if pt.getD j 0 + 1 < hz.getD j 0 then _ else none) = _
        rw [if_pos c2']
      have nx := succ_up hll.1 hll.2 (Nat.le_of_lt hj) st
      refine ⟨_, rfl, _, _, rfl, rfl, _, rfl, ite2 (fun _ => ?_) (fun z => absurd (decide_eq_true (by omega)) z)⟩
      refine ⟨_, rfl, _, rfl, q, _, _, _, rfl, rfl, SqL.of hq', by omega, v1, _, _, rfl, rfl, q, _, _, j, rfl, rfl, hq', ixN_n (by rw [tlen]; exact hj), ?_⟩
      refine ⟨of.trans Off.upd, fun q' e => ⟨?_, _, rfl⟩, fun e => ?_⟩
      · rw [nx] at e
        cases e
        rw [upd_same, ← turned_set hll.2 hj, List.map_set]
      · rw [nx] at e
        cases e
  · -- no column is left
    obtain rfl : m = 0 := by
      have : ¬ ((0 : Int) ≤ (m : Int) - 1) := fun z => c (decide_eq_true z)
      omega
    have sn : succ lz hz pt = none := sn
    refine ⟨_, rfl, _, _, rfl, rfl, _, rfl, ite2 (fun z => absurd z c) (fun _ => ?_)⟩
    refine ⟨of, fun q' e => ?_, fun _ => ⟨⟨_, hq'⟩, _, rfl⟩⟩
    rw [sn] at e
    cases e
theorem tupOfN {K : PySem.W.Frag} {H : Hp} {p : Addr} {ys : List V} {R : VK} (h : SqL K H p ys) (q : ∀ l, H l = none → R (.ref l) (L2.upd H l (.tup ys))) : rTupOf K [.ref p] H R := by
  unfold rTupOf
  exact ⟨p, ys, rfl, .inl ⟨h, q⟩⟩
theorem sqT_live {H H' : Hp} {t : Addr} {xs : List V} (l : ∀ c u, H c = some u → (∀ xs, u ≠ .lst xs) → (∀ o φ, u ≠ .frz o (.ext φ)) → H' c = some u) (h : SqT K H t xs) : SqT K H' t xs := by
  rcases h with (h | ⟨o, h⟩) | h
  · exact .inl (.inl (l _ _ h (fun _ z => nomatch z) fun _ _ z => nomatch z))
  · exact .inl (.inr ⟨o, l _ _ h (fun _ z => nomatch z) fun _ _ z => nomatch z⟩)
  · exact .inr h
theorem mem_fst {pn : List (Addr × Obj)} {b : Addr} (h : b ∈ pn.map (·.1)) : ∃ o, (b, o) ∈ pn := by
  obtain ⟨p, hp, rfl⟩ := List.mem_map.mp h
  exact ⟨p.2, hp⟩
abbrev ptE (f : Addr) (cdv : Value) (n : Nat) : Env := envOfC "points_of" (defScope s_points_of) n f cdv
abbrev ptC (f : Addr) (cdv : Value) (n : Nat) : Code := .whileLoop (whT ptW) (whB ptW) [] (ptE f cdv n)
theorem points_head (T : Tx K mg) {kf : Result → Sem PySem.Fin} {l0 kp : List Value} {c : Code} {p0 : Pos} (hkf : kf (.ok .next) = leafOf (.ok (.ret .none))) (hov : A.over (ptC f cdv n) [.ret kf none false l0 c p0 kp] = A.deeper (ptE f cdv n))
    (hb : base.objs.size ≤ n) (hfs : ∀ b ∈ frs outer, b < n) (hr : Room k (A.deeper (ptE f cdv n))) (l5 : lz.length ≤ 1000) : ∀ (m : Nat) (pt : List Int) (wi : Q.Within lz hz pt), (after lz hz pt).length = m →
    ∀ (pn : List (Addr × Obj)) (s : Shared) (Hc : Hp) (pq : Addr → Option (List V)) (s' : Shared) (H' : Hp) (c0 : Option V) (q : Addr), Q.Good P w K mg base A outer n (fun H => BoxAt K H y lz hz) pn s Hc → (∀ b xs, pq b = some xs → b ∈ pn.map (·.1)) → n ∈ pn.map (·.1) →
      (∀ b ∈ pn.map (·.1), b = n ∨ b = q) → (q ∈ pn.map (·.1) ∨ s.heap.get? q = none) → Inv (ptX P w K mg base f cdv A outer n s (gH Hc n s.heap [n] pq)) [] [some (.ref y), some (.ref q), some (.bl true), c0] H' s' → L2.Same Hc H' → H' q = some (.lst (pt.map V.int)) →
      SegX (model P w) A (ptC f cdv n) ((model P w).den (ptC f cdv n)) [.ret kf none false l0 c p0 kp] s' fun e s1 => ∃ v l k c' p fs' x Hc1 pn', e = .susp v false l k c' p fs' ∧ RelV x v ∧ ptItem K pt x Hc1 ∧ Left P w outer n pn pn' s Hc s1 Hc1 ∧
        Going P w K mg base A outer n (fun H => BoxAt K H y lz hz) ((after lz hz pt).map (ptItem K)) pn' c' (k (.send .none)) fs' := by
  intro m
  induction m using Nat.strongRecOn with
  | ind m ih =>
  intro pt wi hm pn s Hc pq s' H' c0 q G hpv hn hpq hq0 I sm hq
  have leave : ∀ {σ : L2.St} {H1 : Hp} {s1 : Shared} {pn : List (Addr × Obj)} {s : Shared} {Hc : Hp} {pq : Addr → Option (List V)} (pn' : List (Addr × Obj)), Q.Good P w K mg base A outer n (fun H => BoxAt K H y lz hz) pn s Hc → (∀ b xs, pq b = some xs → b ∈ pn.map (·.1)) → n ∈ pn.map (·.1) →
      (∀ b ∈ pn.map (·.1), b = n ∨ b = q) → Inv (ptX P w K mg base f cdv A outer n s (gH Hc n s.heap [n] pq)) [] σ H1 s1 → L2.Same Hc H1 → (∃ xs, H1 q = some (.lst xs)) → (∀ p ∈ pn', p.1 = n ∨ p.1 = q) → (∀ p ∈ pn', s1.heap.get? p.1 = some p.2) →
      (∀ p ∈ pn', (p.1 ∈ pn.map (·.1) ∨ s.heap.get? p.1 = none) ∧ ∀ v, p.2.data ≠ .cell v) → _ := fun {σ H1 s1 pn s Hc pq} pn' G hpv hn hpq I1 sm hq hp' pins own =>
    gx_left (pn := pn) (pn' := pn') I1 hfs (fun b hb => by rw [List.mem_singleton.mp hb]; exact ⟨Nat.le_refl _, hn⟩) (fun b xs e => by
      have hm := hpv b xs e
      obtain ⟨o, ho⟩ := mem_fst hm
      exact ⟨(G.pins _ ho).2.2, hm⟩) (fun p hp => (G.pins p hp).2.1) G.e0.hok sm (fun b hbm u hu => by
      have hh : b = n ∨ b = q := hbm.elim (hpq b) fun z => by
        obtain ⟨o, ho⟩ := mem_fst z
        exact hp' _ ho
      rcases hh with rfl | rfl
      · have := I1.free
        rw [show H1 b = none from this] at hu
        cases hu
      · obtain ⟨xs, hx⟩ := hq
        rw [hx] at hu
        cases hu
        exact ⟨_, rfl⟩) pins own
  refine sx_whileLoop fun J => ?_
  rw [hov]
  refine wpAny_mono (((pt_val (pv 2)) : PT (ptX P w K mg base f cdv A outer n s (gH Hc n s.heap [n] pq)) (whT ptW) _).run [] s' _ H' (fun b H2 => b = true ∧ H2 = H') I ⟨_, rfl, _, rfl, rfl, rfl⟩) (fun b s2 hb2 => ?_) (fun _ _ hx => hx)
  obtain ⟨H2, I2, rfl, rfl⟩ := hb2
  rw [if_pos rfl]
  refine sx_execs_cons ?_
  refine sx_yield rfl rfl rfl ?_
  rw [hov]
  refine wpAny_mono (((pe_callTy call_tupOf (by rfl) T.n_tuple (by decide +kernel) (pa_cons (pv 1) pa_nil)) : PE (ptX P w K mg base f cdv A outer n s (gH Hc n s.heap [n] pq)) _ _).run [] s2 _ H2 (fun x H1 => ∃ t, x = .ref t ∧ H1 t = some (.tup (pt.map V.int)) ∧ L2.Same H2 H1) I2 ⟨_, rfl, tupOfN (SqL.of hq) fun l nl => ⟨l, rfl, upd_same, same_new nl⟩⟩) (fun v s3 hv => ?_) (fun _ _ hx => hx)
  obtain ⟨x, H1, I3, rv, t, rfl, hT, sm1⟩ := hv
  intro p1 l1 k1 hk
  have hq1 := sm1 _ _ hq
  obtain ⟨oL, eL, ncL, locL⟩ := loc_of_inv nc_points_of I3
  obtain ⟨zl, its, nn, vi, eq⟩ := I3.hok q _ hq1
  have lf := leave [(n, oL), (q, lstObj its.toArray nn)] G hpv hn hpq I3 (sm.trans sm1) ⟨_, hq1⟩ (fun p hp => by
    rcases List.mem_cons.mp hp with rfl | hp
    · exact .inl rfl
    · rw [List.mem_singleton.mp hp]; exact .inr rfl) (fun p hp => by
    rcases List.mem_cons.mp hp with rfl | hp
    · exact eL
    · rw [List.mem_singleton.mp hp]; exact eq) (fun p hp => by
    rcases List.mem_cons.mp hp with rfl | hp
    · exact ⟨.inl hn, ncL⟩
    · rw [List.mem_singleton.mp hp]; exact ⟨hq0, fun v z => nomatch z⟩)
  refine ⟨v, l1, k1, _, p1, _, .ref t, _, _, rfl, rv, ⟨t, rfl, lf.2 _ _ hT (fun _ z => nomatch z) (fun _ _ z => nomatch z)⟩, lf.1, ?_⟩
  rw [hk]
  -- the next turn
  have resume : ∀ (s4 : Shared) (Hc4 : Hp) (G4 : Q.Good P w K mg base A outer n (fun H => BoxAt K H y lz hz) [(n, oL), (q, lstObj its.toArray nn)] s4 Hc4) (Pz : End → Shared → Prop),
      (∀ s5 σ5 H5, Inv (ptX P w K mg base f cdv A outer n s4 (gH Hc4 n s4.heap [n] fun b => if b = q then some (pt.map V.int) else none)) [] σ5 H5 s5 → L2.Same Hc4 H5 → PtEnd (gH Hc4 n s4.heap [n] fun b => if b = q then some (pt.map V.int) else none) y q lz hz pt σ5 H5 →
        SegX (model P w) A (ptC f cdv n) ((model P w).den (ptC f cdv n)) [.ret kf none false l0 c p0 kp] s5 Pz) →
      SegX (model P w) A (ptC f cdv n) ((execs (whB ptW).tail (ptE f cdv n)).wrap (fun f' => match f' with
            | .next | .cont => .pure (.again (ptC f cdv n))
            | .brk => .pure (.done .next)
            | .ret v => .pure (.done (.ret v))) J id id) [.ret kf none false l0 c p0 kp] s4 Pz := fun s4 Hc4 G4 Pz hk => by
    have qn : Hc4 q = none := (G4.pins (q, lstObj its.toArray nn) (List.mem_cons_of_mem _ List.mem_cons_self)).2.1
    have nn0 : Hc4 n = none := (G4.pins (n, oL) List.mem_cons_self).2.1
    have qne : q ≠ n := fun z => by
      have f1 : H1 n = none := I3.free
      rw [z, f1] at hq1
      cases hq1
    have qf : q ∉ [n] := fun z => qne (List.mem_singleton.mp z)
    have I4 := gx_inv (P := P) (w := w) (K := K) (mg := mg) (base := base) (N := ["box", "point", "going", "column"]) (qual := "points_of") (scope := defScope s_points_of) (f := f) (cd := cdv) (A := A) (outer := outer) (n := n) (s := s4) (Hc := Hc4) (fr := [n]) (pv := fun b => if b = q then some (pt.map V.int) else none)
      (σ := [some (.ref y), some (.ref q), some (.bl true), c0]) hb G4.sz hfs nc_points_of (noCells_cells (by decide +kernel)) hr.hd G4.e0 rfl (locL s4.heap (G4.pins (n, oL) List.mem_cons_self).1) List.mem_cons_self (fun b z => by rw [List.mem_singleton.mp z]; exact ⟨Nat.le_refl _, nn0⟩)
      (fun b xs e => by
        have e : (if b = q then some (pt.map V.int) else none) = some xs := e
        split at e
        · rename_i hbq
          cases e
          subst hbq
          exact ⟨(G4.pins (b, lstObj its.toArray nn) (List.mem_cons_of_mem _ List.mem_cons_self)).2.2, qn, zl, its, nn, vi, (G4.pins (b, lstObj its.toArray nn) (List.mem_cons_of_mem _ List.mem_cons_self)).1⟩
        · cases e) (G := s4.gens) G4.e0.bare
    have sg : L2.Same Hc4 (gH Hc4 n s4.heap [n] fun b => if b = q then some (pt.map V.int) else none) := fun b u e => gH_old (fun z => by rw [List.mem_singleton.mp z, nn0] at e; cases e) (if_neg fun z => by rw [z, qn] at e; cases e) e
    have sgo : ∀ H', Off q (gH Hc4 n s4.heap [n] fun b => if b = q then some (pt.map V.int) else none) H' → L2.Same Hc4 H' := fun H' of b u e => (of b fun z => by rw [z, qn] at e; cases e).trans (sg b u e)
    have gq : gH Hc4 n s4.heap [n] (fun b => if b = q then some (pt.map V.int) else none) q = some (.lst (pt.map V.int)) := gH_pv qf (if_pos rfl)
    obtain ⟨t, ht, hq5⟩ := points_rest (P := P) (w := w) (mg := mg) (base := base) (f := f) (cdv := cdv) (A := A) (outer := outer) (n := n) (s := s4) (k := k) T hr (fun H' of => G4.d.same (sgo H' of)) wi l5 gq c0
    exact sx_pss ht I4 (PtEnd (gH Hc4 n s4.heap [n] fun b => if b = q then some (pt.map V.int) else none) y q lz hz pt) hq5 hov (fun _ _ z => z) fun s5 σ5 H5 I5 pe => sx_again rfl (hk s5 σ5 H5 I5 (sgo H5 pe.1) pe)
  have pins4 : ∀ b ∈ ([(n, oL), (q, lstObj its.toArray nn)] : List (Addr × Obj)).map (·.1), b = n ∨ b = q := fun b hb => by
    rcases List.mem_cons.mp hb with z | z
    · exact .inl z
    · exact .inr (List.mem_singleton.mp z)
  have pq4 : ∀ b xs, (if b = q then some (pt.map V.int) else none) = some xs → b ∈ ([(n, oL), (q, lstObj its.toArray nn)] : List (Addr × Obj)).map (·.1) := fun b xs e => by
    split at e
    · rename_i z
      rw [z]
      exact List.mem_cons_of_mem _ List.mem_cons_self
    · cases e
  rw [after_eq wi]
  cases hs : succ lz hz pt with
  | some q' =>
    show Going P w K mg base A outer n _ (ptItem K q' :: (after lz hz q').map (ptItem K)) _ _ _ _
    intro s4 Hc4 G4
    refine resume s4 Hc4 G4 _ fun s5 σ5 H5 I5 sm5 pe => ?_
    obtain ⟨h1, c1, rfl⟩ := pe.2.1 q' hs
    have ln : (after lz hz q').length < m := by
      rw [after_eq wi, hs] at hm
      rw [← hm]
      exact Nat.lt_succ_self _
    exact ih _ ln q' (succ_in wi hs) rfl _ s4 Hc4 _ s5 H5 c1 q G4 pq4 List.mem_cons_self pins4 (.inl (List.mem_cons_of_mem _ List.mem_cons_self)) I5 sm5 h1
  | none =>
    show Going P w K mg base A outer n _ [] _ _ _ _
    intro s4 Hc4 G4
    refine resume s4 Hc4 G4 _ fun s5 σ5 H5 I5 sm5 pe => ?_
    obtain ⟨h1, c1, rfl⟩ := pe.2.2 hs
    refine sx_whileLoop fun J => ?_
    rw [hov]
    refine wpAny_mono (((pt_val (pv 2)) : PT (ptX P w K mg base f cdv A outer n s4 (gH Hc4 n s4.heap [n] fun b => if b = q then some (pt.map V.int) else none)) (whT ptW) _).run [] s5 _ H5 (fun b H2 => b = false ∧ H2 = H5) I5 ⟨_, rfl, _, rfl, rfl, rfl⟩) (fun b s6 hb6 => ?_) (fun _ _ hx => hx)
    obtain ⟨H6, I6, rfl, rfl⟩ := hb6
    rw [if_neg Bool.false_ne_true]
    refine sx_leaf (.ok .next) ?_
    rw [hkf]
    refine sx_end (.ok (.ret .none)) ⟨.inl rfl, _, (leave [] G4 pq4 List.mem_cons_self pins4 I6 sm5 h1 (fun p hp => nomatch hp) (fun p hp => nomatch hp) fun p hp => nomatch hp).1⟩
end
section
variable {P : Program} {w : World} {K : PySem.W.Frag} {mg : Str → Option Value} {base : Heap} {f : Addr} {k : Nat}
theorem points_body (T : Tx K mg) : BodyX P w K mg base ["box", "point", "going", "column"] "points_of" (defScope s_points_of) f (defBody s_points_of) k (spPoints K) := by
  intro cdv A outer n oL vs L D hr hsp hb hfs loc hlen
  obtain ⟨y, lz, hz, rfl, wi, l5, rfl, rfl⟩ := hsp
  rw [spots_low wi]
  show Going P w K mg base A outer n _ (ptItem K lz :: (after lz hz lz).map (ptItem K)) _ _ _ _
  intro s Hc G
  have nn0 : Hc n = none := (G.pins (n, oL) List.mem_cons_self).2.1
  have I := gx_inv (P := P) (w := w) (K := K) (mg := mg) (base := base) (N := ["box", "point", "going", "column"]) (qual := "points_of") (scope := defScope s_points_of) (f := f) (cd := cdv) (A := A) (outer := outer) (n := n) (s := s) (Hc := Hc) (fr := [n]) (pv := fun _ => none)
      (σ := start ["box", "point", "going", "column"] [.ref y]) hb G.sz hfs nc_points_of (noCells_cells (by decide +kernel)) hr.hd G.e0 hlen (loc s.heap (G.pins (n, oL) List.mem_cons_self).1) List.mem_cons_self (fun b z => by rw [List.mem_singleton.mp z]; exact ⟨Nat.le_refl _, nn0⟩) (fun b xs e => nomatch e)
      (G := s.gens) G.e0.bare
  have sg : L2.Same Hc (gH Hc n s.heap [n] fun _ => none) := fun b u e => gH_old (fun z => by rw [List.mem_singleton.mp z, nn0] at e; cases e) rfl e
  generalize hHg : (gH Hc n s.heap [n] fun _ => none) = Hg at sg
  obtain ⟨dy, tl, th, tt, fs, g1, g2, g3, g4, g5, g6, g7, g8, g9⟩ := id (G.d.same sg)
  refine sx_func fun J => ?_
  refine sx_execs_cons (sx_ps ((ps_set (i := 1) sc_points_of.nd rfl (Or.inl rfl) (pe_callTy call_list_of (by rfl) T.n_list (by decide +kernel) (pa_cons (pe_fld (pv 0) rfl) pa_nil))) : PS (ptX P w K mg base f cdv A outer n s (gH Hc n s.heap [n] fun _ => none)) _ _) I (fun σ' H' => ∃ q, σ' = [some (.ref y), some (.ref q), none, none] ∧ Hg q = none ∧ H' = upd Hg q (.lst (lz.map V.int))) ?_ GenW.over_func (fun _ _ z => z) fun s1 σ1 H1 I1 h1 => ?_)
  · rw [hHg]
    refine ⟨_, rfl, y, _, dy, _, _, rfl, g1, T.cls_Box, T.noat_Box_lows, g3, tl, _, rfl, .inr g7, fun l nl => ⟨l, rfl, nl, rfl⟩⟩
  obtain ⟨q, rfl, hq0, rfl⟩ := h1
  refine sx_execs_cons (sx_ps ((ps_set (i := 2) sc_points_of.nd rfl (Or.inl rfl) pe_bl) : PS (ptX P w K mg base f cdv A outer n s (gH Hc n s.heap [n] fun _ => none)) _ _) I1 (fun σ' H' => σ' = [some (.ref y), some (.ref q), some (.bl true), none] ∧ H' = upd Hg q (.lst (lz.map V.int))) ⟨rfl, rfl⟩ GenW.over_func (fun _ _ z => z) fun s2 σ2 H2 I2 h2 => ?_)
  obtain ⟨rfl, rfl⟩ := h2
  refine sx_execs_cons (sx_While fun p J' => ?_)
  have qf : q ∉ [n] := fun z => by
    have f1 : upd Hg q (.lst (lz.map V.int)) n = none := I2.free
    rw [← List.mem_singleton.mp z, upd_same] at f1
    cases f1
  have sm : L2.Same Hc (upd Hg q (.lst (lz.map V.int))) := fun b u e => by
    have e1 := sg b u e
    rw [upd_ne (fun z => by rw [z, hq0] at e1; cases e1)]
    exact e1
  have new : s.heap.get? q = none := gx_new I2 G.e0.hok qf (by rw [hHg]; exact hq0) upd_same
  exact points_head (k := k) T rfl ((GenW.over_loop rfl rfl).trans GenW.over_func) hb hfs hr l5 _ lz wi rfl _ s Hc (fun _ => none) s2 _ none q G (fun b xs e => nomatch e) List.mem_cons_self (fun b hbm => .inl (List.mem_singleton.mp hbm)) (.inr new) I2 sm upd_same
theorem C_points_of (T : Tx K mg) : CalX P w K mg base 1 "points_of" ["box"] [] (spPoints K) := by
  obtain ⟨fd, F⟩ := T.d_points_of
  refine ⟨_, fd, [], FunD.okX F sc_points_of nc_points_of (fun vs L D h => ?_) (points_body (k := 0) T), T.g_points_of, F.kp, F.bindsN fun _ _ _ _ _ _ us hl => match us, hl with | [_], _ => rfl, .nil⟩
  obtain ⟨y, lz, hz, rfl, _⟩ := h
  rfl
end

end K07

set_option maxRecDepth 100000
set_option maxHeartbeats 4000000
namespace K07
open PySem PySem.Spec PyProof.Rows L2 Q RZ
section
variable {P : Program} {w : World} {K : PySem.W.Frag} {mg : Str → Option Value} {base : Heap} {f : Addr} {fd : FuncData}
theorem ok_badbox (T : Tx K mg) : ∃ fd, FnOk P w K mg base CX0 1 (He.ma K (He.ga K "BadBox") "__init__") fd ["self", "what", "at"] (spXI (He.ga K "BadBox") 2 fun vs => [("at", vs.getD 1 .non), ("what", vs.getD 0 .non)]) ∧ Binds K fd ["self", "what", "at"] [] := by
  obtain ⟨fd, F⟩ := T.d_BadBox___init__
  refine ⟨fd, F.ok sc_BadBox___init__ (fun vs H Q E h => ?_) (fun cdv A outer s H vs Q E hr h => ?_), F.bindsN fun _ _ _ _ _ _ us hl => match us, hl with | [_, _, _], _ => rfl⟩
  · obtain ⟨a, ws, rfl, hl, _⟩ := h
    show ws.length + 1 = 3
    omega
  · obtain ⟨a, ws, rfl, hl, ha, q⟩ := h
    match ws, hl with
    | [x, y], _ =>
      refine ⟨_, PSs.nox (pss_cons (ps_ost (pv 0) (pv 1)) (pss_one (ps_ost (pv 0) (pv 2)))), ?_⟩
      refine ⟨_, rfl, _, rfl, a, _, rfl, T.o_BadBox, T.noat_BadBox_what, .inl ⟨ha, fun dx nd ne => ?_⟩⟩
      refine ⟨_, rfl, _, rfl, a, _, rfl, T.o_BadBox, T.noat_BadBox_at, .inr ⟨dx, _, upd_same, by rw [upd_ne ne, upd_same], (by show 1 ≤ 900; decide), ?_⟩⟩
      have e := q dx nd ne
      rw [← xi_two ne] at e
      exact e

theorem sqT_ins {H : Hp} {l y C C' dy dy' : Addr} {fs fs' : List (Str × V)} {xs : List V} (h : SqT K H l xs) (hy : H y = some (.ins C dy fs)) : SqT K (upd H y (.ins C' dy' fs')) l xs := by
  rcases h with (h | ⟨o, h⟩) | h
  · exact .inl (.inl (by rw [upd_ne (ne_of h hy (fun z => nomatch z))]; exact h))
  · exact .inl (.inr ⟨o, by rw [upd_ne (ne_of h hy (fun z => nomatch z))]; exact h⟩)
  · exact .inr h
/-- the four fields of a box -/
structure BoxFs (fs : List (Str × V)) (tl th tt : Addr) (n : Int) : Prop where
  lows : fs.lookup ("lows" : Str) = some (.ref tl)
  highs : fs.lookup ("highs" : Str) = some (.ref th)
  told : fs.lookup ("told" : Str) = some (.ref tt)
  size : fs.lookup ("size" : Str) = some (.int n)
  holds : fs.lookup ("holds" : Str) = none
theorem BoxFs.put {fs : List (Str × V)} {tl th tt : Addr} {n m : Int} (h : BoxFs fs tl th tt n) : BoxFs (putF "size" (.int m) fs) tl th tt m :=
  ⟨by rw [lookup_putF, if_neg (by decide +kernel)]; exact h.lows, by rw [lookup_putF, if_neg (by decide +kernel)]; exact h.highs, by rw [lookup_putF, if_neg (by decide +kernel)]; exact h.told, by rw [lookup_putF, if_pos rfl], by rw [lookup_putF, if_neg (by decide +kernel)]; exact h.holds⟩
theorem boxFs_new (tl th tt : Addr) (n : Int) : BoxFs (putF "size" (.int n) (putF "told" (.ref tt) (putF "highs" (.ref th) (putF "lows" (.ref tl) [])))) tl th tt n :=
  ⟨by rw [lookup_putF, if_neg (by decide +kernel), lookup_putF, if_neg (by decide +kernel), lookup_putF, if_neg (by decide +kernel), lookup_putF, if_pos rfl],
    by rw [lookup_putF, if_neg (by decide +kernel), lookup_putF, if_neg (by decide +kernel), lookup_putF, if_pos rfl], by rw [lookup_putF, if_neg (by decide +kernel), lookup_putF, if_pos rfl], by rw [lookup_putF, if_pos rfl], by rw [lookup_putF, if_neg (by decide +kernel), lookup_putF, if_neg (by decide +kernel), lookup_putF, if_neg (by decide +kernel), lookup_putF, if_neg (by decide +kernel)]; rfl⟩
theorem ok_boxinit (T : Tx K mg) : ∃ fd, FnOk P w K mg base (L2.CX P w) 3 (He.ma K (He.ga K "Box") "__init__") fd ["self", "lows", "highs"] (spBoxInit K) ∧ Binds K fd ["self", "lows", "highs"] [] := by
  obtain ⟨fd, F⟩ := T.d_Box___init__
  obtain ⟨fdX, G_BadBox, b_BadBox⟩ := ok_badbox (P := P) (w := w) (base := base) T
  have C_is_whole := C_is_whole (P := P) (w := w) (base := base) T
  refine ⟨fd, F.ok sc_Box___init__ (fun vs H Q E h => ?_) (fun cdv A outer s H vs Q E hr h => ?_), F.bindsN fun _ _ _ _ _ _ us hl => match us, hl with | [_, _, _], _ => rfl⟩
  · obtain ⟨y, dy, v1, v2, T1, T2, rfl, _⟩ := h
    rfl
  · obtain ⟨y, dy, v1, v2, T1, T2, rfl, hy, kn1, kn2, it1, it2, kE, kQ⟩ := h
    refine ⟨_, (pss_cons (ps_if (PW.pt (pw_or (pt_not (pt_val (pe_callB call_isiT (by rfl) T.n_isinstance (by decide +kernel) (pa_cons (pv 1) (pa_cons (pe_tup (pa_cons (pe_bltn (v := .ty "list") (u := .type "list") (by rfl) T.n_list (by decide +kernel) rfl) (pa_cons (pe_bltn (v := .ty "tuple") (u := .type "tuple") (by rfl) T.n_tuple (by decide +kernel) rfl) pa_nil))) pa_nil))))) (pw_or1 (pt_cmpR op_gt (pe_callB call_len_seq (by rfl) T.n_len (by decide +kernel) (pa_cons (pv 1) pa_nil)) (pe_gint T.c_MOST_COLUMNS) (nomark _)))))
        (pss_one (ps_raise rfl (takes_of rfl rfl rfl rfl) (pmk_fld T.o_BadBox T.i_BadBox T.t_BadBox G_BadBox (hr.mono (by decide)) b_BadBox pass0 T.g_BadBox (by decide) (pa_cons pe_str (pa_cons pe_int pa_nil)) (fun _ _ _ _ h z => h _ _ z))))
        pss_nil)
      (pss_cons (ps_if (PW.pt (pw_or (pt_not (pt_val (pe_callB call_isiT (by rfl) T.n_isinstance (by decide +kernel) (pa_cons (pv 2) (pa_cons (pe_tup (pa_cons (pe_bltn (v := .ty "list") (u := .type "list") (by rfl) T.n_list (by decide +kernel) rfl) (pa_cons (pe_bltn (v := .ty "tuple") (u := .type "tuple") (by rfl) T.n_tuple (by decide +kernel) rfl) pa_nil))) pa_nil))))) (pw_or1 (pt_cmpR op_ne (pe_callB call_len_seq (by rfl) T.n_len (by decide +kernel) (pa_cons (pv 2) pa_nil)) (pe_callB call_len_seq (by rfl) T.n_len (by decide +kernel) (pa_cons (pv 1) pa_nil)) (nomark _)))))
        (pss_one (ps_raise rfl (takes_of rfl rfl rfl rfl) (pmk_fld T.o_BadBox T.i_BadBox T.t_BadBox G_BadBox (hr.mono (by decide)) b_BadBox pass0 T.g_BadBox (by decide) (pa_cons pe_str (pa_cons pe_int pa_nil)) (fun _ _ _ _ h z => h _ _ z))))
        pss_nil)
      (pss_cons (ps_for (passes_of rfl) rfl (pi_range1 (by rfl) T.n_range (pa_cons (pe_callB call_len_seq (by rfl) T.n_len (by decide +kernel) (pa_cons (pv 1) pa_nil)) pa_nil)) (pg_name (i := 3) sc_Box___init__.nd rfl (Or.inl rfl))
        (pss_cons (ps_if (pt_not (pt_val (pe_cal C_is_whole (hr.mono (by decide)) pass0 (pa_cons (pe_ix ix_seq (pv 1) (pv 3) (fun _ _ => rfl)) (pa_cons pe_int (pa_cons (pe_op op_sub (pe_gint T.c_HIGHEST) pe_int) pa_nil))))))
          (pss_one (ps_raise rfl (takes_of rfl rfl rfl rfl) (pmk_fld T.o_BadBox T.i_BadBox T.t_BadBox G_BadBox (hr.mono (by decide)) b_BadBox pass0 T.g_BadBox (by decide) (pa_cons pe_str (pa_cons (pv 3) pa_nil)) (fun _ _ _ _ h z => let ⟨v1, e1, z⟩ := z; ⟨v1, e1, h _ _ z⟩))))
          pss_nil)
        (pss_one (ps_if (pt_not (pt_val (pe_cal C_is_whole (hr.mono (by decide)) pass0 (pa_cons (pe_ix ix_seq (pv 2) (pv 3) (fun _ _ => rfl)) (pa_cons (pe_op op_add (pe_ix ix_seq (pv 1) (pv 3) (fun _ _ => rfl)) pe_int) (pa_cons (pe_gint T.c_HIGHEST) pa_nil))))))
          (pss_one (ps_raise rfl (takes_of rfl rfl rfl rfl) (pmk_fld T.o_BadBox T.i_BadBox T.t_BadBox G_BadBox (hr.mono (by decide)) b_BadBox pass0 T.g_BadBox (by decide) (pa_cons pe_str (pa_cons (pv 3) pa_nil)) (fun _ _ _ _ h z => let ⟨v1, e1, z⟩ := z; ⟨v1, e1, h _ _ z⟩))))
          pss_nil))))
      (pss_cons (ps_fld (pv 0) (pe_callTy call_tupOf (by rfl) T.n_tuple (by decide +kernel) (pa_cons (pv 1) pa_nil)) rfl)
      (pss_cons (ps_fld (pv 0) (pe_callTy call_tupOf (by rfl) T.n_tuple (by decide +kernel) (pa_cons (pv 2) pa_nil)) rfl)
      (pss_cons (ps_fld (pv 0) (pe_tup (pa_cons (pe_fld (pv 0) rfl) (pa_cons (pe_fld (pv 0) rfl) pa_nil))) rfl)
      (pss_cons (ps_fld (pv 0) pe_int rfl)
      (pss_one (ps_for (passes_of rfl) rfl (pi_zipA (by rfl) T.n_zip (pa_cons (pe_fld (pv 0) rfl) (pa_cons (pe_fld (pv 0) rfl) pa_nil))) (pg_tup rfl (pgs_cons (pg_name (i := 4) sc_Box___init__.nd rfl (Or.inl rfl)) (pgs_cons (pg_name (i := 5) sc_Box___init__.nd rfl (Or.inl rfl)) pgs_nil)))
        (pss_one (ps_fld (pv 0) (pe_op op_mul (pe_fld (pv 0) rfl) (pe_op op_sub (pv 5) (pv 4))) rfl))))))))))), ?_⟩
    -- not a sequence, or too long
    rcases kn1.seqSome with ⟨q1, a1, xs1, rfl, hs1, hh1⟩ | ⟨q1, hs1⟩
    case inr =>
      have z : PySem.W.kitAny K (.type T1) [.type "list", .type "tuple"] = some false := by rw [kn1.seq, q1]
      refine ⟨_, rfl, (by show 2 ≤ sizeLine; decide), fun p1 np1 => ⟨_, p1, _, _, _, _, rfl, upd_same, .cons (.ty _) (.cons (.ty _) .nil), (kn1.same (same_new np1)).ty, z, _, rfl, iteT (iteT ⟨rfl, fun d nd => ?_⟩)⟩⟩
      exact kE "lows" 0 _ d (by rw [hs1]; rfl) ((same_new np1).trans (same_new nd)) ((same_new np1).free nd) upd_same
    have z1 : PySem.W.kitAny K (.type T1) [.type "list", .type "tuple"] = some true := by rw [kn1.seq, q1]
    have sq1 : Sq K H a1 xs1 := sq_of hh1
    refine ⟨_, rfl, (by show 2 ≤ sizeLine; decide), fun p1 np1 => ⟨_, p1, _, _, _, _, rfl, upd_same, .cons (.ty _) (.cons (.ty _) .nil), (kn1.same (same_new np1)).ty, z1, _, rfl, iteF ?_⟩⟩
    have s1 := same_new (o := HO.tup [V.ty "list", V.ty "tuple"]) np1
    refine ⟨_, rfl, _, _, rfl, sq1.same s1, _, _, rfl, rfl, _, rfl, ite2 (fun c => ?_) (fun c => ?_)⟩
    · have c' : 5 < xs1.length := by
        have := of_decide_eq_true c
        omega
      refine ⟨rfl, fun d nd => kE "lows" 0 _ d ?_ (s1.trans (same_new nd)) (s1.free nd) upd_same⟩
      rw [hs1]
      show (if 5 < xs1.length then some ((("lows" : Str)), (0 : Int)) else _) = _
      rw [if_pos c']
    have c5 : ¬ 5 < xs1.length := fun z => c (decide_eq_true (by omega))
    -- highs
    generalize hH1 : upd H p1 (HO.tup [V.ty "list", V.ty "tuple"]) = H1 at s1 ⊢
    rcases kn2.seqSome with ⟨q2, a2, xs2, rfl, hs2, hh2⟩ | ⟨q2, hs2⟩
    case inr =>
      have z : PySem.W.kitAny K (.type T2) [.type "list", .type "tuple"] = some false := by rw [kn2.seq, q2]
      refine ⟨_, rfl, (by show 2 ≤ sizeLine; decide), fun p2 np2 => ⟨_, p2, _, _, _, _, rfl, upd_same, .cons (.ty _) (.cons (.ty _) .nil), (kn2.same (s1.trans (same_new np2))).ty, z, _, rfl, iteT (iteT ⟨rfl, fun d nd => ?_⟩)⟩⟩
      have s2 := s1.trans (same_new (o := HO.tup [V.ty "list", V.ty "tuple"]) np2)
      refine kE "highs" 0 _ d ?_ (s2.trans (same_new nd)) (s2.free nd) upd_same
      rw [hs1, hs2]
      show (if 5 < xs1.length then some ((("lows" : Str)), (0 : Int)) else _) = _
      rw [if_neg c5]
    have z2 : PySem.W.kitAny K (.type T2) [.type "list", .type "tuple"] = some true := by rw [kn2.seq, q2]
    have sq2 : Sq K H a2 xs2 := sq_of hh2
    refine ⟨_, rfl, (by show 2 ≤ sizeLine; decide), fun p2 np2 => ⟨_, p2, _, _, _, _, rfl, upd_same, .cons (.ty _) (.cons (.ty _) .nil), (kn2.same (s1.trans (same_new np2))).ty, z2, _, rfl, iteF ?_⟩⟩
    have s2 := s1.trans (same_new (o := HO.tup [V.ty "list", V.ty "tuple"]) np2)
    generalize hH2 : upd H1 p2 (HO.tup [V.ty "list", V.ty "tuple"]) = H2 at s2 ⊢
    have bf : boxFault (seqOf H (V.ref a1)) (seqOf H (V.ref a2)) = if xs2.length = xs1.length then faultFrom 0 xs1 xs2 else some (("highs" : Str), 0) := by
      rw [hs1, hs2]
      show (if 5 < xs1.length then some ((("lows" : Str)), (0 : Int)) else _) = _
      rw [if_neg c5]
    refine ⟨_, rfl, _, _, rfl, sq2.same s2, _, rfl, _, _, rfl, sq1.same s2, rfl, _, rfl, ite2 (fun c => ?_) (fun c => ?_)⟩
    · refine ⟨rfl, fun d nd => kE "highs" 0 _ d ?_ (s2.trans (same_new nd)) (s2.free nd) upd_same⟩
      rw [bf, if_neg]
      intro e
      rw [e] at c
      simp at c
    have el : xs2.length = xs1.length := by
      simp at c
      omega
    rw [if_pos el] at bf
    -- the columns, one by one
    refine ⟨_, rfl, _, _, rfl, sq1.same s2, (xs1.length : Int), rfl, by omega, by omega, ?_⟩
    rw [Int.toNat_natCast]
    refine for_range (lo := 0) (n := xs1.length) (fun i σ H' => (∃ v3, σ = [some (.ref y), some (.ref a1), some (.ref a2), v3, none, none]) ∧ Same H H' ∧ faultFrom i (xs1.drop i) (xs2.drop i) = faultFrom 0 xs1 xs2) ⟨⟨none, rfl⟩, s2, by rw [List.drop_zero, List.drop_zero]⟩ ?_ ?_
    · rintro i σ H' hi ⟨⟨v3, rfl⟩, sm, ff⟩
      have hi2 : i < xs2.length := by omega
      have g1 : xs1[i]? = some xs1[i] := List.getElem?_eq_getElem hi
      have g2 : xs2[i]? = some xs2[i] := List.getElem?_eq_getElem hi2
      obtain ⟨U1, ku1⟩ := it1 xs1 hs1 xs1[i] (List.getElem_mem hi)
      obtain ⟨U2, ku2⟩ := it2 xs2 hs2 xs2[i] (List.getElem_mem hi2)
      have ai1 : atI xs1 ((0 : Int) + (i : Int)) = some xs1[i] := by rw [Int.zero_add]; exact atI_nat g1
      have ai2 : atI xs2 ((0 : Int) + (i : Int)) = some xs2[i] := by rw [Int.zero_add]; exact atI_nat g2
      have stp := fault_step g1 g2
      refine ⟨_, rfl, _, rfl, rix_of (sq1.same sm) ai1 ?_⟩
      refine ⟨_, _, rfl, rfl, _, 0, 63, U1, rfl, ku1.same sm, _, rfl, ?_⟩
      cases w1 : wholeV xs1[i] 0 63 with
      | false =>
        have cf : colFault xs1[i] xs2[i] = some ("low" : Str) := by
          unfold colFault
          split
          · rename_i k hk
            rw [if_neg (by rw [← hk, w1]; exact Bool.false_ne_true)]
          · rfl
        rw [cf] at stp
        refine iteT ⟨_, rfl, rfl, fun d nd => kE "low" _ _ d ?_ (sm.trans (same_new nd)) (sm.free nd) upd_same⟩
        rw [bf, ← ff, stp, Int.zero_add]
      | true =>
        obtain ⟨k, hk⟩ : ∃ k, xs1[i] = V.int k := by
          cases e : xs1[i] with
          | int k => exact ⟨k, rfl⟩
          | _ => rw [e] at w1; cases w1
        refine iteF ⟨_, rfl, _, rfl, rix_of (sq2.same sm) ai2 ?_⟩
        refine ⟨_, rfl, _, rfl, rix_of (sq1.same sm) ai1 ?_⟩
        refine ⟨k, 1, hk, rfl, _, k + 1, 64, U2, rfl, ku2.same sm, _, rfl, ?_⟩
        cases w2 : wholeV xs2[i] (k + 1) 64 with
        | false =>
          have cf : colFault xs1[i] xs2[i] = some ("high" : Str) := by
            rw [hk] at w1 ⊢
            show (if wholeV (.int k) 0 63 = true then (if wholeV xs2[i] (k + 1) 64 = true then none else some (("high" : Str))) else some ("low" : Str)) = _
            rw [if_pos w1, if_neg (by rw [w2]; exact Bool.false_ne_true)]
          rw [cf] at stp
          refine iteT ⟨_, rfl, rfl, fun d nd => kE "high" _ _ d ?_ (sm.trans (same_new nd)) (sm.free nd) upd_same⟩
          rw [bf, ← ff, stp, Int.zero_add]
        | true =>
          have cf : colFault xs1[i] xs2[i] = none := by
            rw [hk] at w1 ⊢
            show (if wholeV (.int k) 0 63 = true then (if wholeV xs2[i] (k + 1) 64 = true then none else some (("high" : Str))) else some ("low" : Str)) = _
            rw [if_pos w1, if_pos w2]
          rw [cf] at stp
          exact iteF ⟨⟨_, rfl⟩, sm, stp.symm.trans ff⟩
    · rintro σ H' ⟨⟨v3, rfl⟩, sm, ff⟩
      have fn0 : faultFrom 0 xs1 xs2 = none := by
        rw [← ff, List.drop_eq_nil_of_le (Nat.le_refl _)]
        cases xs2.drop xs1.length <;> rfl
      obtain ⟨lz, hz, rfl, rfl, rg⟩ := fault_none (by omega) fn0
      rw [fn0] at bf
      have len5 : lz.length ≤ 5 := by
        rw [List.length_map] at c5
        omega
      have hy1 := sm _ _ hy
      -- self.lows = tuple(lows)
      refine ⟨_, rfl, ?_⟩
      refine tupOf_of (sq1.same sm) fun tl Ha ql sa _ => ?_
      refine ⟨_, rfl, y, _, dy, _, rfl, sa _ _ hy1, T.cls_Box, T.noat_Box_lows, by decide, ?_⟩
      have sba : ∀ b o, b ≠ y → H b = some o → upd Ha y (.ins (He.ga K "Box") dy (putF "lows" (.ref tl) [])) b = some o := fun b o n e => by
        rw [upd_ne n]
        exact sa _ _ (sm _ _ e)
      have sq2a : Sq K (upd Ha y (.ins (He.ga K "Box") dy (putF "lows" (.ref tl) []))) a2 (hz.map V.int) := sq_of (hh2.elim (fun e => .inl (sba _ _ (ne_of e hy (fun z => nomatch z)) e)) fun e => .inr (sba _ _ (ne_of e hy (fun z => nomatch z)) e))
      have ql1 := sqT_ins (C' := He.ga K "Box") (dy' := dy) (fs' := putF "lows" (.ref tl) []) ql (sa _ _ hy1)
      -- self.highs = tuple(highs)
      refine ⟨_, rfl, ?_⟩
      refine tupOf_of sq2a fun th Hb qh sb _ => ?_
      refine ⟨_, rfl, y, _, dy, _, rfl, sb _ _ upd_same, T.cls_Box, T.noat_Box_highs, Nat.lt_of_le_of_lt (length_putF _ _ _) (by decide), ?_⟩
      have hyb := sb _ _ (upd_same (H := Ha) (a := y) (o := .ins (He.ga K "Box") dy (putF "lows" (.ref tl) [])))
      have ql2 := sqT_ins (C' := He.ga K "Box") (dy' := dy) (fs' := putF "highs" (.ref th) (putF "lows" (.ref tl) [])) (sqT_same sb ql1) hyb
      have qh2 := sqT_ins (C' := He.ga K "Box") (dy' := dy) (fs' := putF "highs" (.ref th) (putF "lows" (.ref tl) [])) qh hyb
      generalize hHc : upd Hb y (.ins (He.ga K "Box") dy (putF "highs" (.ref th) (putF "lows" (.ref tl) []))) = Hc at ql2 qh2 ⊢
      have hyc : Hc y = some (.ins (He.ga K "Box") dy (putF "highs" (.ref th) (putF "lows" (.ref tl) []))) := by rw [← hHc, upd_same]
      have sbc : ∀ b o, b ≠ y → H b = some o → Hc b = some o := fun b o n e => by
        rw [← hHc, upd_ne n]
        exact sb _ _ (sba b o n e)
      have l2 : (putF "highs" (V.ref th) (putF "lows" (.ref tl) [])).length ≤ 2 := Nat.le_trans (length_putF _ _ _) (Nat.succ_le_succ (length_putF _ _ _))
      -- self.told = (self.lows, self.highs)
      refine ⟨_, rfl, y, _, dy, _, _, rfl, hyc, T.cls_Box, T.noat_Box_lows, by rw [lookup_putF, if_neg (by decide +kernel), lookup_putF, if_pos rfl], _, rfl, y, _, dy, _, _, rfl, hyc, T.cls_Box, T.noat_Box_highs, by rw [lookup_putF, if_pos rfl], (by show 2 ≤ sizeLine; decide), fun tt nt => ?_⟩
      have st := same_new (o := HO.tup [V.ref tl, V.ref th]) nt
      refine ⟨_, rfl, y, _, dy, _, rfl, st _ _ hyc, T.cls_Box, T.noat_Box_told, by omega, ?_⟩
      have l3 : (putF "told" (V.ref tt) (putF "highs" (V.ref th) (putF "lows" (.ref tl) []))).length ≤ 3 := Nat.le_trans (length_putF _ _ _) (Nat.succ_le_succ l2)
      have l4 : (putF "size" (V.int 1) (putF "told" (V.ref tt) (putF "highs" (V.ref th) (putF "lows" (.ref tl) [])))).length ≤ 4 := Nat.le_trans (length_putF _ _ _) (Nat.succ_le_succ l3)
      -- self.size = 1
      refine ⟨_, rfl, y, _, dy, _, rfl, upd_same, T.cls_Box, T.noat_Box_size, by omega, ?_⟩
      rw [upd_upd]
      have bfs := boxFs_new tl th tt 1
      generalize putF "size" (V.int 1) (putF "told" (V.ref tt) (putF "highs" (V.ref th) (putF "lows" (.ref tl) []))) = fs at l4 bfs ⊢
      have ql3 := sqT_ins (C' := He.ga K "Box") (dy' := dy) (fs' := fs) (sqT_same st ql2) (st _ _ hyc)
      have qh3 := sqT_ins (C' := He.ga K "Box") (dy' := dy) (fs' := fs) (sqT_same st qh2) (st _ _ hyc)
      have qt3 : SqT K (upd (upd Hc tt (HO.tup [V.ref tl, V.ref th])) y (.ins (He.ga K "Box") dy fs)) tt [V.ref tl, V.ref th] := sqT_ins (SqT.of upd_same) (st _ _ hyc)
      -- for low, high in zip(self.lows, self.highs)
      refine ⟨_, rfl, y, _, dy, _, _, rfl, upd_same, T.cls_Box, T.noat_Box_lows, bfs.lows, _, rfl, y, _, dy, _, _, rfl, upd_same, T.cls_Box, T.noat_Box_highs, bfs.highs, tl, th, lz.map V.int, hz.map V.int, rfl, .inr ⟨ql3, qh3, ?_⟩⟩
      have rl := rg.len
      refine for_zipT (K := K) (a := tl) (b := th) (xs := lz.map V.int) (ys := hz.map V.int) (by rw [List.length_map, List.length_map, rl]) (fun i σ Hx => ∃ v4 v5 fs, σ = [some (.ref y), some (.ref a1), some (.ref a2), v3, v4, v5] ∧ (∀ b o, b ≠ y → H b = some o → Hx b = some o) ∧ Hx y = some (.ins (He.ga K "Box") dy fs) ∧ fs.length ≤ 4 + i ∧
        BoxFs fs tl th tt (boxSize lz hz i) ∧ SqT K Hx tl (lz.map V.int) ∧ SqT K Hx th (hz.map V.int) ∧ SqT K Hx tt [V.ref tl, V.ref th]) ⟨none, none, fs, rfl, fun b o n e => ?_, upd_same, by omega, bfs, ql3, qh3, qt3⟩ (fun i σ Hx h => ?_) ?_ ?_
      · rw [upd_ne n]
        exact st _ _ (sbc b o n e)
      · obtain ⟨_, _, _, _, _, _, _, _, h1, h2, _⟩ := h
        exact ⟨h1, h2⟩
      · rintro i x z Tp σ Hx hx hz' ⟨v4, v5, fs, rfl, keep, hyx, hfl, bf', qa, qb, qc⟩ nT
        have hi : i < lz.length := by
          have := (List.getElem?_eq_some_iff.mp hx).1
          rwa [List.length_map] at this
        have hi2 : i < hz.length := by omega
        obtain rfl : x = V.int lz[i] := by
          rw [List.getElem?_map, List.getElem?_eq_getElem hi] at hx
          exact (Option.some.inj hx).symm
        obtain rfl : z = V.int hz[i] := by
          rw [List.getElem?_map, List.getElem?_eq_getElem hi2] at hz'
          exact (Option.some.inj hz').symm
        have sT := same_new (o := HO.tup [V.int lz[i], V.int hz[i]]) nT
        refine ⟨Tp, _, rfl, SqT.of upd_same, rfl, _, _, rfl, _, _, rfl, rfl, ?_⟩
        obtain ⟨g1, g2⟩ := size_le rg i (by omega)
        have g3 : boxSize lz hz i ≤ 64 ^ 5 := Int.le_trans g2 (by
          have : i ≤ 5 := by omega
          match i, this with
          | 0, _ => decide
          | 1, _ => decide
          | 2, _ => decide
          | 3, _ => decide
          | 4, _ => decide
          | 5, _ => decide)
        refine ⟨_, rfl, y, _, dy, fs, _, rfl, sT _ _ hyx, T.cls_Box, T.noat_Box_size, bf'.size, _, rfl, _, rfl, _, _, rfl, rfl, _, _, rfl, rfl, .inl ⟨by omega, by omega⟩, ?_⟩
        refine ⟨_, rfl, y, _, dy, fs, rfl, sT _ _ hyx, T.cls_Box, T.noat_Box_size, by omega, ?_⟩
        refine ⟨_, _, _, rfl, fun b o n e => ?_, upd_same, Nat.le_trans (length_putF _ _ _) (by omega), ?_, sqT_ins (sqT_same sT qa) (sT _ _ hyx), sqT_ins (sqT_same sT qb) (sT _ _ hyx), sqT_ins (sqT_same sT qc) (sT _ _ hyx)⟩
        · rw [upd_ne n]
          exact sT _ _ (keep b o n e)
        · have e : boxSize lz hz (i + 1) = boxSize lz hz i * (hz[i] - lz[i]) := by
            show boxSize lz hz i * (hz.getD i 0 - lz.getD i 0) = _
            rw [List.getD_eq_getElem?_getD, List.getD_eq_getElem?_getD, List.getElem?_eq_getElem hi, List.getElem?_eq_getElem hi2]
            rfl
          rw [e]
          exact bf'.put
      · rintro σ Hx ⟨v4, v5, fs, rfl, keep, hyx, hfl, bf', qa, qb, qc⟩
        rw [List.length_map] at hfl bf'
        exact kQ lz hz Hx bf hs1 hs2 rg len5 keep ⟨dy, tl, th, tt, fs, hyx, ⟨by omega, bf'.holds⟩, bf'.lows, bf'.highs, bf'.told, bf'.size, qa, qb, qc⟩

end
end K07

set_option maxRecDepth 100000
set_option maxHeartbeats 4000000
namespace K07
open PySem PySem.Spec PyProof.Rows L2 Q RZ
section
variable {P : Program} {w : World} {K : PySem.W.Frag} {mg : Str → Option Value} {base : Heap} {f : Addr} {fd : FuncData}
theorem sq_ty {K : PySem.W.Frag} {H : Hp} {a : Addr} {xs : List V} (h : Sq K H a xs) : ∃ T : String, TyX K H (.ref a) (.type T) ∧ PySem.W.kitAny K (.type T) [.type "list", .type "tuple"] = some true := by
  have kl : PySem.W.kitAny K (.type "list") [.type "list", .type "tuple"] = some true := (Kn.lst (H := fun _ => some (.lst [])) (a := 0) (xs := []) rfl).seq
  have kt : PySem.W.kitAny K (.type "tuple") [.type "list", .type "tuple"] = some true := (Kn.tup (H := fun _ => some (.tup [])) (a := 0) (xs := []) rfl).seq
  rcases h with ((h | ⟨o, h⟩) | ⟨o, its, n, h, c, _⟩) | ((h | ⟨o, h⟩) | ⟨o, its, n, h, c, _⟩)
  · exact ⟨_, .base (.lst h), kl⟩
  · exact ⟨_, .base (.frz h), kl⟩
  · exact ⟨_, .kList h c, kl⟩
  · exact ⟨_, .base (.tup h), kt⟩
  · exact ⟨_, .fTuple h, kt⟩
  · exact ⟨_, .kTuple h c, kt⟩
/-- Sq stands while all but one instance is kept -/
theorem sq_but {K : PySem.W.Frag} {H H' : Hp} {a y C dy : Addr} {xs : List V} {fs : List (Str × V)} (h : Sq K H a xs) (hy : H y = some (.ins C dy fs)) (k : ∀ b o, b ≠ y → H b = some o → H' b = some o) : Sq K H' a xs := by
  rcases h with ((h | ⟨o, h⟩) | h) | ((h | ⟨o, h⟩) | h)
  · exact .inl (.inl (.inl (k _ _ (ne_of h hy (fun z => nomatch z)) h)))
  · exact .inl (.inl (.inr ⟨o, k _ _ (ne_of h hy (fun z => nomatch z)) h⟩))
  · exact .inl (.inr h)
  · exact .inr (.inl (.inl (k _ _ (ne_of h hy (fun z => nomatch z)) h)))
  · exact .inr (.inl (.inr ⟨o, k _ _ (ne_of h hy (fun z => nomatch z)) h⟩))
  · exact .inr (.inr h)
/-- Box(lows, highs), right, whatever the sequences are -/
def spBoxGood (K : PySem.W.Frag) : Sp := fun vs H Q _ => ∃ (y dy a1 a2 : Addr) (lz hz : List Int), vs = [.ref y, .ref a1, .ref a2] ∧ H y = some (.ins (He.ga K "Box") dy []) ∧ Sq K H a1 (lz.map V.int) ∧ Sq K H a2 (hz.map V.int) ∧ Rgs lz hz ∧ lz.length ≤ 5 ∧
  ∀ H', (∀ b o, b ≠ y → H b = some o → H' b = some o) → BoxAt K H' y lz hz → Q .non H'
theorem ok_boxgood (T : Tx K mg) : ∃ fd, FnOk P w K mg base (L2.CX P w) 3 (He.ma K (He.ga K "Box") "__init__") fd ["self", "lows", "highs"] (spBoxGood K) ∧ Binds K fd ["self", "lows", "highs"] [] := by
  obtain ⟨fd, F⟩ := T.d_Box___init__
  obtain ⟨fdX, G_BadBox, b_BadBox⟩ := ok_badbox (P := P) (w := w) (base := base) T
  have C_is_whole := C_is_whole (P := P) (w := w) (base := base) T
  refine ⟨fd, F.ok sc_Box___init__ (fun vs H Q E h => ?_) (fun cdv A outer s H vs Q E hr h => ?_), F.bindsN fun _ _ _ _ _ _ us hl => match us, hl with | [_, _, _], _ => rfl⟩
  · obtain ⟨y, dy, a1, a2, lz, hz, rfl, _⟩ := h
    rfl
  · obtain ⟨y, dy, a1, a2, lz, hz, rfl, hy, sq1, sq2, rg, len5, kQ⟩ := h
    refine ⟨_, (pss_cons (ps_if (PW.pt (pw_or (pt_not (pt_val (pe_callB call_isiT (by rfl) T.n_isinstance (by decide +kernel) (pa_cons (pv 1) (pa_cons (pe_tup (pa_cons (pe_bltn (v := .ty "list") (u := .type "list") (by rfl) T.n_list (by decide +kernel) rfl) (pa_cons (pe_bltn (v := .ty "tuple") (u := .type "tuple") (by rfl) T.n_tuple (by decide +kernel) rfl) pa_nil))) pa_nil))))) (pw_or1 (pt_cmpR op_gt (pe_callB call_len_seq (by rfl) T.n_len (by decide +kernel) (pa_cons (pv 1) pa_nil)) (pe_gint T.c_MOST_COLUMNS) (nomark _)))))
        (pss_one (ps_raise rfl (takes_of rfl rfl rfl rfl) (pmk_fld T.o_BadBox T.i_BadBox T.t_BadBox G_BadBox (hr.mono (by decide)) b_BadBox pass0 T.g_BadBox (by decide) (pa_cons pe_str (pa_cons pe_int pa_nil)) (fun _ _ _ _ h z => h _ _ z))))
        pss_nil)
      (pss_cons (ps_if (PW.pt (pw_or (pt_not (pt_val (pe_callB call_isiT (by rfl) T.n_isinstance (by decide +kernel) (pa_cons (pv 2) (pa_cons (pe_tup (pa_cons (pe_bltn (v := .ty "list") (u := .type "list") (by rfl) T.n_list (by decide +kernel) rfl) (pa_cons (pe_bltn (v := .ty "tuple") (u := .type "tuple") (by rfl) T.n_tuple (by decide +kernel) rfl) pa_nil))) pa_nil))))) (pw_or1 (pt_cmpR op_ne (pe_callB call_len_seq (by rfl) T.n_len (by decide +kernel) (pa_cons (pv 2) pa_nil)) (pe_callB call_len_seq (by rfl) T.n_len (by decide +kernel) (pa_cons (pv 1) pa_nil)) (nomark _)))))
        (pss_one (ps_raise rfl (takes_of rfl rfl rfl rfl) (pmk_fld T.o_BadBox T.i_BadBox T.t_BadBox G_BadBox (hr.mono (by decide)) b_BadBox pass0 T.g_BadBox (by decide) (pa_cons pe_str (pa_cons pe_int pa_nil)) (fun _ _ _ _ h z => h _ _ z))))
        pss_nil)
      (pss_cons (ps_for (passes_of rfl) rfl (pi_range1 (by rfl) T.n_range (pa_cons (pe_callB call_len_seq (by rfl) T.n_len (by decide +kernel) (pa_cons (pv 1) pa_nil)) pa_nil)) (pg_name (i := 3) sc_Box___init__.nd rfl (Or.inl rfl))
        (pss_cons (ps_if (pt_not (pt_val (pe_cal C_is_whole (hr.mono (by decide)) pass0 (pa_cons (pe_ix ix_seq (pv 1) (pv 3) (fun _ _ => rfl)) (pa_cons pe_int (pa_cons (pe_op op_sub (pe_gint T.c_HIGHEST) pe_int) pa_nil))))))
          (pss_one (ps_raise rfl (takes_of rfl rfl rfl rfl) (pmk_fld T.o_BadBox T.i_BadBox T.t_BadBox G_BadBox (hr.mono (by decide)) b_BadBox pass0 T.g_BadBox (by decide) (pa_cons pe_str (pa_cons (pv 3) pa_nil)) (fun _ _ _ _ h z => let ⟨v1, e1, z⟩ := z; ⟨v1, e1, h _ _ z⟩))))
          pss_nil)
        (pss_one (ps_if (pt_not (pt_val (pe_cal C_is_whole (hr.mono (by decide)) pass0 (pa_cons (pe_ix ix_seq (pv 2) (pv 3) (fun _ _ => rfl)) (pa_cons (pe_op op_add (pe_ix ix_seq (pv 1) (pv 3) (fun _ _ => rfl)) pe_int) (pa_cons (pe_gint T.c_HIGHEST) pa_nil))))))
          (pss_one (ps_raise rfl (takes_of rfl rfl rfl rfl) (pmk_fld T.o_BadBox T.i_BadBox T.t_BadBox G_BadBox (hr.mono (by decide)) b_BadBox pass0 T.g_BadBox (by decide) (pa_cons pe_str (pa_cons (pv 3) pa_nil)) (fun _ _ _ _ h z => let ⟨v1, e1, z⟩ := z; ⟨v1, e1, h _ _ z⟩))))
          pss_nil))))
      (pss_cons (ps_fld (pv 0) (pe_callTy call_tupOf (by rfl) T.n_tuple (by decide +kernel) (pa_cons (pv 1) pa_nil)) rfl)
      (pss_cons (ps_fld (pv 0) (pe_callTy call_tupOf (by rfl) T.n_tuple (by decide +kernel) (pa_cons (pv 2) pa_nil)) rfl)
      (pss_cons (ps_fld (pv 0) (pe_tup (pa_cons (pe_fld (pv 0) rfl) (pa_cons (pe_fld (pv 0) rfl) pa_nil))) rfl)
      (pss_cons (ps_fld (pv 0) pe_int rfl)
      (pss_one (ps_for (passes_of rfl) rfl (pi_zipA (by rfl) T.n_zip (pa_cons (pe_fld (pv 0) rfl) (pa_cons (pe_fld (pv 0) rfl) pa_nil))) (pg_tup rfl (pgs_cons (pg_name (i := 4) sc_Box___init__.nd rfl (Or.inl rfl)) (pgs_cons (pg_name (i := 5) sc_Box___init__.nd rfl (Or.inl rfl)) pgs_nil)))
        (pss_one (ps_fld (pv 0) (pe_op op_mul (pe_fld (pv 0) rfl) (pe_op op_sub (pv 5) (pv 4))) rfl))))))))))), ?_⟩
    have rl0 := rg.len
    have n1 : (lz.map V.int).length = lz.length := List.length_map ..
    have n2 : (hz.map V.int).length = lz.length := by rw [List.length_map, rl0]
    refine ⟨_, rfl, (by show 2 ≤ sizeLine; decide), fun p1 np1 => ?_⟩
    have s1 := same_new (o := HO.tup [V.ty "list", V.ty "tuple"]) np1
    obtain ⟨T1, ty1, z1⟩ := sq_ty (sq1.same s1)
    refine ⟨_, p1, _, _, _, _, rfl, upd_same, .cons (.ty _) (.cons (.ty _) .nil), ty1, z1, _, rfl, iteF ?_⟩
    refine ⟨_, rfl, _, _, rfl, sq1.same s1, _, _, rfl, rfl, _, rfl, ite2 (fun c => ?_) (fun c => ?_)⟩
    · rw [n1] at c
      have := of_decide_eq_true c
      omega
    generalize hH1 : upd H p1 (HO.tup [V.ty "list", V.ty "tuple"]) = H1 at s1 ⊢
    refine ⟨_, rfl, (by show 2 ≤ sizeLine; decide), fun p2 np2 => ?_⟩
    have s2 := s1.trans (same_new (o := HO.tup [V.ty "list", V.ty "tuple"]) np2)
    obtain ⟨T2, ty2, z2⟩ := sq_ty (sq2.same s2)
    refine ⟨_, p2, _, _, _, _, rfl, upd_same, .cons (.ty _) (.cons (.ty _) .nil), ty2, z2, _, rfl, iteF ?_⟩
    generalize hH2 : upd H1 p2 (HO.tup [V.ty "list", V.ty "tuple"]) = H2 at s2 ⊢
    refine ⟨_, rfl, _, _, rfl, sq2.same s2, _, rfl, _, _, rfl, sq1.same s2, rfl, _, rfl, ite2 (fun c => ?_) (fun c => ?_)⟩
    · rw [n1, n2] at c
      simp at c
    clear c
    -- the columns, one by one
    refine ⟨_, rfl, _, _, rfl, sq1.same s2, (lz.length : Int), (by rw [n1]), by omega, by omega, ?_⟩
    rw [Int.toNat_natCast]
    refine for_range (lo := 0) (n := lz.length) (fun i σ H' => (∃ v3, σ = [some (.ref y), some (.ref a1), some (.ref a2), v3, none, none]) ∧ Same H H') ⟨⟨none, rfl⟩, s2⟩ ?_ ?_
    · rintro i σ H' hi ⟨⟨v3, rfl⟩, sm⟩
      have hi2 : i < hz.length := by omega
      have g1 : (lz.map V.int)[i]? = some (.int lz[i]) := by rw [List.getElem?_map, List.getElem?_eq_getElem hi]; rfl
      have g2 : (hz.map V.int)[i]? = some (.int hz[i]) := by rw [List.getElem?_map, List.getElem?_eq_getElem hi2]; rfl
      have ra := rg.at (List.getElem?_eq_getElem hi) (List.getElem?_eq_getElem hi2)
      have ai1 : atI (lz.map V.int) ((0 : Int) + (i : Int)) = some (.int lz[i]) := by rw [Int.zero_add]; exact atI_nat g1
      have ai2 : atI (hz.map V.int) ((0 : Int) + (i : Int)) = some (.int hz[i]) := by rw [Int.zero_add]; exact atI_nat g2
      refine ⟨_, rfl, _, rfl, rix_of (sq1.same sm) ai1 ?_⟩
      refine ⟨_, _, rfl, rfl, _, 0, 63, _, rfl, .int _, _, rfl, ?_⟩
      have w1 : wholeV (.int lz[i]) 0 63 = true := by
        show (decide (0 ≤ lz[i]) && decide (lz[i] ≤ 63)) = true
        rw [decide_eq_true ra.1, decide_eq_true (show lz[i] ≤ 63 by omega)]
        rfl
      rw [w1]
      refine iteF ⟨_, rfl, _, rfl, rix_of (sq2.same sm) ai2 ?_⟩
      refine ⟨_, rfl, _, rfl, rix_of (sq1.same sm) ai1 ?_⟩
      refine ⟨lz[i], 1, rfl, rfl, _, lz[i] + 1, 64, _, rfl, .int _, _, rfl, ?_⟩
      have w2 : wholeV (.int hz[i]) (lz[i] + 1) 64 = true := by
        show (decide (lz[i] + 1 ≤ hz[i]) && decide (hz[i] ≤ 64)) = true
        rw [decide_eq_true (show lz[i] + 1 ≤ hz[i] by omega), decide_eq_true ra.2.2]
        rfl
      rw [w2]
      exact iteF ⟨⟨_, rfl⟩, sm⟩
    · rintro σ H' ⟨⟨v3, rfl⟩, sm⟩
      have hy1 := sm _ _ hy
      -- self.lows = tuple(lows)
      refine ⟨_, rfl, ?_⟩
      refine tupOf_of (sq1.same sm) fun tl Ha ql sa _ => ?_
      refine ⟨_, rfl, y, _, dy, _, rfl, sa _ _ hy1, T.cls_Box, T.noat_Box_lows, by decide, ?_⟩
      have sba : ∀ b o, b ≠ y → H b = some o → upd Ha y (.ins (He.ga K "Box") dy (putF "lows" (.ref tl) [])) b = some o := fun b o n e => by
        rw [upd_ne n]
        exact sa _ _ (sm _ _ e)
      have sq2a : Sq K (upd Ha y (.ins (He.ga K "Box") dy (putF "lows" (.ref tl) []))) a2 (hz.map V.int) := sq_but sq2 hy sba
      have ql1 := sqT_ins (C' := He.ga K "Box") (dy' := dy) (fs' := putF "lows" (.ref tl) []) ql (sa _ _ hy1)
      -- self.highs = tuple(highs)
      refine ⟨_, rfl, ?_⟩
      refine tupOf_of sq2a fun th Hb qh sb _ => ?_
      refine ⟨_, rfl, y, _, dy, _, rfl, sb _ _ upd_same, T.cls_Box, T.noat_Box_highs, Nat.lt_of_le_of_lt (length_putF _ _ _) (by decide), ?_⟩
      have hyb := sb _ _ (upd_same (H := Ha) (a := y) (o := .ins (He.ga K "Box") dy (putF "lows" (.ref tl) [])))
      have ql2 := sqT_ins (C' := He.ga K "Box") (dy' := dy) (fs' := putF "highs" (.ref th) (putF "lows" (.ref tl) [])) (sqT_same sb ql1) hyb
      have qh2 := sqT_ins (C' := He.ga K "Box") (dy' := dy) (fs' := putF "highs" (.ref th) (putF "lows" (.ref tl) [])) qh hyb
      generalize hHc : upd Hb y (.ins (He.ga K "Box") dy (putF "highs" (.ref th) (putF "lows" (.ref tl) []))) = Hc at ql2 qh2 ⊢
      have hyc : Hc y = some (.ins (He.ga K "Box") dy (putF "highs" (.ref th) (putF "lows" (.ref tl) []))) := by rw [← hHc, upd_same]
      have sbc : ∀ b o, b ≠ y → H b = some o → Hc b = some o := fun b o n e => by
        rw [← hHc, upd_ne n]
        exact sb _ _ (sba b o n e)
      have l2 : (putF "highs" (V.ref th) (putF "lows" (.ref tl) [])).length ≤ 2 := Nat.le_trans (length_putF _ _ _) (Nat.succ_le_succ (length_putF _ _ _))
      -- self.told = (self.lows, self.highs)
      refine ⟨_, rfl, y, _, dy, _, _, rfl, hyc, T.cls_Box, T.noat_Box_lows, by rw [lookup_putF, if_neg (by decide +kernel), lookup_putF, if_pos rfl], _, rfl, y, _, dy, _, _, rfl, hyc, T.cls_Box, T.noat_Box_highs, by rw [lookup_putF, if_pos rfl], (by show 2 ≤ sizeLine; decide), fun tt nt => ?_⟩
      have st := same_new (o := HO.tup [V.ref tl, V.ref th]) nt
      refine ⟨_, rfl, y, _, dy, _, rfl, st _ _ hyc, T.cls_Box, T.noat_Box_told, by omega, ?_⟩
      have l3 : (putF "told" (V.ref tt) (putF "highs" (V.ref th) (putF "lows" (.ref tl) []))).length ≤ 3 := Nat.le_trans (length_putF _ _ _) (Nat.succ_le_succ l2)
      have l4 : (putF "size" (V.int 1) (putF "told" (V.ref tt) (putF "highs" (V.ref th) (putF "lows" (.ref tl) [])))).length ≤ 4 := Nat.le_trans (length_putF _ _ _) (Nat.succ_le_succ l3)
      -- self.size = 1
      refine ⟨_, rfl, y, _, dy, _, rfl, upd_same, T.cls_Box, T.noat_Box_size, by omega, ?_⟩
      rw [upd_upd]
      have bfs := boxFs_new tl th tt 1
      generalize putF "size" (V.int 1) (putF "told" (V.ref tt) (putF "highs" (V.ref th) (putF "lows" (.ref tl) []))) = fs at l4 bfs ⊢
      have ql3 := sqT_ins (C' := He.ga K "Box") (dy' := dy) (fs' := fs) (sqT_same st ql2) (st _ _ hyc)
      have qh3 := sqT_ins (C' := He.ga K "Box") (dy' := dy) (fs' := fs) (sqT_same st qh2) (st _ _ hyc)
      have qt3 : SqT K (upd (upd Hc tt (HO.tup [V.ref tl, V.ref th])) y (.ins (He.ga K "Box") dy fs)) tt [V.ref tl, V.ref th] := sqT_ins (SqT.of upd_same) (st _ _ hyc)
      -- for low, high in zip(self.lows, self.highs)
      refine ⟨_, rfl, y, _, dy, _, _, rfl, upd_same, T.cls_Box, T.noat_Box_lows, bfs.lows, _, rfl, y, _, dy, _, _, rfl, upd_same, T.cls_Box, T.noat_Box_highs, bfs.highs, tl, th, lz.map V.int, hz.map V.int, rfl, .inr ⟨ql3, qh3, ?_⟩⟩
      have rl := rg.len
      refine for_zipT (K := K) (a := tl) (b := th) (xs := lz.map V.int) (ys := hz.map V.int) (by rw [List.length_map, List.length_map, rl]) (fun i σ Hx => ∃ v4 v5 fs, σ = [some (.ref y), some (.ref a1), some (.ref a2), v3, v4, v5] ∧ (∀ b o, b ≠ y → H b = some o → Hx b = some o) ∧ Hx y = some (.ins (He.ga K "Box") dy fs) ∧ fs.length ≤ 4 + i ∧
        BoxFs fs tl th tt (boxSize lz hz i) ∧ SqT K Hx tl (lz.map V.int) ∧ SqT K Hx th (hz.map V.int) ∧ SqT K Hx tt [V.ref tl, V.ref th]) ⟨none, none, fs, rfl, fun b o n e => ?_, upd_same, by omega, bfs, ql3, qh3, qt3⟩ (fun i σ Hx h => ?_) ?_ ?_
      · rw [upd_ne n]
        exact st _ _ (sbc b o n e)
      · obtain ⟨_, _, _, _, _, _, _, _, h1, h2, _⟩ := h
        exact ⟨h1, h2⟩
      · rintro i x z Tp σ Hx hx hz' ⟨v4, v5, fs, rfl, keep, hyx, hfl, bf', qa, qb, qc⟩ nT
        have hi : i < lz.length := by
          have := (List.getElem?_eq_some_iff.mp hx).1
          rwa [List.length_map] at this
        have hi2 : i < hz.length := by omega
        obtain rfl : x = V.int lz[i] := by
          rw [List.getElem?_map, List.getElem?_eq_getElem hi] at hx
          exact (Option.some.inj hx).symm
        obtain rfl : z = V.int hz[i] := by
          rw [List.getElem?_map, List.getElem?_eq_getElem hi2] at hz'
          exact (Option.some.inj hz').symm
        have sT := same_new (o := HO.tup [V.int lz[i], V.int hz[i]]) nT
        refine ⟨Tp, _, rfl, SqT.of upd_same, rfl, _, _, rfl, _, _, rfl, rfl, ?_⟩
        obtain ⟨g1, g2⟩ := size_le rg i (by omega)
        have g3 : boxSize lz hz i ≤ 64 ^ 5 := Int.le_trans g2 (by
          have : i ≤ 5 := by omega
          match i, this with
          | 0, _ => decide
          | 1, _ => decide
          | 2, _ => decide
          | 3, _ => decide
          | 4, _ => decide
          | 5, _ => decide)
        refine ⟨_, rfl, y, _, dy, fs, _, rfl, sT _ _ hyx, T.cls_Box, T.noat_Box_size, bf'.size, _, rfl, _, rfl, _, _, rfl, rfl, _, _, rfl, rfl, .inl ⟨by omega, by omega⟩, ?_⟩
        refine ⟨_, rfl, y, _, dy, fs, rfl, sT _ _ hyx, T.cls_Box, T.noat_Box_size, by omega, ?_⟩
        refine ⟨_, _, _, rfl, fun b o n e => ?_, upd_same, Nat.le_trans (length_putF _ _ _) (by omega), ?_, sqT_ins (sqT_same sT qa) (sT _ _ hyx), sqT_ins (sqT_same sT qb) (sT _ _ hyx), sqT_ins (sqT_same sT qc) (sT _ _ hyx)⟩
        · rw [upd_ne n]
          exact sT _ _ (keep b o n e)
        · have e : boxSize lz hz (i + 1) = boxSize lz hz i * (hz[i] - lz[i]) := by
            show boxSize lz hz i * (hz.getD i 0 - lz.getD i 0) = _
            rw [List.getD_eq_getElem?_getD, List.getD_eq_getElem?_getD, List.getElem?_eq_getElem hi, List.getElem?_eq_getElem hi2]
            rfl
          rw [e]
          exact bf'.put
      · rintro σ Hx ⟨v4, v5, fs, rfl, keep, hyx, hfl, bf', qa, qb, qc⟩
        rw [List.length_map] at hfl bf'
        exact kQ Hx keep ⟨dy, tl, th, tt, fs, hyx, ⟨by omega, bf'.holds⟩, bf'.lows, bf'.highs, bf'.told, bf'.size, qa, qb, qc⟩

end
end K07

set_option maxRecDepth 100000
set_option maxHeartbeats 4000000
/-! Small things that may stand in rows and lists, and what repr shows of them. -/
namespace Q
open PySem PySem.Spec PyProof.Rows L2
/-- data that repr shows in little room -/
structure Sm (d : PyData) (w : Nat) : Prop where
  sh : d.showable = true
  nd : d.hasDict = false
  dp : d.depth ≤ 1
  ls : d.leavesShort 60 = true
  wt : d.weight ≤ w
/-- data that repr shows -/
structure Shw (d : PyData) : Prop where
  sh : d.showable = true
  nd : d.hasDict = false
  dp : d.depth ≤ 60
  ln : d.shown.length ≤ sizeLine
theorem Sm.shw {d : PyData} {w : Nat} (h : Sm d w) (hw : w ≤ 100000) : Shw d := by
  have e := PyData.shown_le 60 (by decide) _ h.ls
  have := h.wt
  have := h.dp
  exact ⟨h.sh, h.nd, by omega, by rw [sizeLine_eq]; omega⟩
def smB (x : Str) : Bool := (PyData.str x).showable && ((PyData.str x).leavesShort 60 && decide ((PyData.str x).weight ≤ 200))
theorem sm_str {x : Str} (h : smB x = true) : Sm (.str x) 200 := by
  have z : ((PyData.str x).showable && ((PyData.str x).leavesShort 60 && decide ((PyData.str x).weight ≤ 200))) = true := h
  rw [Bool.and_eq_true, Bool.and_eq_true] at z
  exact ⟨z.1, rfl, Nat.zero_le _, z.2.1, of_decide_eq_true z.2.2⟩
theorem sm_int {i : Int} (h : i.natAbs < 10 ^ 40) : Sm (.int i) 200 := by
  have h1 : i.natAbs.log2 < 134 := PySem.Flt.log2_lt_of (by decide) (Nat.lt_of_lt_of_le h (by decide))
  refine ⟨?_, rfl, Nat.zero_le _, ?_, ?_⟩
  · show decide (i.natAbs.log2 < 1920) = true
    exact decide_eq_true (by omega)
  · have e := int_text_length_le10 (a := i) (k := 40) (by decide) h
    have e2 : (PyData.shown (.int i)).length = (toString i).length := PySem.ofString_length _
    exact decide_eq_true (by omega)
  · show (if i == 0 then 0 else i.natAbs.log2 + 1) ≤ 200
    split <;> omega
/-- what may stand in a row -/
inductive Odd (H : Hp) : V → Prop
  | non : Odd H .non
  | bl (b : Bool) : Odd H (.bl b)
  | str (x : Str) (h : smB x = true) : Odd H (.str x)
  | int (i : Int) (h : i.natAbs < 10 ^ 40) : Odd H (.int i)
  | tup {t : Addr} (n : Int) (h : n.natAbs < 10 ^ 40) (e : H t = some (.tup [.int n])) : Odd H (.ref t)
theorem Odd.kn {H : Hp} {v : V} (h : Odd H v) : ∃ T, Kn H v T := by
  cases h with
  | non => exact ⟨_, .non⟩
  | bl b => exact ⟨_, .bl b⟩
  | str x _ => exact ⟨_, .str _⟩
  | int i _ => exact ⟨_, .int i⟩
  | tup _ _ e => exact ⟨_, .tup e⟩
theorem Odd.keep {H H' : Hp} {v : V} (h : Odd H v) (k : ∀ t xs, H t = some (.tup xs) → H' t = some (.tup xs)) : Odd H' v := by
  cases h with
  | non => exact .non
  | bl b => exact .bl b
  | str x h => exact .str x h
  | int i h => exact .int i h
  | tup n h e => exact .tup n h (k _ _ e)
theorem Odd.same {H H' : Hp} {v : V} (h : Odd H v) (k : Same H H') : Odd H' v := h.keep fun t xs e => k _ _ e
theorem Odd.kb {H H' : Hp} {b c : Addr} {n : Int} {v : V} (h : Odd H v) (B : BagAt H b c n) (k : Kb b H H') : Odd H' v := h.keep fun t xs e => k t _ (fun z => by
  obtain ⟨ns, p, r, kk, m, h1, _⟩ := B
  rw [z, h1] at e
  cases e) e
theorem Odd.dat {K : PySem.W.Frag} {H : Hp} {v : V} (h : Odd H v) : ∃ d, Dp K H v d ∧ Sm d 200 := by
  cases h with
  | non => exact ⟨_, .non, by decide, by decide, by decide, by decide, by decide⟩
  | bl b => exact ⟨_, .bl b, by cases b <;> decide, by cases b <;> decide, by cases b <;> decide, by cases b <;> decide, by cases b <;> decide⟩
  | str x h => exact ⟨_, .str _, sm_str h⟩
  | int i h => exact ⟨_, .int i, sm_int h⟩
  | tup n h e =>
    have s := sm_int h
    refine ⟨.tuple [.int n], .tup (SqT.of e) (.cons (.int n) .nil), ?_, rfl, Nat.le_refl _, ?_, ?_⟩
    · show ((PyData.int n).showable && true) = true
      rw [s.sh]
      rfl
    · show ((PyData.int n).leavesShort 60 && true) = true
      rw [s.ls]
      rfl
    · show PyData.weightAll [.int n] ≤ 200
      have e1 : PyData.weightAll [.int n] = (PyData.int n).weight + 1 + 0 := rfl
      have h1 : n.natAbs.log2 < 134 := PySem.Flt.log2_lt_of (by decide) (Nat.lt_of_lt_of_le h (by decide))
      have e2 : (PyData.int n).weight ≤ 135 := by
        show (if n == 0 then 0 else n.natAbs.log2 + 1) ≤ 135
        split <;> omega
      omega
theorem odds_dat {K : PySem.W.Frag} {H : Hp} : ∀ {xs : List V}, (∀ x ∈ xs, Odd H x) → ∃ ds, DpAll K H xs ds ∧ PyData.showableAll ds = true ∧ PyData.hasDictAll ds = false ∧ PyData.depthAll ds ≤ 1 ∧ PyData.leavesShortAll 60 ds = true ∧ PyData.weightAll ds ≤ 201 * xs.length
  | [], _ => ⟨[], .nil, rfl, rfl, Nat.zero_le _, rfl, Nat.zero_le _⟩
  | x :: xs, h => by
    obtain ⟨d, D, S⟩ := (h x List.mem_cons_self).dat (K := K)
    obtain ⟨ds, E, e1, e2, e3, e4, e5⟩ := odds_dat (K := K) fun y hy => h y (List.mem_cons_of_mem _ hy)
    refine ⟨d :: ds, .cons D E, ?_, ?_, ?_, ?_, ?_⟩
    · show (d.showable && PyData.showableAll ds) = true
      rw [S.sh, e1]
      rfl
    · show (d.hasDict || PyData.hasDictAll ds) = false
      rw [S.nd, e2]
      rfl
    · exact Nat.max_le.mpr ⟨S.dp, e3⟩
    · show (d.leavesShort 60 && PyData.leavesShortAll 60 ds) = true
      rw [S.ls, e4]
      rfl
    · show d.weight + 1 + PyData.weightAll ds ≤ 201 * (xs.length + 1)
      have := S.wt
      omega
/-- a list or a tuple of such things, or one of them: what a caller hands in -/
inductive Arg (H : Hp) : V → Prop
  | one {v : V} (h : Odd H v) : Arg H v
  | lst {a : Addr} {xs : List V} (e : H a = some (.lst xs)) (h : ∀ x ∈ xs, Odd H x) (n : xs.length ≤ 100) : Arg H (.ref a)
  | tup {a : Addr} {xs : List V} (e : H a = some (.tup xs)) (h : ∀ x ∈ xs, Odd H x) (n : xs.length ≤ 100) : Arg H (.ref a)
theorem Arg.kn {H : Hp} {v : V} (h : Arg H v) : (∃ T, Kn H v T) ∧ Itm H v := by
  have io : ∀ {a : Addr} {xs : List V}, seqOf H (.ref a) = some xs → (∀ x ∈ xs, Odd H x) → Itm H (.ref a) := fun e h ys hy x m => by
    rw [e] at hy
    cases hy
    exact (h x m).kn
  cases h with
  | one h =>
    refine ⟨h.kn, ?_⟩
    cases h with
    | tup n hn e =>
      refine io (xs := [.int n]) (seqOf_tup e) fun x m => ?_
      obtain rfl := List.mem_singleton.mp m
      exact .int n hn
    | _ => exact Itm.none rfl
  | lst e h _ => exact ⟨⟨_, .lst e⟩, io (seqOf_lst e) h⟩
  | tup e h _ => exact ⟨⟨_, .tup e⟩, io (seqOf_tup e) h⟩
theorem Arg.dat {K : PySem.W.Frag} {H : Hp} {v : V} (h : Arg H v) : ∃ d, Dp K H v d ∧ Shw d := by
  have sq : ∀ {xs : List V} {ds : List PyData} {d : PyData}, xs.length ≤ 100 → (d = .list ds ∨ d = .tuple ds) → PyData.showableAll ds = true → PyData.hasDictAll ds = false → PyData.depthAll ds ≤ 1 → PyData.leavesShortAll 60 ds = true → PyData.weightAll ds ≤ 201 * xs.length → Shw d := fun {xs ds d} n e e1 e2 e3 e4 e5 => by
    have ls : d.leavesShort 60 = true := by rcases e with rfl | rfl <;> exact e4
    have w : d.weight = PyData.weightAll ds := by rcases e with rfl | rfl <;> rfl
    have dp : d.depth = PyData.depthAll ds + 1 := by rcases e with rfl | rfl <;> rfl
    have l := PyData.shown_le 60 (by decide) _ ls
    exact ⟨by rcases e with rfl | rfl <;> exact e1, by rcases e with rfl | rfl <;> exact e2, by omega, by rw [sizeLine_eq]; omega⟩
  cases h with
  | one h =>
    obtain ⟨d, D, s⟩ := h.dat (K := K)
    exact ⟨d, D, s.shw (by decide)⟩
  | lst e h n =>
    obtain ⟨ds, D, e1, e2, e3, e4, e5⟩ := odds_dat (K := K) h
    exact ⟨_, .lst (SqL.of e) D, sq n (.inl rfl) e1 e2 e3 e4 e5⟩
  | tup e h n =>
    obtain ⟨ds, D, e1, e2, e3, e4, e5⟩ := odds_dat (K := K) h
    exact ⟨_, .tup (SqT.of e) D, sq n (.inr rfl) e1 e2 e3 e4 e5⟩
theorem Arg.same {H H' : Hp} {v : V} (h : Arg H v) (k : Same H H') : Arg H' v := by
  cases h with
  | one h => exact .one (h.same k)
  | lst e h n => exact .lst (k _ _ e) (fun x m => (h x m).same k) n
  | tup e h n => exact .tup (k _ _ e) (fun x m => (h x m).same k) n
theorem ty_sqT {K : PySem.W.Frag} {H : Hp} {a : Addr} {xs : List V} (h : SqT K H a xs) : TyX K H (.ref a) (.type "tuple") := by
  rcases h with (h | ⟨o, h⟩) | ⟨o, its, n, h1, h2, _⟩
  · exact .base (.tup h)
  · exact .fTuple h
  · exact .kTuple h1 h2
end Q

set_option maxRecDepth 100000
set_option maxHeartbeats 4000000
namespace K07
open PySem PySem.Spec PyProof.Rows L2 Q RZ
section
variable {P : Program} {w : World} {K : PySem.W.Frag} {mg : Str → Option Value} {base : Heap} {f : Addr} {fd : FuncData}
theorem BoxAt.nl {K : PySem.W.Frag} {H H' : Hp} {y : Addr} {lz hz : List Int} (k : NL H H') (h : BoxAt K H y lz hz) : BoxAt K H' y lz hz := by
  obtain ⟨dy, tl, th, tt, fs, g1, g2, g3, g4, g5, g6, g7, g8, g9⟩ := h
  exact ⟨dy, tl, th, tt, fs, k.ins g1, g2, g3, g4, g5, g6, k.sqT g7, k.sqT g8, k.sqT g9⟩
def cutD (c : List Int × List Int) : PyData := .tuple [.tuple (c.1.map PyData.int), .tuple (c.2.map PyData.int)]
theorem cutD_depth (c : List Int × List Int) : (cutD c).depth ≤ 60 := by
  have : (cutD c).depth = 2 := by
    unfold cutD
    simp [PyData.depth, PyData.depthAll, PySem.W.depth_ints]
  omega
/-- a couple of rows of whole numbers -/
def CpAt (K : PySem.W.Frag) (H : Hp) (v : V) (c : List Int × List Int) : Prop := ∃ t tl th, v = .ref t ∧ H t = some (.tup [.ref tl, .ref th]) ∧ SqT K H tl (c.1.map V.int) ∧ SqT K H th (c.2.map V.int)
theorem CpAt.nl {H H' : Hp} {v : V} {c : List Int × List Int} (k : NL H H') (h : CpAt K H v c) : CpAt K H' v c := by
  obtain ⟨t, tl, th, e, h1, h2, h3⟩ := h
  exact ⟨t, tl, th, e, k.tup h1, k.sqT h2, k.sqT h3⟩
theorem CpAt.dp {H : Hp} {v : V} {c : List Int × List Int} (h : CpAt K H v c) : Dp K H v (cutD c) := by
  obtain ⟨t, tl, th, rfl, h1, h2, h3⟩ := h
  exact .tup (SqT.of h1) (.cons (dp_ints h2) (.cons (dp_ints h3) .nil))
/-- such couples in a row -/
def Cps (K : PySem.W.Frag) (H : Hp) (vs : List V) (cs : List (List Int × List Int)) : Prop := Paired (fun v c => CpAt K H v c) vs cs
theorem Cps.nl {H H' : Hp} {vs : List V} {cs : List (List Int × List Int)} (k : NL H H') (h : Cps K H vs cs) : Cps K H' vs cs := Paired.mapP h fun _ _ z => z.nl k
theorem Cps.snoc {H : Hp} {vs : List V} {cs : List (List Int × List Int)} {v : V} {c : List Int × List Int} (h : Cps K H vs cs) (a : CpAt K H v c) : Cps K H (vs ++ [v]) (cs ++ [c]) := Paired.snoc h a

/-- a box, by its rows -/
def BoxV (K : PySem.W.Frag) (H : Hp) (v : V) (c : List Int × List Int) : Prop := ∃ y, v = .ref y ∧ BoxAt K H y c.1 c.2
theorem BoxV.nl {H H' : Hp} {v : V} {c : List Int × List Int} (k : NL H H') (h : BoxV K H v c) : BoxV K H' v c := by
  obtain ⟨y, e, b⟩ := h
  exact ⟨y, e, b.nl k⟩
/-- _law_told of a tuple of boxes -/
def spTold (K : PySem.W.Frag) : Sp := fun vs H Q _ => ∃ (t : Addr) (ys : List V) (cs : List (List Int × List Int)), vs = [.ref t] ∧ SqT K H t ys ∧ Paired (BoxV K H) ys cs ∧ cs.length ≤ 5000 ∧ ∀ l us H', H l = none → L2.Same H H' → H' l = some (.lst us) → Cps K H' us cs → Q (.ref l) H'
theorem C__law_told (T : Tx K mg) : Cal P w K mg base CX0 1 "_law_told" ["place"] [] (spTold K) := by
  obtain ⟨fd, F⟩ := T.d__law_told
  refine ⟨_, fd, [], F.ok sc__law_told (fun vs H Q E h => ?_) (fun cdv A outer s H vs Q E hr h => ?_), T.g__law_told, F.kp, F.bindsN fun _ _ _ _ _ _ us hl => match us, hl with | [_], _ => rfl, .nil⟩
  · obtain ⟨t, ys, cs, rfl, _⟩ := h
    rfl
  · obtain ⟨t, ys, cs, rfl, ht, pb, len, kQ⟩ := h
    refine ⟨_, PSs.nox (pss_cons (ps_if (pt_not (pt_val (pe_callB call_isi (by rfl) T.n_isinstance (by decide +kernel) (pa_cons (pv 0) (pa_cons (pe_bltn (v := .ty "tuple") (u := .type "tuple") (by rfl) T.n_tuple (by decide +kernel) rfl) pa_nil)))))
        (pss_one (ps_ret pe_non))
        pss_nil)
      (pss_cons (ps_set (i := 1) sc__law_told.nd rfl (Or.inl rfl) (pe_lst pa_nil))
      (pss_cons (ps_for PassesOwn.never rfl (pi_seq (pv 0)) (pg_name (i := 2) sc__law_told.nd rfl (Or.inl rfl))
        (pss_cons (ps_if (pt_not (pt_val (pe_callB call_isi (by rfl) T.n_isinstance (by decide +kernel) (pa_cons (pv 2) (pa_cons (pe_glob (v := .ref (He.ga K "Box")) rfl T.g_Box rfl) pa_nil)))))
          (pss_one (ps_ret pe_non))
          pss_nil)
        (pss_one (ps_expr (pe_bm PySem.F.plainAttrs_list PySem.F.slot_list_append PySem.F.type_list_append mt_append (pv 1) (pa_cons (pe_tup (pa_cons (pe_fld (pv 2) rfl) (pa_cons (pe_fld (pv 2) rfl) pa_nil))) pa_nil))))))
      (pss_one (ps_ret (pv 1)))))), ?_⟩
    have big : 20000 < sizeLine := by decide
    have ktt : PySem.W.kitOne K (.type "tuple") (.type "tuple") = some true := kit_ty (by decide +kernel)
    have ly := paired_len pb
    refine ⟨_, rfl, _, _, _, _, _, rfl, .ty _, ty_sqT ht, ktt, _, rfl, iteF ?_⟩
    refine ⟨Nat.zero_le _, fun D nD => ?_⟩
    generalize hq_ : L2.upd H D _ = H1
    obtain ⟨s1, o1⟩ := _root_.Q.nwS nD hq_
    clear hq_
    refine ⟨_, rfl, t, ys, false, rfl, sqT_same s1 ht, ?_⟩
    refine for_seq (k := false) (xs := ys) (fun i σ H' => (∃ v2, σ = [some (.ref t), some (.ref D), v2]) ∧ L2.Same H H' ∧ ∃ us, H' D = some (.lst us) ∧ Cps K H' us (cs.take i)) ⟨⟨none, rfl⟩, s1, [], o1, .nil⟩ (fun i σ H' _ q => sqT_same q.2.1 ht) ?_ ?_
    · rintro i x σ H' e ⟨⟨v2, rfl⟩, sm, us, hD, hC⟩
      have hi : i < cs.length := by
        have := (List.getElem?_eq_some_iff.mp e).1
        omega
      obtain ⟨x', ex, y, rfl, bx⟩ := paired_at pb i hi
      rw [e] at ex
      cases ex
      have bx := bx.nl (NL.same sm)
      obtain ⟨dy, tl, th, tt, fs, g1, g2, g3, g4, g5, g6, g7, g8, g9⟩ := id bx
      have lu := paired_len hC
      rw [List.length_take] at lu
      refine ⟨_, rfl, _, _, _, _, _, rfl, .own _, T.is_Box.ty T.cls_Box g1, T.kit_Box_Box, _, rfl, iteF ?_⟩
      refine ⟨_, rfl, .inl ⟨rfl, _, SqL.of hD⟩, _, rfl, y, _, dy, _, _, rfl, g1, T.cls_Box, T.noat_Box_lows, g3, _, rfl, y, _, dy, _, _, rfl, g1, T.cls_Box, T.noat_Box_highs, g4, (by show 2 ≤ sizeLine; omega), fun q nq => ?_⟩
      generalize hq_ : L2.upd H' q _ = H2
      obtain ⟨s2, o2⟩ := _root_.Q.nwS nq hq_
      clear hq_
      refine ⟨D, _, _, rfl, rfl, s2 _ _ hD, by omega, ?_⟩
      generalize hq_ : L2.upd H2 D _ = H3
      obtain ⟨u3, o3⟩ := _root_.Q.updS hq_
      clear hq_
      have nl3 := NL.put (s2 _ _ hD) u3
      have nl := (NL.same s2).trans nl3
      refine ⟨⟨_, rfl⟩, Same.put (sm.trans s2) nD u3, _, o3, ?_⟩
      rw [List.take_succ_eq_append_getElem hi]
      exact Cps.snoc (hC.nl nl) ⟨q, tl, th, rfl, nl3.tup o2, nl.sqT g7, nl.sqT g8⟩
    · rintro σ H' ⟨⟨v2, rfl⟩, sm, us, hD, hC⟩
      rw [ly, List.take_length] at hC
      exact ⟨_, rfl, kQ D us H' nD sm hD hC⟩

end
end K07

set_option maxRecDepth 100000
set_option maxHeartbeats 4000000
/-! Comprehensions over a tuple, by what its items stand for. -/
namespace Q
open PySem PySem.Spec PyProof.Rows L2
/-- over a tuple whose items stand for cs; no test -/
theorem lc_eachT {K : PySem.W.Frag} {a : Addr} {xs : List V} {γ δ : Type} {S : Hp → V → γ → Prop} {f : γ → δ} {cs : List γ} {R : Hp → V → δ → Prop} (keepR : ∀ H H' y c, NL H H' → R H y c → R H' y c) (keepS : ∀ H H' y c, NL H H' → S H y c → S H' y c)
    {g : TG} {te : TE} {vs : List Nat} {σ : L2.St} {H : Hp} {D : Addr} {Qd : Hp → Prop} (nD : H D = none) (hl : SqT K H a xs) (hp : Paired (S H) xs cs) (len : cs.length < sizeLine)
    (hs : ∀ (x : V) (c : γ) (H1 : Hp) (R' : V → Hp → Prop) (N : Hp → Prop), L2.Same H H1 → S H1 x c → (∀ y H3, L2.Same H1 H3 → R H3 y (f c) → R' y H3) →
      g x (wipe σ vs) H1 fun σ2 H3 => wipe σ2 vs = wipe σ vs ∧ tYes σ2 H3 fun b H4 => if b = true then te σ2 H4 R' else N H4)
    (hd : ∀ H' ys, L2.Same H H' → H' D = some (.lst ys) → Paired (R H') ys (cs.map f) → Qd H') :
    ∃ W : Nat → Nat → Hp → Prop, (∃ m, W 0 m (upd H D (.lst []))) ∧ ∀ i m H, W i m H →
      ((Itt K a).stop i H ∧ Qd H) ∨ ((Itt K a).go i H ∧ ∃ Nx : Hp → Prop, (∀ H', Nx H' → ∃ m', m' < m ∧ W (i + 1) m' H') ∧ ∀ x H', (Itt K a).yld i H x H' → g x (wipe σ vs) H' fun σ2 H2 => wipe σ2 vs = wipe σ vs ∧ tYes σ2 H2 fun b H3 =>
        if b = true then te σ2 H3 fun y H4 => ∃ acc, H4 D = some (.lst acc) ∧ acc.length < sizeLine ∧ Nx (upd H4 D (.lst (acc ++ [y]))) else Nx H3) := by
  refine lc_keep (walk_tup (xs := xs)) (cs := cs) (paired_len hp) (p := fun _ => true) (R := fun H y c => R H y (f c)) (fun H H' y c => keepR H H' y (f c)) nD len (fun H' s => sqT_same s hl) yat_same (fun i x H1 H2 R' N hi s y k1 k2 => ?_) fun H' ys s e q => hd H' ys s e ?_
  · obtain ⟨rfl, e⟩ := y
    refine hs x cs[i] H2 R' N s ?_ (k1 rfl)
    exact keepS _ _ _ _ (NL.same s) (paired_get hp i _ _ e (List.getElem?_eq_getElem hi))
  · have ef : cs.filter (fun _ => true) = cs := List.filter_eq_self.mpr fun _ _ => rfl
    rw [ef] at q
    have : ∀ {as : List V} {bs : List γ}, Paired (fun y c => R H' y (f c)) as bs → Paired (R H') as (bs.map f) := fun h => by
      induction h with
      | nil => exact .nil
      | cons a _ ih => exact .cons a ih
    exact this q
/-- over a tuple whose items stand for cs: those that pass a test -/
theorem lc_pickT {K : PySem.W.Frag} {a : Addr} {xs : List V} {γ : Type} {S : Hp → V → γ → Prop} {cs : List γ} {p : γ → Bool} {R : Hp → V → γ → Prop} (keepR : ∀ H H' y c, NL H H' → R H y c → R H' y c) (keepS : ∀ H H' y c, NL H H' → S H y c → S H' y c)
    {g : TG} {tt : TT} {te : TE} {vs : List Nat} {σ : L2.St} {H : Hp} {D : Addr} {Qd : Hp → Prop} (nD : H D = none) (hl : SqT K H a xs) (hp : Paired (S H) xs cs) (len : cs.length < sizeLine)
    (hs : ∀ (x : V) (c : γ) (H1 : Hp) (R' : V → Hp → Prop) (N : Hp → Prop), L2.Same H H1 → S H1 x c → (p c = true → ∀ y H3, L2.Same H1 H3 → R H3 y c → R' y H3) → (p c = false → ∀ H3, L2.Same H1 H3 → N H3) →
      g x (wipe σ vs) H1 fun σ2 H3 => wipe σ2 vs = wipe σ vs ∧ tt σ2 H3 fun b H4 => if b = true then te σ2 H4 R' else N H4)
    (hd : ∀ H' ys, L2.Same H H' → H' D = some (.lst ys) → Paired (R H') ys (cs.filter p) → Qd H') :
    ∃ W : Nat → Nat → Hp → Prop, (∃ m, W 0 m (upd H D (.lst []))) ∧ ∀ i m H, W i m H →
      ((Itt K a).stop i H ∧ Qd H) ∨ ((Itt K a).go i H ∧ ∃ Nx : Hp → Prop, (∀ H', Nx H' → ∃ m', m' < m ∧ W (i + 1) m' H') ∧ ∀ x H', (Itt K a).yld i H x H' → g x (wipe σ vs) H' fun σ2 H2 => wipe σ2 vs = wipe σ vs ∧ tt σ2 H2 fun b H3 =>
        if b = true then te σ2 H3 fun y H4 => ∃ acc, H4 D = some (.lst acc) ∧ acc.length < sizeLine ∧ Nx (upd H4 D (.lst (acc ++ [y]))) else Nx H3) := by
  refine lc_keep (walk_tup (xs := xs)) (cs := cs) (paired_len hp) (p := p) (R := R) keepR nD len (fun H' s => sqT_same s hl) yat_same (fun i x H1 H2 R' N hi s y k1 k2 => ?_) hd
  obtain ⟨rfl, e⟩ := y
  exact hs x cs[i] H2 R' N s (keepS _ _ _ _ (NL.same s) (paired_get hp i _ _ e (List.getElem?_eq_getElem hi))) k1 k2
end Q

set_option maxRecDepth 100000
set_option maxHeartbeats 4000000
namespace K07
open PySem PySem.Spec PyProof.Rows L2 Q RZ
section
variable {P : Program} {w : World} {K : PySem.W.Frag} {mg : Str → Option Value} {base : Heap} {f : Addr} {fd : FuncData}
theorem cnt_box {ws : List Int} {k : Nat} {b : Int} (e : ws.length = k) (h : ∀ w ∈ ws, 1 ≤ w ∧ w ≤ b) (b0 : 0 ≤ b) : cnt (ws.map fun _ => 0) ws ≤ b.toNat ^ k := by
  subst e
  induction ws with
  | nil => exact Nat.le_refl _
  | cons w ws ih =>
    have h1 := h w List.mem_cons_self
    have h2 := ih fun x m => h x (List.mem_cons_of_mem _ m)
    show (w - 0).toNat * cnt (ws.map fun _ => 0) ws ≤ b.toNat ^ (ws.length + 1)
    rw [Nat.pow_succ, Nat.mul_comm]
    exact Nat.mul_le_mul h2 (by omega)
theorem full_zero : ∀ {ws : List Int}, (∀ w ∈ ws, 1 ≤ w) → Full (ws.map fun _ => 0) ws
  | [], _ => trivial
  | w :: ws, h => ⟨by have := h w List.mem_cons_self; show (0 : Int) < w; omega, full_zero fun x m => h x (List.mem_cons_of_mem _ m)⟩
theorem ints_paired : ∀ zs : List Int, Paired (fun v (z : Int) => v = .int z) (zs.map V.int) zs
  | [] => .nil
  | _ :: zs => .cons rfl (ints_paired zs)
theorem pq_first {H : Hp} {vs : List V} {ps : List (List Int)} (h : Paired (ptRel H) vs ps) (n : 1 ≤ ps.length) : ∃ a r, vs = V.ref a :: r := by
  cases h with
  | nil => exact absurd n (by decide)
  | cons a _ =>
    obtain ⟨t, rfl, _⟩ := a
    exact ⟨_, _, rfl⟩
/-- a point moved up -/
def sh (ls p : List Int) : List Int := (List.range p.length).map fun k => p.getD k 0 + ls.getD k 0
theorem sh_cons (ls : List Int) (x : Int) (p : List Int) : sh ls (x :: p) = (x + ls.getD 0 0) :: sh (ls.drop 1) p := by
  unfold sh
  rw [List.length_cons, List.range_succ_eq_map, List.map_cons, List.map_map]
  congr 1
  refine List.map_congr_left fun k _ => ?_
  show p.getD k 0 + ls.getD (k + 1) 0 = p.getD k 0 + (ls.drop 1).getD k 0
  cases ls <;> rfl
theorem sh_len (ls p : List Int) : (sh ls p).length = p.length := by
  unfold sh
  rw [List.length_map, List.length_range]
theorem sh_lt : ∀ {p q ls : List Int}, p.length = q.length → p < q → sh ls p < sh ls q
  | [], [], _, _, h => by cases h
  | [], _ :: _, _, e, _ => by cases e
  | _ :: _, [], _, e, _ => by cases e
  | x :: p, y :: q, ls, e, h => by
    rw [sh_cons, sh_cons, _root_.Q.lex_cons]
    rw [_root_.Q.lex_cons] at h
    rcases h with h | ⟨e', h⟩
    · exact .inl (by omega)
    · exact .inr ⟨by omega, sh_lt (by simpa using e) h⟩
theorem pool_nl {p : Addr} {n : Int} {H H' : Hp} (k : Kb p H H') (B : PoolAt H p n) : NL H H' := fun a o no _ e => by
  by_cases z : a = p
  · obtain ⟨_, _, _, _, h1, _⟩ := B
    rw [z, h1] at e
    exact absurd (Option.some.inj e).symm (no _)
  · exact k a o z e
theorem filter_yes (n : Nat) : (List.range n).filter (fun _ => true) = List.range n := List.filter_eq_self.mpr fun _ _ => rfl
theorem pool_tup {H : Hp} {p t : Addr} {n : Int} {xs : List V} (B : PoolAt H p n) (h : H t = some (.tup xs)) : t ≠ p := fun z => by
  obtain ⟨_, _, _, _, h1, _⟩ := B
  rw [z, h1] at h
  cases h
/-- rows as the law draws them -/
structure RowsOk (ps : List (List Int)) : Prop where
  asc : ps.Pairwise (· < ·)
  same : ∃ k, 1 ≤ k ∧ k ≤ 3 ∧ ∀ p ∈ ps, p.length = k
  val : ∀ p ∈ ps, ∀ v ∈ p, 0 ≤ v ∧ v ≤ 63
  few : ps.length ≤ 200
def spSet (K : PySem.W.Frag) : Sp := fun vs H Q _ => ∃ (a : Addr) (ns : List Int), vs = [.ref a] ∧ SqL K H a (ns.map V.int) ∧ ∀ l ps H', H l = none → L2.Same H H' → SpotsAt H' l ps → RowsOk ps → Q (.ref l) H'
theorem C__law_set (T : Tx K mg) : Cal P w K mg base CX0 3 "_law_set" ["script"] [] (spSet K) := by
  obtain ⟨fd, F⟩ := T.d__law_set
  have C__law_pull := C__law_pull (P := P) (w := w) (base := base) T
  have C__law_pool := C__law_pool (P := P) (w := w) (base := base) T
  have C__law_widths := C__law_widths (P := P) (w := w) (base := base) T
  have C__law_spots := C__law_spots (P := P) (w := w) (base := base) T
  refine ⟨_, fd, [], F.ok sc__law_set (fun vs H Q E h => ?_) (fun cdv A outer s H vs Q E hr h => ?_), T.g__law_set, F.kp, F.bindsN fun _ _ _ _ _ _ us hl => match us, hl with | [_], _ => rfl, .nil⟩
  · obtain ⟨a, ns, rfl, _⟩ := h
    rfl
  · obtain ⟨a, ns, rfl, hS, kQ⟩ := h
    refine ⟨_, PSs.nox (pss_cons (ps_set (i := 1) sc__law_set.nd rfl (Or.inr rfl) (pe_cal C__law_pool (hr.mono (by decide)) pass0 (pa_cons (pv 0) (pa_cons pe_int pa_nil))))
      (pss_cons (ps_set (i := 2) sc__law_set.nd rfl (Or.inl rfl) (pe_cal C__law_widths (hr.mono (by decide)) pass0 (pa_cons (pv 1) (pa_cons pe_int (pa_cons pe_int (pa_cons pe_int pa_nil))))))
      (pss_cons (ps_set (i := 4) sc__law_set.nd rfl (Or.inr rfl) (pe_lc (own := [("width", 3)]) (g := gName 3) (tt := tYes) (by rfl) sc__law_set.nd (pi_tup (pv 2)) (blkOk_by (N := ["script", "pool", "widths", "width", "lift", "dense", "found", "spot", "take", "k"]) (sc := defScope s__law_set) (by decide +kernel)) (fun _ _ _ _ _ => (pg_name (i := 3) sc__law_set.nd rfl (Or.inl rfl))) (fun _ _ _ _ _ => pts_nil) (fun _ _ _ _ _ => (pe_cal C__law_pull (hr.mono (by decide)) pass0 (pa_cons (pv 1) (pa_cons (pe_op op_sub pe_int (pv 3)) pa_nil))))))
      (pss_cons (ps_set (i := 5) sc__law_set.nd rfl (Or.inl rfl) (pe_cal C__law_pull (hr.mono (by decide)) pass0 (pa_cons (pv 1) (pa_cons pe_int pa_nil))))
      (pss_cons (ps_set (i := 6) sc__law_set.nd rfl (Or.inl rfl) (pe_lst pa_nil))
      (pss_cons (ps_for PassesOwn.never rfl (pi_list (pe_cal C__law_spots (hr.mono (by decide)) pass0 (pa_cons (pe_lc (own := [("width", 3)]) (g := gName 3) (tt := tYes) (by rfl) sc__law_set.nd (pi_tup (pv 2)) (blkOk_by (N := ["script", "pool", "widths", "width", "lift", "dense", "found", "spot", "take", "k"]) (sc := defScope s__law_set) (by decide +kernel)) (fun _ _ _ _ _ => (pg_name (i := 3) sc__law_set.nd rfl (Or.inl rfl))) (fun _ _ _ _ _ => pts_nil) (fun _ _ _ _ _ => pe_int)) (pa_cons (pv 2) pa_nil)))) (pg_name (i := 7) sc__law_set.nd rfl (Or.inr rfl))
        (pss_cons (ps_set (i := 8) sc__law_set.nd rfl (Or.inl rfl) (pe_cal C__law_pull (hr.mono (by decide)) pass0 (pa_cons (pv 1) (pa_cons pe_int pa_nil))))
        (pss_one (ps_if (PW.pt (pw_or (pt_cmpR op_eq (pv 5) pe_int (nomark _)) (pw_or (pt_cmpR op_eq (pe_op op_mod (pv 8) pe_int) pe_int (nomark _)) (pw_or1 (PW.pt (pw_and (pt_cmpR op_eq (pv 5) pe_int (nomark _)) (pw_and1 (pt_cmpR op_eq (pv 8) pe_int (nomark _)))))))))
          (pss_one (ps_expr (pe_bm PySem.F.plainAttrs_list PySem.F.slot_list_append PySem.F.type_list_append mt_append (pv 6) (pa_cons (pe_callTy call_tupOf (by rfl) T.n_tuple (by decide +kernel) (pa_cons (pe_lc (own := [("k", 9)]) (g := gName 9) (tt := tYes) (by rfl) sc__law_set.nd (pi_range1 (by rfl) T.n_range (pa_cons (pe_callB call_len_seq (by rfl) T.n_len (by decide +kernel) (pa_cons (pv 7) pa_nil)) pa_nil)) (blkOk_by (N := ["script", "pool", "widths", "width", "lift", "dense", "found", "spot", "take", "k"]) (sc := defScope s__law_set) (by decide +kernel)) (fun _ _ _ _ _ => (pg_name (i := 9) sc__law_set.nd rfl (Or.inl rfl))) (fun _ _ _ _ _ => pts_nil) (fun _ _ _ _ _ => (pe_op op_add (pe_ix ix_tupB (pv 7) (pv 9) (fun _ _ => rfl)) (pe_ix ix_listB (pv 4) (pv 9) (fun _ _ => rfl))))) pa_nil)) pa_nil))))
          pss_nil))))
      (pss_one (ps_ret (pv 6))))))))), ?_⟩
    have big : 20000 < sizeLine := by decide
    refine ⟨_, rfl, a, ns, 0, rfl, hS, fun p H1 np s1 B1 => ?_⟩
    refine ⟨_, rfl, p, 0, 64, 5, 3, rfl, B1, by decide, by decide, by decide, by decide, by decide, by decide, by decide, fun t ws H2 k2 B2 ht hw => ?_⟩
    obtain ⟨wk, w1, w64, wc⟩ : (1 ≤ ws.length ∧ ws.length ≤ 3) ∧ (∀ w ∈ ws, 1 ≤ w) ∧ (∀ w ∈ ws, w ≤ 64) ∧ cnt (ws.map fun _ => 0) ws ≤ 64 := by
      rcases hw with ⟨e, h⟩ | ⟨e, h⟩ | ⟨e, h⟩
      · exact ⟨by omega, fun w m => (h w m).1, fun w m => (h w m).2, cnt_box e h (by decide)⟩
      · exact ⟨by omega, fun w m => (h w m).1, fun w m => by have := (h w m).2; omega, Nat.le_trans (cnt_box (b := 5) e h (by decide)) (by decide)⟩
      · exact ⟨by omega, fun w m => (h w m).1, fun w m => by have := (h w m).2; omega, Nat.le_trans (cnt_box (b := 3) e h (by decide)) (by decide)⟩
    have ivs : ∀ {as : List V} {bs : List Int}, Paired (fun v (c : Int) => v = .int c) as bs → as = bs.map V.int := fun h => by
      induction h with
      | nil => rfl
      | cons a _ ih => rw [a, ih]; rfl
    refine ⟨_, rfl, t, rfl, ⟨_, SqT.of ht⟩, fun D nD => ?_⟩
    have Dp : D ≠ p := B2.new nD
    refine lc_tup (xs := ws.map V.int) (fun i H' => PoolAt H' p (4 + (i : Int)) ∧ Kb p H2 H' ∧ ∃ ls : List Int, H' D = some (.lst (ls.map V.int)) ∧ ls.length = i ∧ ∀ j, j < i → 0 ≤ ls.getD j 0 ∧ ls.getD j 0 + ws.getD j 0 ≤ 64) ⟨(B2.upd Dp).mono (by omega), kb_new nD, [], upd_same, rfl, fun j hj => absurd hj (Nat.not_lt_zero _)⟩ (fun i H' _ q => SqT.of (q.2.1 _ _ (pool_tup B2 ht) ht)) ?_ ?_
    · rintro i x H3 ex ⟨B3, k3, ls, hD, hl, hb⟩
      have hi : i < ws.length := by
        have := (List.getElem?_eq_some_iff.mp ex).1
        rw [List.length_map] at this
        exact this
      obtain rfl : x = .int ws[i] := by
        rw [List.getElem?_map, List.getElem?_eq_getElem hi] at ex
        exact (Option.some.inj ex).symm
      have b1 := w1 _ (List.getElem_mem hi)
      have b2 := w64 _ (List.getElem_mem hi)
      refine ⟨rfl, _, rfl, _, rfl, _, _, rfl, rfl, p, _, _, rfl, B3, by omega, by omega, fun r H4 r0 r2 o4 B4 => ?_⟩
      have k4 := o4.kb
      refine ⟨_, k4 _ _ Dp hD, small1000 (by ((try simp only [List.length_map, List.length_take, List.length_drop, List.length_append, List.length_cons, List.length_nil, List.length_zipWith, List.length_set, List.length_replicate, List.length_range]) <;> omega)), (B4.upd Dp).mono (by omega), fun x o nb e => by rw [upd_ne (ne_of_none e nD)]; exact (k3.trans k4) x o nb e, ls ++ [r], by rw [upd_same, List.map_append]; rfl, by ((try simp only [List.length_map, List.length_take, List.length_drop, List.length_append, List.length_cons, List.length_nil, List.length_zipWith, List.length_set, List.length_replicate, List.length_range]) <;> omega), fun j hj => ?_⟩
      have eg : ws.getD i 0 = ws[i] := by rw [List.getD_eq_getElem?_getD, List.getElem?_eq_getElem hi]; rfl
      by_cases z : j = i
      · have e1 : (ls ++ [r]).getD j 0 = r := by rw [List.getD_eq_getElem?_getD, z, ← hl, List.getElem?_append_right (Nat.le_refl _), Nat.sub_self]; rfl
        rw [e1, z, eg]
        omega
      · have e1 : (ls ++ [r]).getD j 0 = ls.getD j 0 := by rw [List.getD_eq_getElem?_getD, List.getElem?_append_left (by omega), List.getD_eq_getElem?_getD]
        rw [e1]
        exact hb j (by omega)
    rintro H3 ⟨B3, k3, ls, hD, hl, hb⟩
    rw [List.length_map] at hl hb B3
    refine ⟨_, rfl, p, _, 4, rfl, B3, by omega, by decide, fun dn H4 d0 d4 o4 B4 => ?_⟩
    have k4 := o4.kb
    have k24 := k3.trans k4
    have ht4 := k24 _ _ (pool_tup B2 ht) ht
    have hD4 := k4 _ _ Dp hD
    refine ⟨Nat.zero_le _, fun F0 nF => ?_⟩
    generalize hq_ : L2.upd H4 F0 _ = H5
    obtain ⟨s5, o5⟩ := _root_.Q.nwS nF hq_
    clear hq_
    have Fp : F0 ≠ p := B4.new nF
    refine ⟨_, rfl, t, rfl, ⟨_, SqT.of (s5 _ _ ht4)⟩, fun E nE => ?_⟩
    refine lc_eachT (S := fun _ v (z : Int) => v = .int z) (f := fun _ : Int => (0 : Int)) (R := fun _ v (z : Int) => v = .int z) (fun _ _ _ _ _ z => z) (fun _ _ _ _ _ z => z) nE (SqT.of (s5 _ _ ht4)) (ints_paired ws) (small1000 (by omega)) (fun x z Hx R' N sx ez k => ?_) fun H6 us s6 hU pU => ?_
    · exact ⟨rfl, k _ _ (Same.refl _) rfl⟩
    rw [ivs pU] at hU
    have s46 := s5.trans s6
    refine ⟨_, rfl, E, t, ws.map fun _ => 0, ws, rfl, .inl (SqL.of hU), .inr (SqT.of (s46 _ _ ht4)), full_zero w1, by omega, (fun i hi => ?_), (by ((try simp only [List.length_map, List.length_take, List.length_drop, List.length_append, List.length_cons, List.length_nil, List.length_zipWith, List.length_set, List.length_replicate, List.length_range]) <;> omega)), fun q H7 s7 ps7 => ?_⟩
    · have a1 : (ws.map fun _ => (0 : Int)).getD i 0 = 0 := by
        rw [List.getD_eq_getElem?_getD, List.getElem?_map]
        cases ws[i]? <;> rfl
      rw [List.length_map] at hi
      have a2 : ws.getD i 0 ≤ 64 := by
        rw [List.getD_eq_getElem?_getD, List.getElem?_eq_getElem hi]
        exact w64 _ (List.getElem_mem hi)
      rw [a1]
      omega
    obtain ⟨vq, hq, pq⟩ := ps7
    have lq := paired_len pq
    rw [spots_len] at lq
    obtain ⟨sp, esp⟩ : ∃ sp, sp = spots (ws.map fun _ => 0) ws := ⟨_, rfl⟩
    have lsp : sp.length = cnt (ws.map fun _ => 0) ws := by rw [esp, spots_len]
    rw [← esp] at pq
    have s47 := s46.trans s7
    have B7 := B4.same s47
    have F7 := (s6.trans s7) _ _ o5
    have D7 := s47 _ _ hD4
    have nF0 : H1 F0 = none := by
      cases z : H1 F0 with
      | none => rfl
      | some o => rw [k24 _ _ Fp (k2 _ _ Fp z)] at nF; cases nF
    have nFH : H F0 = none := by
      cases z : H F0 with
      | none => rfl
      | some o => rw [s1 _ _ z] at nF0; cases nF0
    have qp : q ≠ p := fun z => by
      obtain ⟨_, _, _, _, h1, _⟩ := B7
      rw [z, h1] at hq
      have e := HO.lst.inj (Option.some.inj hq)
      rw [← e] at pq
      obtain ⟨a, r, y⟩ := pq_first pq (by have := cnt_pos (full_zero w1); omega)
      cases y
    have qF : q ≠ F0 := fun z => by
      rw [z, F7] at hq
      have e := HO.lst.inj (Option.some.inj hq)
      rw [← e] at lq
      have := cnt_pos (full_zero w1)
      rw [← lq] at this
      exact absurd this (by decide)
    have lsd : ∀ p ∈ sp, p.length = ws.length := fun p m => by
      rw [esp] at m
      have := ((mem_spots (by ((try simp only [List.length_map, List.length_take, List.length_drop, List.length_append, List.length_cons, List.length_nil, List.length_zipWith, List.length_set, List.length_replicate, List.length_range]) <;> omega))).mp m).length.2
      rw [this, List.length_map]
    refine ⟨q, rfl, ⟨_, SqL.of hq⟩, ?_⟩
    refine for_list (xs := vq) (fun i σ H' => (∃ v7 v8, σ = [some (.ref a), some (.ref p), some (.ref t), none, some (.ref D), some (.int dn), some (.ref F0), v7, v8, none]) ∧ (∀ b o, b ≠ p → b ≠ F0 → H7 b = some o → H' b = some o) ∧ PoolAt H' p (10 + (i : Int)) ∧ ∃ us ps', H' F0 = some (.lst us) ∧ Paired (ptRel H') us ps' ∧ List.Sublist ps' ((sp.take i).map (sh ls))) ⟨⟨none, none, rfl⟩, fun _ _ _ _ e => e, B7.mono (by omega), [], [], F7, .nil, List.Sublist.slnil⟩ (fun i σ H' _ r => SqL.of (r.2.1 _ _ qp qF hq)) ?_ ?_
    · rintro i x σ H' ex ⟨⟨v7, v8, rfl⟩, kb, B', us, ps', hF, pU, sub⟩
      have hi : i < sp.length := by
        have := (List.getElem?_eq_some_iff.mp ex).1
        rw [lq] at this
        omega
      obtain ⟨x', ex', tp, rfl, htp⟩ := paired_at pq i hi
      rw [ex] at ex'
      cases ex'
      have lpt := lsd _ (List.getElem_mem hi)
      have tpp : tp ≠ p := pool_tup B7 htp
      have tpF : tp ≠ F0 := fun z => by rw [z, F7] at htp; cases htp
      have DF : D ≠ F0 := fun z => by rw [← z, hD4] at nF; cases nF
      have lu := paired_len pU
      have ls' := sub.length_le
      rw [List.length_map, List.length_take] at ls'
      refine ⟨_, rfl, p, _, 4, rfl, B', by omega, by decide, fun tk H6' t0 t4 o6 B6 => ?_⟩
      have k6 := o6.kb
      have nl6 := pool_nl k6 B'
      have kb6 : ∀ b o, b ≠ p → b ≠ F0 → H7 b = some o → H6' b = some o := fun b o nb nf e => k6 b o nb (kb b o nb nf e)
      have hF6 := k6 _ _ Fp hF
      have hD6 := kb6 _ _ Dp DF D7
      have htp6 := kb6 _ _ tpp tpF htp
      have skip : (∃ v7 v8, [some (V.ref a), some (.ref p), some (.ref t), none, some (.ref D), some (.int dn), some (.ref F0), some (.ref tp), some (.int tk), none] = [some (.ref a), some (.ref p), some (.ref t), none, some (.ref D), some (.int dn), some (.ref F0), v7, v8, none]) ∧ (∀ b o, b ≠ p → b ≠ F0 → H7 b = some o → H6' b = some o) ∧ PoolAt H6' p (10 + ((i + 1 : Nat) : Int)) ∧ ∃ us ps', H6' F0 = some (.lst us) ∧ Paired (ptRel H6') us ps' ∧ List.Sublist ps' ((sp.take (i + 1)).map (sh ls)) :=
        ⟨⟨_, _, rfl⟩, kb6, B6.mono (by omega), us, ps', hF6, Paired.mapP pU fun _ _ z => z.nl nl6, by
          rw [List.take_succ_eq_append_getElem hi, List.map_append]
          exact List.Sublist.trans sub (List.sublist_append_left _ _)⟩
      refine ⟨_, rfl, rfl, _, rfl, ite2 (fun e => ?_) (fun e => ?_)⟩
      · refine iteT ?_
        refine ⟨_, rfl, .inl ⟨rfl, _, SqL.of hF6⟩, _, rfl, tp, _, rfl, .inr (SqT.of htp6), _, rfl, (by ((try simp only [List.length_map, List.length_take, List.length_drop, List.length_append, List.length_cons, List.length_nil, List.length_zipWith, List.length_set, List.length_replicate, List.length_range]) <;> omega)), (by ((try simp only [List.length_map, List.length_take, List.length_drop, List.length_append, List.length_cons, List.length_nil, List.length_zipWith, List.length_set, List.length_replicate, List.length_range]) <;> omega)), fun G nG => ?_⟩
        rw [List.length_map, Int.toNat_natCast]
        refine lc_rng (f := fun k => sp[i].getD k 0 + ls.getD k 0) (p := fun _ => true) (R := fun _ v (z : Int) => v = .int z) (fun _ _ _ _ _ z => z) nG (small1000 (by omega)) (fun k H8 R' N hk s8 k1 _ => ?_) fun H7' es s7' hE pE => ?_
        · rw [Int.zero_add]
          have hk2 : k < ls.length := by omega
          refine ⟨rfl, _, rfl, _, rfl, tp, _, _, _, rfl, rfl, SqT.of (s8 _ _ htp6), atI_nat (j := k) (by rw [List.getElem?_map, List.getElem?_eq_getElem hk]; rfl), _, rfl, _, rfl, D, _, _, _, rfl, rfl, SqL.of (s8 _ _ hD6), atI_nat (j := k) (by rw [List.getElem?_map, List.getElem?_eq_getElem hk2]; rfl), _, _, rfl, rfl, k1 rfl _ _ (Same.refl _) ?_⟩
          rw [List.getD_eq_getElem?_getD, List.getElem?_eq_getElem hk, List.getD_eq_getElem?_getD, List.getElem?_eq_getElem hk2]
          rfl
        rw [filter_yes] at pE
        rw [ivs pE] at hE
        refine tupL_of (SqL.of hE) fun t2 n2 => ?_
        generalize hq_ : L2.upd H7' t2 _ = H8
        obtain ⟨s8, o8⟩ := _root_.Q.nwS n2 hq_
        clear hq_
        have s78 := s7'.trans s8
        refine ⟨F0, _, _, rfl, rfl, s78 _ _ hF6, by omega, ?_⟩
        generalize hq_ : L2.upd H8 F0 _ = H9
        obtain ⟨u9, o9⟩ := _root_.Q.updS hq_
        clear hq_
        have nl9 := (NL.same s78).trans (NL.put (s78 _ _ hF6) u9)
        refine ⟨⟨_, _, rfl⟩, fun b o nb nf e => u9 _ _ nf (s78 _ _ (kb6 b o nb nf e)), ?_, _, _, o9, Paired.snoc (Paired.mapP pU fun _ _ z => z.nl (nl6.trans nl9)) ⟨t2, rfl, (NL.put (s78 _ _ hF6) u9).tup o8⟩, ?_⟩
        · obtain ⟨a1, a2, a3, a4, h1, h2⟩ := B6
          exact ⟨a1, a2, a3, a4, u9 _ _ Fp.symm (s78 _ _ h1), h2.1, by omega⟩
        · rw [List.take_succ_eq_append_getElem hi, List.map_append]
          exact List.Sublist.append sub (List.Sublist.refl _)
      refine ⟨_, rfl, _, _, rfl, rfl, (by show (0 : Int) < 2; decide), rfl, _, rfl, ite2 (fun e => ?_) (fun e => ?_)⟩
      · refine iteT ?_
        refine ⟨_, rfl, .inl ⟨rfl, _, SqL.of hF6⟩, _, rfl, tp, _, rfl, .inr (SqT.of htp6), _, rfl, (by ((try simp only [List.length_map, List.length_take, List.length_drop, List.length_append, List.length_cons, List.length_nil, List.length_zipWith, List.length_set, List.length_replicate, List.length_range]) <;> omega)), (by ((try simp only [List.length_map, List.length_take, List.length_drop, List.length_append, List.length_cons, List.length_nil, List.length_zipWith, List.length_set, List.length_replicate, List.length_range]) <;> omega)), fun G nG => ?_⟩
        rw [List.length_map, Int.toNat_natCast]
        refine lc_rng (f := fun k => sp[i].getD k 0 + ls.getD k 0) (p := fun _ => true) (R := fun _ v (z : Int) => v = .int z) (fun _ _ _ _ _ z => z) nG (small1000 (by omega)) (fun k H8 R' N hk s8 k1 _ => ?_) fun H7' es s7' hE pE => ?_
        · rw [Int.zero_add]
          have hk2 : k < ls.length := by omega
          refine ⟨rfl, _, rfl, _, rfl, tp, _, _, _, rfl, rfl, SqT.of (s8 _ _ htp6), atI_nat (j := k) (by rw [List.getElem?_map, List.getElem?_eq_getElem hk]; rfl), _, rfl, _, rfl, D, _, _, _, rfl, rfl, SqL.of (s8 _ _ hD6), atI_nat (j := k) (by rw [List.getElem?_map, List.getElem?_eq_getElem hk2]; rfl), _, _, rfl, rfl, k1 rfl _ _ (Same.refl _) ?_⟩
          rw [List.getD_eq_getElem?_getD, List.getElem?_eq_getElem hk, List.getD_eq_getElem?_getD, List.getElem?_eq_getElem hk2]
          rfl
        rw [filter_yes] at pE
        rw [ivs pE] at hE
        refine tupL_of (SqL.of hE) fun t2 n2 => ?_
        generalize hq_ : L2.upd H7' t2 _ = H8
        obtain ⟨s8, o8⟩ := _root_.Q.nwS n2 hq_
        clear hq_
        have s78 := s7'.trans s8
        refine ⟨F0, _, _, rfl, rfl, s78 _ _ hF6, by omega, ?_⟩
        generalize hq_ : L2.upd H8 F0 _ = H9
        obtain ⟨u9, o9⟩ := _root_.Q.updS hq_
        clear hq_
        have nl9 := (NL.same s78).trans (NL.put (s78 _ _ hF6) u9)
        refine ⟨⟨_, _, rfl⟩, fun b o nb nf e => u9 _ _ nf (s78 _ _ (kb6 b o nb nf e)), ?_, _, _, o9, Paired.snoc (Paired.mapP pU fun _ _ z => z.nl (nl6.trans nl9)) ⟨t2, rfl, (NL.put (s78 _ _ hF6) u9).tup o8⟩, ?_⟩
        · obtain ⟨a1, a2, a3, a4, h1, h2⟩ := B6
          exact ⟨a1, a2, a3, a4, u9 _ _ Fp.symm (s78 _ _ h1), h2.1, by omega⟩
        · rw [List.take_succ_eq_append_getElem hi, List.map_append]
          exact List.Sublist.append sub (List.Sublist.refl _)
      refine ⟨_, rfl, rfl, _, rfl, ite2 (fun e => ?_) (fun e => ?_)⟩
      · refine ⟨_, rfl, rfl, _, rfl, ite2 (fun e => ?_) (fun e => ?_)⟩
        · refine ⟨_, rfl, .inl ⟨rfl, _, SqL.of hF6⟩, _, rfl, tp, _, rfl, .inr (SqT.of htp6), _, rfl, (by ((try simp only [List.length_map, List.length_take, List.length_drop, List.length_append, List.length_cons, List.length_nil, List.length_zipWith, List.length_set, List.length_replicate, List.length_range]) <;> omega)), (by ((try simp only [List.length_map, List.length_take, List.length_drop, List.length_append, List.length_cons, List.length_nil, List.length_zipWith, List.length_set, List.length_replicate, List.length_range]) <;> omega)), fun G nG => ?_⟩
          rw [List.length_map, Int.toNat_natCast]
          refine lc_rng (f := fun k => sp[i].getD k 0 + ls.getD k 0) (p := fun _ => true) (R := fun _ v (z : Int) => v = .int z) (fun _ _ _ _ _ z => z) nG (small1000 (by omega)) (fun k H8 R' N hk s8 k1 _ => ?_) fun H7' es s7' hE pE => ?_
          · rw [Int.zero_add]
            have hk2 : k < ls.length := by omega
            refine ⟨rfl, _, rfl, _, rfl, tp, _, _, _, rfl, rfl, SqT.of (s8 _ _ htp6), atI_nat (j := k) (by rw [List.getElem?_map, List.getElem?_eq_getElem hk]; rfl), _, rfl, _, rfl, D, _, _, _, rfl, rfl, SqL.of (s8 _ _ hD6), atI_nat (j := k) (by rw [List.getElem?_map, List.getElem?_eq_getElem hk2]; rfl), _, _, rfl, rfl, k1 rfl _ _ (Same.refl _) ?_⟩
            rw [List.getD_eq_getElem?_getD, List.getElem?_eq_getElem hk, List.getD_eq_getElem?_getD, List.getElem?_eq_getElem hk2]
            rfl
          rw [filter_yes] at pE
          rw [ivs pE] at hE
          refine tupL_of (SqL.of hE) fun t2 n2 => ?_
          generalize hq_ : L2.upd H7' t2 _ = H8
          obtain ⟨s8, o8⟩ := _root_.Q.nwS n2 hq_
          clear hq_
          have s78 := s7'.trans s8
          refine ⟨F0, _, _, rfl, rfl, s78 _ _ hF6, by omega, ?_⟩
          generalize hq_ : L2.upd H8 F0 _ = H9
          obtain ⟨u9, o9⟩ := _root_.Q.updS hq_
          clear hq_
          have nl9 := (NL.same s78).trans (NL.put (s78 _ _ hF6) u9)
          refine ⟨⟨_, _, rfl⟩, fun b o nb nf e => u9 _ _ nf (s78 _ _ (kb6 b o nb nf e)), ?_, _, _, o9, Paired.snoc (Paired.mapP pU fun _ _ z => z.nl (nl6.trans nl9)) ⟨t2, rfl, (NL.put (s78 _ _ hF6) u9).tup o8⟩, ?_⟩
          · obtain ⟨a1, a2, a3, a4, h1, h2⟩ := B6
            exact ⟨a1, a2, a3, a4, u9 _ _ Fp.symm (s78 _ _ h1), h2.1, by omega⟩
          · rw [List.take_succ_eq_append_getElem hi, List.map_append]
            exact List.Sublist.append sub (List.Sublist.refl _)
        · exact skip
      · exact iteF skip
    · rintro σ H' ⟨⟨v7, v8, rfl⟩, kb, B', us, ps', hF, pU, sub⟩
      rw [List.take_of_length_le (by rw [lq, lsp]; exact Nat.le_refl _)] at sub
      refine ⟨_, rfl, kQ F0 ps' H' nFH (fun b o e => ?_) ⟨us, hF, pU⟩ ⟨?_, ⟨ws.length, wk.1, wk.2, fun r m => ?_⟩, fun r m v mv => ?_, ?_⟩⟩
      · have bp : b ≠ p := ne_of_none e np
        exact kb _ _ bp (ne_of_none e nFH) (s47 _ _ (k24 _ _ bp (k2 _ _ bp (s1 _ _ e))))
      · refine List.Pairwise.sublist sub (List.pairwise_map.mpr ?_)
        have as_ : sp.Pairwise (· < ·) := by rw [esp]; exact spots_asc _ _
        exact List.Pairwise.imp_of_mem (fun {x y} hx hy h => sh_lt (by rw [lsd x hx, lsd y hy]) h) as_
      · obtain ⟨r0, m0, rfl⟩ := List.mem_map.mp (sub.subset m)
        rw [sh_len, lsd r0 m0]
      · obtain ⟨r0, m0, rfl⟩ := List.mem_map.mp (sub.subset m)
        obtain ⟨k, hk, rfl⟩ := List.mem_map.mp mv
        have hk := List.mem_range.mp hk
        rw [lsd r0 m0] at hk
        rw [esp, mem_spots (by ((try simp only [List.length_map, List.length_take, List.length_drop, List.length_append, List.length_cons, List.length_nil, List.length_zipWith, List.length_set, List.length_replicate, List.length_range]) <;> omega)), within_iff (by ((try simp only [List.length_map, List.length_take, List.length_drop, List.length_append, List.length_cons, List.length_nil, List.length_zipWith, List.length_set, List.length_replicate, List.length_range]) <;> omega))] at m0
        have h1 := m0.2 k (by ((try simp only [List.length_map, List.length_take, List.length_drop, List.length_append, List.length_cons, List.length_nil, List.length_zipWith, List.length_set, List.length_replicate, List.length_range]) <;> omega))
        have h2 := hb k hk
        have a1 : (ws.map fun _ => (0 : Int)).getD k 0 = 0 := by
          rw [List.getD_eq_getElem?_getD, List.getElem?_map]
          cases ws[k]? <;> rfl
        rw [a1] at h1
        omega
      · have := sub.length_le
        rw [List.length_map] at this
        omega

end
end K07

set_option maxRecDepth 100000
set_option maxHeartbeats 4000000
/-! Lists of points as data: their order, ==, sorted. -/
namespace Q
open PySem PySem.Spec PyProof.Rows L2
theorem dataLt_rows (xs ys : List Int) : PySem.W.dataLt (.tuple (xs.map PyData.int)) (.tuple (ys.map PyData.int)) = decide (xs < ys) := by
  rw [PySem.W.dataLt_tuple]
  exact PySem.W.dataLt_ints xs ys
theorem dataLe_pts : PySem.W.dataLe false (fun p : List Int => PyData.tuple (p.map PyData.int)) = fun p q => !decide (q < p) := by
  funext p q
  show (!PySem.W.dataLt _ _) = _
  rw [dataLt_rows]
theorem lex_tri : ∀ p q : List Int, p < q ∨ p = q ∨ q < p
  | [], [] => .inr (.inl rfl)
  | [], _ :: _ => .inl .nil
  | _ :: _, [] => .inr (.inr .nil)
  | x :: p, y :: q => by
    rw [Q.lex_cons, Q.lex_cons, List.cons.injEq]
    rcases lex_tri p q with h | h | h
    · by_cases e : x = y
      · exact .inl (.inr ⟨e, h⟩)
      · by_cases l : x < y
        · exact .inl (.inl l)
        · exact .inr (.inr (.inl (by omega)))
    · by_cases e : x = y
      · exact .inr (.inl ⟨e, h⟩)
      · by_cases l : x < y
        · exact .inl (.inl l)
        · exact .inr (.inr (.inl (by omega)))
    · by_cases e : x = y
      · exact .inr (.inr (.inr ⟨e.symm, h⟩))
      · by_cases l : x < y
        · exact .inl (.inl l)
        · exact .inr (.inr (.inl (by omega)))
theorem lex_trans : ∀ {p q r : List Int}, p < q → q < r → p < r
  | [], [], _, h, _ => by cases h
  | [], _ :: _, [], _, k => by cases k
  | [], _ :: _, _ :: _, _, _ => .nil
  | _ :: _, [], _, h, _ => by cases h
  | _ :: _, _ :: _, [], _, k => by cases k
  | x :: p, y :: q, z :: r, h, k => by
    rw [Q.lex_cons] at h k ⊢
    rcases h with h | ⟨e, h⟩ <;> rcases k with k | ⟨e', k⟩
    · exact .inl (by omega)
    · exact .inl (by omega)
    · exact .inl (by omega)
    · exact .inr ⟨by omega, lex_trans h k⟩
theorem sort_asc {l : List (List Int)} (n : l.Nodup) : (l.mergeSort (PySem.W.dataLe false fun p : List Int => PyData.tuple (p.map PyData.int))).Pairwise (· < ·) := by
  rw [dataLe_pts]
  have pm := List.mergeSort_perm l fun p q => !decide (q < p)
  have so : (l.mergeSort fun p q => !decide (q < p)).Pairwise fun p q => (!decide (q < p)) = true := List.pairwise_mergeSort (fun p q r h k => by
    rw [Bool.not_eq_true', decide_eq_false_iff_not] at h k ⊢
    intro z
    rcases lex_tri p q with y | y | y
    · exact k (lex_trans z y)
    · rw [y] at z
      exact k z
    · exact h y) (fun p q => by
    by_cases z : q < p
    · rw [decide_eq_true z, decide_eq_false (lex_asy _ _ z)]
      rfl
    · rw [decide_eq_false z]
      rfl) l
  have nd : (l.mergeSort fun p q => !decide (q < p)).Pairwise (· ≠ ·) := pm.nodup_iff.mpr n
  refine (so.and nd).imp fun {p q} ⟨h, k⟩ => ?_
  rw [Bool.not_eq_true', decide_eq_false_iff_not] at h
  rcases lex_tri p q with y | y | y
  · exact y
  · exact absurd y k
  · exact absurd y h
theorem sort_pts {l m : List (List Int)} (n : l.Nodup) (a : m.Pairwise (· < ·)) (h : ∀ p, p ∈ l ↔ p ∈ m) : l.mergeSort (PySem.W.dataLe false fun p : List Int => PyData.tuple (p.map PyData.int)) = m :=
  asc_ext lex_irr lex_asy (sort_asc n) a fun p => by rw [List.mem_mergeSort, h]
section
variable {K : PySem.W.Frag}
/-- a point, anywhere -/
def ptS (K : PySem.W.Frag) (H : Hp) (v : V) (p : List Int) : Prop := ∃ t, v = .ref t ∧ SqT K H t (p.map V.int)
theorem ptS.nl {H H' : Hp} {v : V} {p : List Int} (k : NL H H') (h : ptS K H v p) : ptS K H' v p := by
  obtain ⟨t, e, h⟩ := h
  exact ⟨t, e, k.sqT h⟩
theorem paired_rmap {α β γ : Type} {R : α → γ → Prop} {f : β → γ} : ∀ {as : List α} {bs : List β}, Paired R as (bs.map f) → Paired (fun a b => R a (f b)) as bs
  | _, [], .nil => .nil
  | _, _ :: _, .cons h t => .cons h (paired_rmap t)
/-! ### lists of points as data -/
abbrev ptD (p : List Int) : PyData := .tuple (p.map PyData.int)
theorem ptD_depth (p : List Int) : (ptD p).depth = 1 := by
  show PyData.depthAll (p.map PyData.int) + 1 = 1
  rw [Q.depth_ints]
theorem depth_pts : ∀ ps : List (List Int), PyData.depthAll (ps.map ptD) ≤ 1
  | [] => by simp [PyData.depthAll]
  | p :: ps => by
    have h1 := ptD_depth p
    have h2 := depth_pts ps
    rw [List.map_cons]
    simp only [PyData.depthAll]
    omega
theorem lay_pts : ∀ ps : List (List Int), PyData.canLayAll0 (ps.map ptD) = true
  | [] => rfl
  | p :: ps => by
    have h1 : PyData.canLay0 (ptD p) = true := by
      have := lay_ints p
      simp only [PyData.canLay0, this]
    have h2 := lay_pts ps
    rw [List.map_cons]
    simp only [PyData.canLayAll0, h1, h2, Bool.and_self]
theorem shaped_pts (ps : List (List Int)) : SeqAt.shaped (.list (ps.map ptD)) = true := by
  show (PyData.canLayAll0 (ps.map ptD) && decide (PyData.depthAll (ps.map ptD) + 1 ≤ 64)) = true
  have := depth_pts ps
  rw [lay_pts, decide_eq_true (by omega)]
  rfl
theorem eqvAll_pts : ∀ ps qs : List (List Int), PyData.eqvAll (ps.map ptD) (qs.map ptD) = decide (ps = qs)
  | [], [] => by simp [PyData.eqvAll]
  | [], _ :: _ => by simp [PyData.eqvAll]
  | _ :: _, [] => by simp [PyData.eqvAll]
  | p :: ps, q :: qs => by
    have h1 : PyData.eqv (ptD p) (ptD q) = decide (p = q) := eqvAll_ints p q
    have h2 := eqvAll_pts ps qs
    rw [List.map_cons, List.map_cons]
    simp only [PyData.eqvAll, h1, h2]
    rw [Bool.eq_iff_iff]
    simp
theorem eqv_pts (ps qs : List (List Int)) : PyData.eqv (.list (ps.map ptD)) (.list (qs.map ptD)) = decide (ps = qs) := eqvAll_pts ps qs
theorem dpAll_pts {H : Hp} {vs : List V} {ps : List (List Int)} (h : Paired (ptS K H) vs ps) : DpAll K H vs (ps.map ptD) := by
  induction h with
  | nil => exact .nil
  | cons a _ ih =>
    obtain ⟨t, rfl, h⟩ := a
    exact .cons (dp_ints h) ih
theorem dp_pts {H : Hp} {l : Addr} {vs : List V} {ps : List (List Int)} (hl : SqL K H l vs) (h : Paired (ptS K H) vs ps) : Dp K H (.ref l) (.list (ps.map ptD)) := .lst hl (dpAll_pts h)
theorem ptS_of {H : Hp} {v : V} {p : List Int} (h : ptRel H v p) : ptS K H v p := by
  obtain ⟨t, e, h⟩ := h
  exact ⟨t, e, SqT.of h⟩
end
end Q

set_option maxRecDepth 100000
set_option maxHeartbeats 4000000
namespace K07
open PySem PySem.Spec PyProof.Rows L2 Q RZ
section
variable {P : Program} {w : World} {K : PySem.W.Frag} {mg : Str → Option Value} {base : Heap} {f : Addr} {fd : FuncData}
/-- one row of a stripe -/
def strip (tn : Bool) (lf : Int) (v o : Nat) : List Int := if tn = true then [(o : Int) + lf, v] else [(v : Int), o + lf]
theorem strip_inj {tn : Bool} {lf : Int} {v o v' o' : Nat} (h : strip tn lf v o = strip tn lf v' o') : v = v' ∧ o = o' := by
  unfold strip at h
  cases tn with
  | true =>
    rw [if_pos rfl, if_pos rfl] at h
    have h1 := (List.cons.inj h).1
    have h2 := (List.cons.inj (List.cons.inj h).2).1
    omega
  | false =>
    rw [if_neg Bool.false_ne_true, if_neg Bool.false_ne_true] at h
    have h1 := (List.cons.inj h).1
    have h2 := (List.cons.inj (List.cons.inj h).2).1
    omega
theorem few3 {ks : List Nat} {m : Nat} (a : ks.Pairwise (· < ·)) (b : ∀ k ∈ ks, k < 1 + m) (h : m ≤ 2) : ks.length ≤ 3 := by
  have := nodup_len (m := List.range (1 + m)) (a.imp fun {x y} q e => by omega) fun k hk => List.mem_range.mpr (b k hk)
  rw [List.length_range] at this
  omega
theorem C__law_stripes (T : Tx K mg) : Cal P w K mg base CX0 4 "_law_stripes" ["script"] [] (spSet K) := by
  obtain ⟨fd, F⟩ := T.d__law_stripes
  have C__law_pull := C__law_pull (P := P) (w := w) (base := base) T
  have C__law_pool := C__law_pool (P := P) (w := w) (base := base) T
  have C__law_section := C__law_section (P := P) (w := w) (base := base) T
  refine ⟨_, fd, [], F.ok sc__law_stripes (fun vs H Q E h => ?_) (fun cdv A outer s H vs Q E hr h => ?_), T.g__law_stripes, F.kp, F.bindsN fun _ _ _ _ _ _ us hl => match us, hl with | [_], _ => rfl, .nil⟩
  · obtain ⟨a, ns, rfl, _⟩ := h
    rfl
  · obtain ⟨a, ns, rfl, hS, kQ⟩ := h
    refine ⟨_, PSs.nox (pss_cons (ps_set (i := 1) sc__law_stripes.nd rfl (Or.inl rfl) (pe_cal C__law_pool (hr.mono (by decide)) pass0 (pa_cons (pv 0) (pa_cons pe_int pa_nil))))
      (pss_cons (ps_set (i := 2) sc__law_stripes.nd rfl (Or.inl rfl) (pe_op op_add pe_int (pe_cal C__law_pull (hr.mono (by decide)) pass0 (pa_cons (pv 1) (pa_cons pe_int pa_nil)))))
      (pss_cons (ps_set (i := 3) sc__law_stripes.nd rfl (Or.inl rfl) (pe_cmpR op_eq (pe_cal C__law_pull (hr.mono (by decide)) pass0 (pa_cons (pv 1) (pa_cons pe_int pa_nil))) pe_int (nomark _)))
      (pss_cons (ps_set (i := 4) sc__law_stripes.nd rfl (Or.inl rfl) (pe_cal C__law_pull (hr.mono (by decide)) pass0 (pa_cons (pv 1) (pa_cons (pe_op op_sub pe_int (pv 2)) pa_nil))))
      (pss_cons (ps_set (i := 5) sc__law_stripes.nd rfl (Or.inl rfl) (pe_cal C__law_section (hr.mono (by decide)) pass0 (pa_cons (pv 1) (pa_cons (pv 2) pa_nil))))
      (pss_cons (ps_set (i := 6) sc__law_stripes.nd rfl (Or.inl rfl) (pe_lst pa_nil))
      (pss_cons (ps_for PassesOwn.never rfl (pi_range1 (by rfl) T.n_range (pa_cons pe_int pa_nil)) (pg_name (i := 7) sc__law_stripes.nd rfl (Or.inl rfl))
        (C8.pss_cut (ps_if (pt_cmpR op_eq (pe_cal C__law_pull (hr.mono (by decide)) pass0 (pa_cons (pv 1) (pa_cons pe_int pa_nil))) pe_int (nomark _))
          (pss_one (ps_set (i := 5) sc__law_stripes.nd rfl (Or.inl rfl) (pe_cal C__law_section (hr.mono (by decide)) pass0 (pa_cons (pv 1) (pa_cons (pv 2) pa_nil)))))
          pss_nil)
        (pss_one (ps_for PassesOwn.never rfl (pi_list (pv 5)) (pg_name (i := 8) sc__law_stripes.nd rfl (Or.inl rfl))
          (pss_one (ps_expr (pe_bm PySem.F.plainAttrs_list PySem.F.slot_list_append PySem.F.type_list_append mt_append (pv 6) (pa_cons (pe_ifExp (pt_val (pv 3)) (pe_tup (pa_cons (pe_op op_add (pv 8) (pv 4)) (pa_cons (pv 7) pa_nil))) (pe_tup (pa_cons (pv 7) (pa_cons (pe_op op_add (pv 8) (pv 4)) pa_nil)))) pa_nil))))))))
      (pss_one (ps_ret (pe_callB (cr_sortedR hr) (by rfl) T.n_sorted (by decide +kernel) (pa_cons (pv 6) pa_nil))))))))))), ?_⟩
    have big : 20000 < sizeLine := by decide
    refine ⟨_, rfl, a, ns, 0, rfl, hS, fun p H1 np s1 B1 => ?_⟩
    refine ⟨_, rfl, p, _, 3, rfl, B1, by decide, by decide, fun r H2 r0 r3 o2 B2 => ⟨_, _, rfl, rfl, ?_⟩⟩
    obtain ⟨m, rfl⟩ : ∃ m : Nat, r = m := ⟨r.toNat, by omega⟩
    have wd3 : m ≤ 2 := by omega
    refine ⟨_, rfl, p, _, 2, rfl, B2, by decide, by decide, fun tk H3 t0 t2 o3 B3 => ⟨rfl, ?_⟩⟩
    refine ⟨_, rfl, _, rfl, _, _, rfl, rfl, p, _, _, rfl, B3, by decide, by omega, fun lf H4 l0 l1 o4 B4 => ?_⟩
    have lf64 : lf + ((1 + m : Nat) : Int) ≤ 64 := by omega
    obtain ⟨tn, etn⟩ : ∃ tn : Bool, tn = decide (V.int tk = V.int 1) := ⟨_, rfl⟩
    refine ⟨_, rfl, _, rfl, p, _, 1 + m, rfl, B4, by omega, by omega, fun q ks H5 nq k5 B5 hq ak bk => ?_⟩
    refine ⟨Nat.zero_le _, fun F0 nF => ?_⟩
    generalize hq_ : L2.upd H5 F0 _ = H6
    obtain ⟨s6, o6⟩ := _root_.Q.nwS nF hq_
    clear hq_
    have Fp : F0 ≠ p := B5.new nF
    have qF : q ≠ F0 := fun z => by rw [z, nF] at hq; cases hq
    have qp : q ≠ p := B4.new nq
    refine ⟨64, rfl, by decide, by decide, ?_⟩
    have nFH1 : H1 F0 = none := by
      cases z : H1 F0 with
      | none => rfl
      | some o => rw [k5 _ _ Fp (o4.kb _ _ Fp (o3.kb _ _ Fp (o2.kb _ _ Fp z)))] at nF; cases nF
    have nFH : H F0 = none := by
      cases z : H F0 with
      | none => rfl
      | some o => rw [s1 _ _ z] at nFH1; cases nFH1
    refine for_range (lo := 0) (n := 64) (fun i σ H' => (∃ (v7 v8 : Option V) (q' : Addr) (ks' : List Nat), σ = [some (.ref a), some (.ref p), some (.int (1 + (m : Int))), some (.bl tn), some (.int lf), some (.ref q'), some (.ref F0), v7, v8] ∧ H' q' = some (.lst (ks'.map fun (k : Nat) => V.int k)) ∧ q' ≠ F0 ∧ q' ≠ p ∧ ks'.Pairwise (· < ·) ∧ (∀ k ∈ ks', k < 1 + m)) ∧ (∀ b o, b ≠ p → b ≠ F0 → H6 b = some o → H' b = some o) ∧ PoolAt H' p (20 + 4 * (i : Int)) ∧
      ∃ (us : List V) (ps : List (List Int)), H' F0 = some (.lst us) ∧ Paired (ptRel H') us ps ∧ ps.Nodup ∧ (∀ r ∈ ps, ∃ v o : Nat, v < i ∧ o < 1 + m ∧ r = strip tn lf v o) ∧ ps.length ≤ 3 * i) ?_ ?_ ?_
    · rw [etn]
      exact ⟨⟨none, none, q, ks, rfl, s6 _ _ hq, qF, qp, ak, bk⟩, fun _ _ _ _ e => e, (B5.same s6).mono (by omega), [], [], o6, .nil, .nil, (fun _ z => nomatch z), Nat.zero_le _⟩
    · rintro i σ H' hi ⟨⟨v7, v8, q', ks', rfl, hq', qF', qp', ak', bk'⟩, kb, B', us, ps, hF, pU, nd, fo, few⟩
      rw [Int.zero_add]
      refine ⟨fun σ2 H2' => ∃ (v8 : Option V) (q2 : Addr) (ks2 : List Nat), σ2 = [some (.ref a), some (.ref p), some (.int (1 + (m : Int))), some (.bl tn), some (.int lf), some (.ref q2), some (.ref F0), some (.int i), v8] ∧ H2' q2 = some (.lst (ks2.map fun (k : Nat) => V.int k)) ∧ q2 ≠ F0 ∧ q2 ≠ p ∧ ks2.Pairwise (· < ·) ∧ (∀ k ∈ ks2, k < 1 + m) ∧ (∀ b o, b ≠ p → b ≠ F0 → H6 b = some o → H2' b = some o) ∧ PoolAt H2' p (24 + 4 * (i : Int)) ∧ H2' F0 = some (.lst us) ∧ Paired (ptRel H2') us ps ∧ ks2.length ≤ 3, ?_, ?_⟩
      · refine ⟨_, rfl, p, _, 12, rfl, B', by omega, by decide, fun r Ha ra rb oa Ba => ⟨rfl, _, rfl, ite2 (fun e => ?_) (fun e => ?_)⟩⟩
        · refine ⟨_, rfl, _, rfl, p, _, 1 + m, rfl, Ba, by omega, by omega, fun q2 ks2 Hb nq2 kb2 Bb hq2 a2 b2 => ?_⟩
          have kab := oa.kb.trans kb2
          exact ⟨_, q2, ks2, rfl, hq2, (fun z => by rw [z, oa.kb _ _ Fp hF] at nq2; cases nq2), Ba.new nq2, a2, b2, fun b o nb nf e => kab b o nb (kb b o nb nf e), Bb.mono (by omega), kab _ _ Fp hF, Paired.mapP pU fun _ _ z => z.nl ((pool_nl oa.kb B').trans (pool_nl kb2 Ba)), few3 a2 b2 (by omega)⟩
        · exact ⟨_, q', ks', rfl, oa.kb _ _ qp' hq', qF', qp', ak', bk', fun b o nb nf e => oa.kb b o nb (kb b o nb nf e), Ba.mono (by omega), oa.kb _ _ Fp hF, Paired.mapP pU fun _ _ z => z.nl (pool_nl oa.kb B'), few3 ak' bk' (by omega)⟩
      rintro σ2 Hc ⟨v8', q2, ks2, rfl, hq2, qF2, qp2, a2, b2, kb2, Bc, hF2, pU2, l3⟩
      refine ⟨_, rfl, q2, rfl, ⟨_, SqL.of hq2⟩, ?_⟩
      refine for_list (xs := ks2.map fun (k : Nat) => V.int k) (fun j σ H'' => (∃ v8 : Option V, σ = [some (.ref a), some (.ref p), some (.int (1 + (m : Int))), some (.bl tn), some (.int lf), some (.ref q2), some (.ref F0), some (.int i), v8]) ∧ (∀ b o, b ≠ F0 → Hc b = some o → H'' b = some o) ∧ ∃ (us' : List V) (ps' : List (List Int)), H'' F0 = some (.lst us') ∧ Paired (ptRel H'') us' ps' ∧ ps' = ps ++ (ks2.take j).map (strip tn lf i)) ⟨⟨_, rfl⟩, fun _ _ _ e => e, us, _, hF2, pU2, by simp⟩ (fun j σ H'' _ r => SqL.of (r.2.1 _ _ qF2 hq2)) ?_ ?_
      · rintro j x σ H'' ex ⟨⟨v8, rfl⟩, kc, us', ps', hF', pU', rfl⟩
        have hj : j < ks2.length := by
          have := (List.getElem?_eq_some_iff.mp ex).1
          rw [List.length_map] at this
          exact this
        obtain rfl : x = .int ks2[j] := by
          rw [List.getElem?_map, List.getElem?_eq_getElem hj] at ex
          exact (Option.some.inj ex).symm
        have lu := paired_len pU'
        rw [List.length_append, List.length_map, List.length_take] at lu
        refine ⟨_, rfl, .inl ⟨rfl, _, SqL.of hF'⟩, _, rfl, tn, rfl, ?_⟩
        cases tn with
        | true =>
          refine iteT ⟨_, rfl, _, rfl, _, _, rfl, rfl, _, rfl, (by show 2 ≤ sizeLine; omega), fun t2 n2 => ?_⟩
          generalize hq_ : L2.upd H'' t2 _ = Hx
          obtain ⟨sx, ox⟩ := _root_.Q.nwS n2 hq_
          clear hq_
          refine ⟨F0, _, _, rfl, rfl, sx _ _ hF', by omega, ?_⟩
          generalize hq_ : L2.upd Hx F0 _ = Hy
          obtain ⟨uy, oy⟩ := _root_.Q.updS hq_
          clear hq_
          have nly := (NL.same sx).trans (NL.put (sx _ _ hF') uy)
          refine ⟨⟨_, rfl⟩, fun b o nf e => uy _ _ nf (sx _ _ (kc b o nf e)), _, _, oy, Paired.snoc (Paired.mapP pU' fun _ _ z => z.nl nly) (show ptRel Hy (.ref t2) (strip true lf i ks2[j]) from ⟨t2, rfl, (NL.put (sx _ _ hF') uy).tup ox⟩), ?_⟩
          rw [List.take_succ_eq_append_getElem hj, List.map_append, List.append_assoc]
          rfl
        | false =>
          refine iteF ⟨_, rfl, _, rfl, _, rfl, _, _, rfl, rfl, (by show 2 ≤ sizeLine; omega), fun t2 n2 => ?_⟩
          generalize hq_ : L2.upd H'' t2 _ = Hx
          obtain ⟨sx, ox⟩ := _root_.Q.nwS n2 hq_
          clear hq_
          refine ⟨F0, _, _, rfl, rfl, sx _ _ hF', by omega, ?_⟩
          generalize hq_ : L2.upd Hx F0 _ = Hy
          obtain ⟨uy, oy⟩ := _root_.Q.updS hq_
          clear hq_
          have nly := (NL.same sx).trans (NL.put (sx _ _ hF') uy)
          refine ⟨⟨_, rfl⟩, fun b o nf e => uy _ _ nf (sx _ _ (kc b o nf e)), _, _, oy, Paired.snoc (Paired.mapP pU' fun _ _ z => z.nl nly) (show ptRel Hy (.ref t2) (strip false lf i ks2[j]) from ⟨t2, rfl, (NL.put (sx _ _ hF') uy).tup ox⟩), ?_⟩
          rw [List.take_succ_eq_append_getElem hj, List.map_append, List.append_assoc]
          rfl
      · rintro σ H'' ⟨⟨v8, rfl⟩, kc, us', ps', hF', pU', rfl⟩
        rw [List.length_map, List.take_length] at pU'
        refine ⟨⟨_, _, q2, ks2, rfl, kc _ _ qF2 hq2, qF2, qp2, a2, b2⟩, fun b o nb nf e => kc b o nf (kb2 b o nb nf e), ?_, us', _, hF', pU', ?_, fun r mr => ?_, ?_⟩
        · obtain ⟨x1, x2, x3, x4, h1, h2⟩ := Bc
          exact ⟨x1, x2, x3, x4, kc _ _ Fp.symm h1, h2.1, by omega⟩
        · refine List.pairwise_append.mpr ⟨nd, List.pairwise_map.mpr (a2.imp fun {x y} h e => ?_), fun r1 m1 r2 m2 e => ?_⟩
          · have := (strip_inj e).2
            omega
          · obtain ⟨v, o, hv, _, e1⟩ := fo r1 m1
            obtain ⟨k, _, e2⟩ := List.mem_map.mp m2
            have := (strip_inj (e1.symm.trans (e.trans e2.symm))).1
            omega
        · rcases List.mem_append.mp mr with mr | mr
          · obtain ⟨v, o, hv, ho, e⟩ := fo r mr
            exact ⟨v, o, by omega, ho, e⟩
          · obtain ⟨k, mk, e⟩ := List.mem_map.mp mr
            exact ⟨i, k, by omega, b2 k mk, e.symm⟩
        · rw [List.length_append, List.length_map]
          omega
    · rintro σ H' ⟨⟨v7, v8, q', ks', rfl, hq', qF', qp', ak', bk'⟩, kb, B', us, ps, hF, pU, nd, fo, few⟩
      refine ⟨_, rfl, ?_⟩
      refine sortedD_of (R := ptRel H') (enc := fun p : List Int => PyData.tuple (p.map PyData.int)) (SqL.of hF) pU (fun v c _ ⟨t, e, h⟩ => by rw [e]; exact dp_ints (SqT.of h)) (.inl ⟨PySem.W.AllAlike.of fun c c' => by
        simp only [PySem.W.alike]
        exact PySem.W.alike_ints _ _, .inl fun d hd => ?_⟩) (fun c _ => by
        have := ptD_depth c
        show (ptD c).depth ≤ 60
        omega) fun l zs nl pz => ?_
      · obtain ⟨r, mr, rfl⟩ := List.mem_map.mp hd
        obtain ⟨v, o, _, _, rfl⟩ := fo r mr
        unfold strip
        cases tn <;> exact ⟨_, _, rfl⟩
      generalize hq_ : L2.upd H' l _ = H7
      obtain ⟨s7, o7⟩ := _root_.Q.nwS nl hq_
      clear hq_
      have me : ∀ r ∈ ps.mergeSort (PySem.W.dataLe false fun p : List Int => PyData.tuple (p.map PyData.int)), ∃ v o : Nat, v < 64 ∧ o < 1 + m ∧ r = strip tn lf v o := fun r mr => fo r (List.mem_mergeSort.mp mr)
      have sm : L2.Same H H' := fun b o e => by
        have bp : b ≠ p := ne_of_none e np
        exact kb _ _ bp (ne_of_none e nFH) (s6 _ _ (k5 _ _ bp (o4.kb _ _ bp (o3.kb _ _ bp (o2.kb _ _ bp (s1 _ _ e))))))
      refine kQ l _ H7 ?_ (sm.trans s7) ⟨zs, o7, Paired.mapP pz fun _ _ z => z.nl (NL.same s7)⟩ ⟨sort_asc nd, ⟨2, by decide, by decide, fun r mr => ?_⟩, fun r mr v mv => ?_, ?_⟩
      · cases z : H l with
        | none => rfl
        | some o => rw [sm _ _ z] at nl; cases nl
      · obtain ⟨v, o, _, _, rfl⟩ := me r mr
        unfold strip
        cases tn <;> rfl
      · obtain ⟨v', o, h1, h2, rfl⟩ := me r mr
        unfold strip at mv
        cases tn with
        | true =>
          rw [if_pos rfl] at mv
          rcases List.mem_cons.mp mv with e | mv
          · omega
          · rw [List.mem_singleton.mp mv]
            omega
        | false =>
          rw [if_neg Bool.false_ne_true] at mv
          rcases List.mem_cons.mp mv with e | mv
          · omega
          · rw [List.mem_singleton.mp mv]
            omega
      · rw [List.length_mergeSort]
        omega

end
end K07

set_option maxRecDepth 100000
set_option maxHeartbeats 4000000
/-! The slab form of an ascending list of rows. -/
namespace Q
open PySem PySem.Spec PyProof.Rows L2
abbrev Part := List Int × List Int
abbrev Run := Int × Int × List Part
def hd (r : List Int) : Int := r.getD 0 0
def headsFrom (ks : List Int) (rows : List (List Int)) : List Int := rows.foldl (fun ks r => if hd r ∈ ks then ks else ks ++ [hd r]) ks
def heads (rows : List (List Int)) : List Int := headsFrom [] rows
def tails (v : Int) (rows : List (List Int)) : List (List Int) := (rows.filter fun r => decide (hd r = v)).map (·.drop 1)
def step (rs : List Run) (v : Int) (ps : List Part) : List Run := match rs.getLast? with
  | some r => if r.2.1 = v ∧ r.2.2 = ps then rs.dropLast ++ [(r.1, v + 1, ps)] else rs ++ [(v, v + 1, ps)]
  | none => rs ++ [(v, v + 1, ps)]
def wide (r : Run) : List Part := r.2.2.map fun p => (r.1 :: p.1, r.2.1 :: p.2)
def spread (rs : List Run) : List Part := rs.flatMap wide
def slabs : Nat → List (List Int) → List Part
  | 0, rows => if rows = [] then [] else [([], [])]
  | k + 1, rows => spread ((heads rows).foldl (fun rs v => step rs v (slabs k (tails v rows))) [])
theorem step_nil (v : Int) (ps : List Part) : step [] v ps = [(v, v + 1, ps)] := rfl
theorem step_snoc (rs : List Run) (r : Run) (v : Int) (ps : List Part) : step (rs ++ [r]) v ps = if r.2.1 = v ∧ r.2.2 = ps then rs ++ [(r.1, v + 1, ps)] else rs ++ [r] ++ [(v, v + 1, ps)] := by
  unfold step
  rw [List.getLast?_concat, List.dropLast_concat]
def joins (rs : List Run) (v : Int) (ps : List Part) : Bool := match rs.getLast? with
  | some r => decide (r.2.1 = v) && decide (r.2.2 = ps)
  | none => false
theorem joins_snoc (rs : List Run) (r : Run) (v : Int) (ps : List Part) : joins (rs ++ [r]) v ps = (decide (r.2.1 = v) && decide (r.2.2 = ps)) := by
  unfold joins
  rw [List.getLast?_concat]
theorem step_no {rs : List Run} {v : Int} {ps : List Part} (h : joins rs v ps = false) : step rs v ps = rs ++ [(v, v + 1, ps)] := by
  rcases List.eq_nil_or_concat rs with rfl | ⟨xs, r, rfl⟩
  · rfl
  · rw [List.concat_eq_append] at h ⊢
    rw [joins_snoc] at h
    rw [step_snoc, if_neg]
    rintro ⟨a, b⟩
    rw [decide_eq_true a, decide_eq_true b] at h
    cases h
theorem step_yes {rs : List Run} {v : Int} {ps : List Part} (h : joins rs v ps = true) : ∃ xs r, rs = xs ++ [r] ∧ r.2.1 = v ∧ r.2.2 = ps ∧ step rs v ps = xs ++ [(r.1, v + 1, ps)] := by
  rcases List.eq_nil_or_concat rs with rfl | ⟨xs, r, rfl⟩
  · cases h
  · rw [List.concat_eq_append] at h ⊢
    rw [joins_snoc, Bool.and_eq_true] at h
    have a := of_decide_eq_true h.1
    have b := of_decide_eq_true h.2
    exact ⟨xs, r, rfl, a, b, by rw [step_snoc, if_pos ⟨a, b⟩]⟩
theorem mem_headsFrom {v : Int} : ∀ {rows : List (List Int)} {ks : List Int}, v ∈ headsFrom ks rows ↔ v ∈ ks ∨ ∃ r ∈ rows, hd r = v
  | [], ks => by
    show v ∈ ks ↔ _
    simp
  | r :: rows, ks => by
    show v ∈ headsFrom (if hd r ∈ ks then ks else ks ++ [hd r]) rows ↔ _
    rw [mem_headsFrom]
    constructor
    · rintro (h | ⟨q, m, e⟩)
      · split at h
        · exact .inl h
        · rcases List.mem_append.mp h with h | h
          · exact .inl h
          · exact .inr ⟨r, List.mem_cons_self, (List.mem_singleton.mp h).symm⟩
      · exact .inr ⟨q, List.mem_cons_of_mem _ m, e⟩
    · rintro (h | ⟨q, m, e⟩)
      · left
        split
        · exact h
        · exact List.mem_append_left _ h
      · rcases List.mem_cons.mp m with rfl | m
        · left
          split
          · rw [← e]
            assumption
          · exact List.mem_append_right _ (by rw [e]; exact List.mem_singleton.mpr rfl)
        · exact .inr ⟨q, m, e⟩
theorem mem_heads {v : Int} {rows : List (List Int)} : v ∈ heads rows ↔ ∃ r ∈ rows, hd r = v := by
  unfold heads
  rw [mem_headsFrom]
  simp
theorem headsFrom_asc : ∀ {rows : List (List Int)} {ks : List Int}, ks.Pairwise (· < ·) → (∀ k ∈ ks, ∀ r ∈ rows, k ≤ hd r) → rows.Pairwise (fun p q => hd p ≤ hd q) → (headsFrom ks rows).Pairwise (· < ·)
  | [], ks, a, _, _ => a
  | r :: rows, ks, a, b, c => by
    show (headsFrom (if hd r ∈ ks then ks else ks ++ [hd r]) rows).Pairwise (· < ·)
    obtain ⟨c1, c2⟩ := List.pairwise_cons.mp c
    split
    · exact headsFrom_asc a (fun k mk q mq => b k mk q (List.mem_cons_of_mem _ mq)) c2
    · rename_i n
      refine headsFrom_asc (List.pairwise_append.mpr ⟨a, List.pairwise_singleton _ _, fun x mx y my => ?_⟩) (fun k mk q mq => ?_) c2
      · rw [List.mem_singleton.mp my]
        have := b x mx r List.mem_cons_self
        have : x ≠ hd r := fun e => n (e ▸ mx)
        omega
      · rcases List.mem_append.mp mk with mk | mk
        · exact b k mk q (List.mem_cons_of_mem _ mq)
        · rw [List.mem_singleton.mp mk]
          exact c1 q mq
theorem row_cons {p : List Int} {k : Nat} (h : p.length = k + 1) : p = hd p :: p.drop 1 := by
  cases p with
  | nil => cases h
  | cons x p => rfl
/-- rows, ascending, of k columns -/
structure RowsK (k : Nat) (rows : List (List Int)) : Prop where
  asc : rows.Pairwise (· < ·)
  len : ∀ r ∈ rows, r.length = k
  val : ∀ r ∈ rows, ∀ v ∈ r, 0 ≤ v ∧ v ≤ 63
theorem row_lt {k : Nat} {p q : List Int} (a : p.length = k + 1) (b : q.length = k + 1) : p < q ↔ hd p < hd q ∨ (hd p = hd q ∧ p.drop 1 < q.drop 1) := by
  rw [row_cons a, row_cons b]
  exact lex_cons
theorem RowsK.heads {k : Nat} {rows : List (List Int)} (R : RowsK (k + 1) rows) : (heads rows).Pairwise (· < ·) := by
  refine headsFrom_asc List.Pairwise.nil (fun _ m => nomatch m) (R.asc.imp_of_mem fun {p q} mp mq h => ?_)
  rcases (row_lt (R.len p mp) (R.len q mq)).mp h with h | ⟨h, _⟩ <;> omega
theorem mem_tails {v : Int} {rows : List (List Int)} {t : List Int} : t ∈ tails v rows ↔ ∃ r ∈ rows, hd r = v ∧ r.drop 1 = t := by
  unfold tails
  rw [List.mem_map]
  constructor
  · rintro ⟨r, m, e⟩
    obtain ⟨m1, m2⟩ := List.mem_filter.mp m
    exact ⟨r, m1, of_decide_eq_true m2, e⟩
  · rintro ⟨r, m, e1, e2⟩
    exact ⟨r, List.mem_filter.mpr ⟨m, decide_eq_true e1⟩, e2⟩
theorem RowsK.tails {k : Nat} {rows : List (List Int)} (R : RowsK (k + 1) rows) (v : Int) : RowsK k (tails v rows) := by
  refine ⟨?_, fun t m => ?_, fun t m x mx => ?_⟩
  · unfold Q.tails
    refine List.pairwise_map.mpr ((R.asc.filter _).imp_of_mem fun {p q} mp mq h => ?_)
    obtain ⟨p1, p2⟩ := List.mem_filter.mp mp
    obtain ⟨q1, q2⟩ := List.mem_filter.mp mq
    have p2 := of_decide_eq_true p2
    have q2 := of_decide_eq_true q2
    rcases (row_lt (R.len p p1) (R.len q q1)).mp h with h | ⟨_, h⟩
    · omega
    · exact h
  · obtain ⟨r, mr, _, rfl⟩ := mem_tails.mp m
    have := R.len r mr
    rw [List.length_drop]
    omega
  · obtain ⟨r, mr, _, rfl⟩ := mem_tails.mp m
    exact R.val r mr x (List.mem_of_mem_drop mx)
theorem tails_len (v : Int) (rows : List (List Int)) : (tails v rows).length ≤ rows.length := by
  unfold tails
  rw [List.length_map]
  exact List.length_filter_le _ _
theorem RowsK.head_val {k : Nat} {rows : List (List Int)} (R : RowsK (k + 1) rows) {v : Int} (m : v ∈ Q.heads rows) : 0 ≤ v ∧ v ≤ 63 := by
  obtain ⟨r, mr, rfl⟩ := mem_heads.mp m
  have e := row_cons (R.len r mr)
  exact R.val r mr _ (by rw [e]; exact List.mem_cons_self)
theorem RowsK.few {k : Nat} {rows : List (List Int)} (R : RowsK (k + 1) rows) : (Q.heads rows).length ≤ 64 := by
  have nd : (Q.heads rows).Nodup := List.Pairwise.imp (S := fun a b => a ≠ b) (fun {a b} h e => by omega) R.heads
  have := nodup_len (m := upTo 0 64) nd fun x m => upTo_mem.mpr (by have := R.head_val m; omega)
  rw [upTo_len] at this
  exact this
abbrev sp (p : Part) : List (List Int) := spots p.1 p.2
theorem flat_perm {α β : Type} {f g h : α → List β} (e : ∀ a, h a = f a ++ g a) : ∀ l : List α, (l.flatMap h).Perm (l.flatMap f ++ l.flatMap g)
  | [] => List.Perm.refl _
  | a :: l => by
    rw [List.flatMap_cons, List.flatMap_cons, List.flatMap_cons, e]
    refine ((flat_perm e l).append_left (f a ++ g a)).trans ?_
    rw [List.append_assoc, List.append_assoc]
    refine List.Perm.append_left _ ?_
    rw [← List.append_assoc, ← List.append_assoc]
    exact List.Perm.append_right _ List.perm_append_comm
theorem upTo_one (v : Int) : upTo v (v + 1) = [v] := by
  unfold upTo
  rw [show (v + 1 - v).toNat = 1 by omega]
  show [v + ((0 : Nat) : Int)] = [v]
  simp
theorem upTo_more {a v : Int} (h : a < v) : upTo a (v + 1) = upTo a v ++ [v] := by
  unfold upTo
  obtain ⟨n, e⟩ : ∃ n : Nat, v = a + n := ⟨(v - a).toNat, by omega⟩
  subst e
  rw [show (a + n + 1 - a).toNat = n + 1 by omega, show (a + n - a).toNat = n by omega, List.range_succ, List.map_append]
  rfl
theorem sp_wide (r : Run) : (wide r).flatMap sp = r.2.2.flatMap fun p => (upTo r.1 r.2.1).flatMap fun v => (sp p).map (v :: ·) := by
  unfold wide
  rw [List.flatMap_map]
  rfl
theorem sp_one (v : Int) (ps : List Part) : (wide (v, v + 1, ps)).flatMap sp = (ps.flatMap sp).map (v :: ·) := by
  rw [sp_wide, List.map_flatMap]
  show ps.flatMap (fun p => (upTo v (v + 1)).flatMap fun v => (sp p).map (v :: ·)) = _
  rw [upTo_one]
  congr 1
  funext p
  rw [List.flatMap_singleton]
/-- what a run and a part keep -/
def OkP (k : Nat) (p : Part) : Prop := p.1.length = k ∧ Full p.1 p.2 ∧ (∀ v ∈ p.1, 0 ≤ v) ∧ (∀ v ∈ p.2, v ≤ 64)
def OkR (k : Nat) (r : Run) : Prop := r.1 < r.2.1 ∧ 0 ≤ r.1 ∧ r.2.1 ≤ 64 ∧ ∀ p ∈ r.2.2, OkP k p
theorem step_keeps {k : Nat} {rs : List Run} {v : Int} {ps : List Part} {ts : List (List Int)} (h : ∀ r ∈ rs, OkR k r) (b : 0 ≤ v ∧ v ≤ 63) (o : ∀ p ∈ ps, OkP k p) (pm : (ps.flatMap sp).Perm ts) :
    (∀ r ∈ step rs v ps, OkR k r) ∧ ((spread (step rs v ps)).flatMap sp).Perm ((spread rs).flatMap sp ++ ts.map (v :: ·)) := by
  have nw : OkR k (v, v + 1, ps) := ⟨by show v < v + 1; omega, b.1, by show v + 1 ≤ 64; omega, o⟩
  have one : ((wide (v, v + 1, ps)).flatMap sp).Perm (ts.map (v :: ·)) := by
    rw [sp_one]
    exact pm.map _
  have sps : ∀ (xs : List Run) (r : Run), (spread (xs ++ [r])).flatMap sp = (spread xs).flatMap sp ++ (wide r).flatMap sp := fun xs r => by
    unfold spread
    rw [List.flatMap_append, List.flatMap_append, List.flatMap_singleton]
  rcases List.eq_nil_or_concat rs with rfl | ⟨xs, r, rfl⟩
  · rw [step_nil]
    exact ⟨fun r m => by rw [List.mem_singleton.mp m]; exact nw, by rw [← List.nil_append [(v, v + 1, ps)], sps]; exact one⟩
  rw [List.concat_eq_append] at h ⊢
  rw [step_snoc]
  split
  · rename_i c
    obtain ⟨c1, c2⟩ := c
    obtain ⟨a, b', qs⟩ := r
    have c1 : b' = v := c1
    have c2 : qs = ps := c2
    subst c1
    subst c2
    obtain ⟨h1, h2, h3, h4⟩ := h (a, b', qs) (List.mem_append_right _ (List.mem_singleton.mpr rfl))
    have h1 : a < b' := h1
    refine ⟨fun r m => ?_, ?_⟩
    · rcases List.mem_append.mp m with m | m
      · exact h r (List.mem_append_left _ m)
      · rw [List.mem_singleton.mp m]
        exact ⟨by show a < b' + 1; omega, h2, by show b' + 1 ≤ 64; omega, o⟩
    · rw [sps, sps, List.append_assoc]
      refine List.Perm.append_left _ ?_
      rw [sp_wide, sp_wide]
      show (qs.flatMap fun p => (upTo a (b' + 1)).flatMap fun v => (sp p).map (v :: ·)).Perm ((qs.flatMap fun p => (upTo a b').flatMap fun v => (sp p).map (v :: ·)) ++ ts.map (b' :: ·))
      rw [upTo_more h1]
      refine (flat_perm (f := fun p => (upTo a b').flatMap fun v => (sp p).map (v :: ·)) (g := fun p => (sp p).map (b' :: ·)) (fun p => by rw [List.flatMap_append, List.flatMap_singleton]) qs).trans (List.Perm.append_left _ ?_)
      rw [← List.map_flatMap]
      exact pm.map _
  · refine ⟨fun q m => ?_, ?_⟩
    · rcases List.mem_append.mp m with m | m
      · exact h q m
      · rw [List.mem_singleton.mp m]
        exact nw
    · rw [sps]
      exact List.Perm.append_left _ one
theorem fold_keeps {k : Nat} {rows : List (List Int)} {g : Int → List Part} (hg : ∀ v, (∀ p ∈ g v, OkP k p) ∧ ((g v).flatMap sp).Perm (tails v rows)) : ∀ (vs : List Int) (rs : List Run), (∀ v ∈ vs, 0 ≤ v ∧ v ≤ 63) → (∀ r ∈ rs, OkR k r) →
    (∀ r ∈ vs.foldl (fun rs v => step rs v (g v)) rs, OkR k r) ∧ ((spread (vs.foldl (fun rs v => step rs v (g v)) rs)).flatMap sp).Perm ((spread rs).flatMap sp ++ vs.flatMap fun v => (tails v rows).map (v :: ·))
  | [], rs, _, h => ⟨h, by rw [List.flatMap_nil, List.append_nil]; exact List.Perm.refl _⟩
  | v :: vs, rs, b, h => by
    obtain ⟨g1, g2⟩ := hg v
    obtain ⟨s1, s2⟩ := step_keeps h (b v List.mem_cons_self) g1 g2
    obtain ⟨f1, f2⟩ := fold_keeps hg vs (step rs v (g v)) (fun x m => b x (List.mem_cons_of_mem _ m)) s1
    refine ⟨f1, f2.trans ?_⟩
    rw [List.flatMap_cons, ← List.append_assoc]
    exact s2.append_right _
theorem heads_cover {k : Nat} {rows : List (List Int)} (R : RowsK (k + 1) rows) : ((heads rows).flatMap fun v => (tails v rows).map (v :: ·)).Perm rows := by
  have e : ((heads rows).flatMap fun v => (tails v rows).map (v :: ·)) = (heads rows).flatMap fun v => rows.filter fun r => decide (hd r = v) := by
    congr 1
    funext v
    unfold tails
    rw [List.map_map]
    conv => rhs; rw [← List.map_id (rows.filter fun r => decide (hd r = v))]
    refine List.map_congr_left fun r m => ?_
    obtain ⟨m1, m2⟩ := List.mem_filter.mp m
    have m2 := of_decide_eq_true m2
    have z := row_cons (R.len r m1)
    rw [m2] at z
    exact z.symm
  have nd : rows.Nodup := List.Pairwise.imp (S := fun a b => a ≠ b) (fun {a b} h e => lex_irr a (by rw [← e] at h; exact h)) R.asc
  rw [e]
  refine (List.perm_ext_iff_of_nodup ?_ nd).mpr fun r => ?_
  · show List.Pairwise (· ≠ ·) _
    rw [List.pairwise_flatMap]
    refine ⟨fun v _ => List.Pairwise.filter _ nd, R.heads.imp fun {v v'} h x mx y my e => ?_⟩
    have h1 := of_decide_eq_true (List.mem_filter.mp mx).2
    have h2 := of_decide_eq_true (List.mem_filter.mp my).2
    rw [e] at h1
    omega
  · rw [List.mem_flatMap]
    constructor
    · rintro ⟨v, _, m⟩
      exact (List.mem_filter.mp m).1
    · intro m
      exact ⟨hd r, mem_heads.mpr ⟨r, m, rfl⟩, List.mem_filter.mpr ⟨m, decide_eq_true rfl⟩⟩
theorem spread_take (rs : List Run) (n : Nat) : (spread (rs.take n)).length ≤ (spread rs).length := by
  conv => rhs; rw [← List.take_append_drop n rs]
  unfold spread
  rw [List.flatMap_append, List.length_append]
  exact Nat.le_add_right _ _
theorem spread_snoc (rs : List Run) {i : Nat} (h : i < rs.length) : spread (rs.take (i + 1)) = spread (rs.take i) ++ wide rs[i] := by
  rw [List.take_succ_eq_append_getElem h]
  unfold spread
  rw [List.flatMap_append, List.flatMap_singleton]
theorem wide_at (r : Run) {j : Nat} (h : j < (wide r).length) (h' : j < r.2.2.length) : (wide r)[j] = (r.1 :: r.2.2[j].1, r.2.1 :: r.2.2[j].2) := List.getElem_map (fun p : Part => (r.1 :: p.1, r.2.1 :: p.2)) (l := r.2.2) (h := h)
theorem rows_zero {rows : List (List Int)} (R : RowsK 0 rows) : rows = [] ∨ rows = [[]] := by
  match rows, R with
  | [], _ => exact .inl rfl
  | [r], R => exact .inr (by rw [List.eq_nil_of_length_eq_zero (R.len r List.mem_cons_self)])
  | r :: q :: _, R =>
    have h1 := List.eq_nil_of_length_eq_zero (R.len r List.mem_cons_self)
    have h2 := List.eq_nil_of_length_eq_zero (R.len q (List.mem_cons_of_mem _ List.mem_cons_self))
    have := (List.pairwise_cons.mp R.asc).1 q List.mem_cons_self
    rw [h1, h2] at this
    exact absurd this (lex_irr _)
theorem slabs_spec : ∀ {k : Nat} {rows : List (List Int)}, RowsK k rows → (∀ p ∈ slabs k rows, OkP k p) ∧ ((slabs k rows).flatMap sp).Perm rows
  | 0, rows, R => by
    rcases rows_zero R with rfl | rfl
    · exact ⟨(fun _ m => nomatch m), List.Perm.refl _⟩
    · refine ⟨fun p m => ?_, List.Perm.refl _⟩
      have m : p ∈ [(([] : List Int), ([] : List Int))] := m
      rw [List.mem_singleton.mp m]
      exact ⟨rfl, trivial, (fun _ z => nomatch z), (fun _ z => nomatch z)⟩
  | k + 1, rows, R => by
    obtain ⟨f1, f2⟩ := fold_keeps (k := k) (rows := rows) (g := fun v => slabs k (tails v rows)) (fun v => slabs_spec (R.tails v)) (heads rows) [] (fun v m => R.head_val m) (fun _ m => nomatch m)
    refine ⟨fun p m => ?_, f2.trans (heads_cover R)⟩
    obtain ⟨r, mr, mp⟩ := List.mem_flatMap.mp m
    obtain ⟨q, mq, rfl⟩ := List.mem_map.mp mp
    obtain ⟨h1, h2, h3, h4⟩ := f1 r mr
    obtain ⟨q1, q2, q3, q4⟩ := h4 q mq
    refine ⟨by show (r.1 :: q.1).length = k + 1; rw [List.length_cons, q1], ⟨h1, q2⟩, fun v m => ?_, fun v m => ?_⟩
    · rcases List.mem_cons.mp m with rfl | m
      · exact h2
      · exact q3 v m
    · rcases List.mem_cons.mp m with rfl | m
      · exact h3
      · exact q4 v m
theorem flat_count {α β : Type} {f : α → List β} : ∀ {l : List α}, (∀ a ∈ l, 1 ≤ (f a).length) → l.length ≤ (l.flatMap f).length
  | [], _ => Nat.zero_le _
  | a :: l, h => by
    have h1 := h a List.mem_cons_self
    have h2 := flat_count (l := l) fun b m => h b (List.mem_cons_of_mem _ m)
    rw [List.flatMap_cons, List.length_append, List.length_cons]
    omega
theorem slabs_few {k : Nat} {rows : List (List Int)} (R : RowsK k rows) : (slabs k rows).length ≤ rows.length := by
  obtain ⟨a, b⟩ := slabs_spec R
  rw [← b.length_eq]
  refine flat_count fun p m => ?_
  rw [spots_len]
  exact cnt_pos (a p m).2.1
end Q

set_option maxRecDepth 100000
set_option maxHeartbeats 4000000
/-! set(a list of whole numbers), and such a set sorted, however many it has. -/
namespace Q
open PySem PySem.Spec PyProof.Rows L2
section
variable {P : Program} {w : World} {A : Around} {E : Value → Shared → Prop} {s : Shared}
/-- a set as it is made -/
abbrev set0 (w : World) : Obj := { cls := .type "set", dict := none, data := .set #[] 0 (.fresh 0 0 (!w.params.followText "set-order")) }
set_option maxHeartbeats 8000000 in
theorem set_of_list {l : Addr} {xs : Array Value} (ns : List Int) {Q : Value → Shared → Prop} (hA : A.handled = none) (hl : s.heap.IsList l xs) (hi : IntsAre xs.toList ns) (few : ns.length + 1 < scanBound)
    (todo : ∀ (h' : Heap) (tk c : Nat), SetR w h' s.heap.objs.size (fun j => decide (j ∈ ns)) c → c ≤ ns.length → (∀ b o, s.heap.get? b = some o → h'.get? b = some o) → Q (.ref s.heap.objs.size) { s with heap := h', toks := tk }) :
    wpAny (model P w) A (call (.type "set") [.ref l]) Q E s := by
  have sz : xs.size = ns.length := (Array.length_toList ▸ IntsAre.length hi :)
  have atS : (s.heap.push (set0 w)).get? s.heap.objs.size = some (set0 w) := Heap.get?_push_size _ rfl
  have upS : (s.heap.push (set0 w)).objs.size = s.heap.objs.size + 1 := Heap.size_push ..
  have lS : l < s.heap.objs.size := let ⟨_, e, _⟩ := hl; Heap.lt_size e
  obtain ⟨c, tl, hmro⟩ := F.called_set.mro
  have hmade := F.called_set.made
  have hsub := F.called_set.sub
  refine wpAny_call (codeAny_of_tree (show wpAny _ _ (callAny (.type "set") _) _ _ _ from wpAny_pure ⟨Code.quiet_builtin _ (by decide +kernel), codeAny_builtin F.entry_type_call ?_⟩))
  rw [Around.under_plain (weight_type_call_type "set" [.ref l] []) rfl]
  have no := F.called_set.notType
  have can := F.called_set.canCreate
  have one := F.typeCall_set_1 (.ref l)
  repeat (any_goals (first | assumption | wp_step))
  refine codeAny_mono (code_set_led1 (.ref l) (E := E) (Q₁ := fun obj s₁ => obj = .ref s.heap.objs.size ∧ s₁ = { s with heap := s.heap.push (set0 w) }) ⟨rfl, rfl⟩) fun r s₁ hr => ?_
  match r, hr with
  | .error e, hr => exact hr
  | .ok .next, hr => exact hr.elim
  | .ok .brk, hr => exact hr.elim
  | .ok .cont, hr => exact hr.elim
  | .ok (.ret obj), hr =>
    obtain ⟨rfl, rfl⟩ := hr
    have tS : Shared.TypeIs { s with heap := s.heap.push (set0 w) } (.ref s.heap.objs.size) "set" := ⟨_, atS, rfl⟩
    have i1 := F.called_set.init.lookup
    have i2 := F.called_set.init.bind (.ref s.heap.objs.size)
    repeat (any_goals (first | assumption | wp_step))
    refine codeAny_mono (codeAny_call_builtin (R := wants (fun r s₂ => r = .none ∧ ∃ h' tk c, s₂ = { s with heap := h', toks := tk } ∧ SetR w h' s.heap.objs.size (fun j => decide (j ∈ ns)) c ∧ c ≤ ns.length ∧ (∀ b o, s.heap.get? b = some o → h'.get? b = some o)) E)
      F.called_set.init.plain F.entry_set_init (check_set_init_1 tS ?_)) fun r₂ s₂ hr₂ => ?_
    · obtain ⟨⟨cl, dd, da, sl⟩, atl, hc, nl, hd⟩ := hl
      simp only at hc hd
      subst hc hd
      have atl' := Heap.get?_push_of_some (set0 w) atl
      have q1 := F.sub_list_set
      have q2 := F.sub_list_frozenset
      have q3 : (Value.type "list" == Value.type "dict") = false := by decide
      have isl : (s.heap.push (set0 w)).IsList l xs := ⟨_, atl', rfl, nl, rfl⟩
      unfold Builtin.«set.__init__» noKeywords Builtin.Frozenset.updateFrom
      generalize hPI : pyIter = PI
      wp_walk
      subst hPI
      refine wpAny_pyIter_list isl (wpAny_bind (wpAny_runValue ?_))
      have hA3 : A.in1.in1.in1.handled = none := by simp [hA]
      have lI : l ≠ (s.heap.push (set0 w)).objs.size := by rw [upS]; exact Nat.ne_of_lt (Nat.lt_succ_of_lt lS)
      have offS : s.heap.objs.size ∉ [(s.heap.push (set0 w)).objs.size, l] := by
        rw [upS]
        simp only [List.mem_cons, List.mem_singleton, List.not_mem_nil, or_false, not_or]
        exact ⟨Nat.ne_of_lt (Nat.lt_succ_self _), Nat.ne_of_gt lS⟩
      have val : ∀ (i : Nat) (v : Value), xs[i]? = some v → ∃ k t, ns[i]? = some k ∧ v = .int k t := fun i v hv => by
        have hin : i < ns.length := by rw [← sz]; exact (Array.getElem?_eq_some_iff.mp hv).1
        obtain ⟨t, e⟩ := IntsAre.int_at hi i v (by rw [Array.getElem?_toList]; exact hv)
        exact ⟨ns[i], t, List.getElem?_eq_getElem hin, by rw [e, List.getD_eq_getElem?_getD, List.getElem?_eq_getElem hin]; rfl⟩
      refine set_update_ints ((Walks.list hA3 _ l lI xs).toS) s.heap.objs.size offS ns sz few val (xs.size - 0) 0 _ (by omega) (Nat.zero_le _) ⟨⟨_, Heap.get?_push_size _ rfl, rfl, rfl⟩, (isl.push _)⟩ ⟨0, Nat.le_refl 0, setR_new_at (Heap.get?_push_of_some _ atS)⟩ fun s' c' hm hc' hS' => ?_
      obtain ⟨h', g2, d', tk', os'⟩ := s'
      obtain rfl : g2 = s.gens := hm.gens
      obtain rfl : d' = s.drawn := hm.drawn
      obtain rfl : os' = s.os := hm.os
      show wpAny _ _ _ _ _ _
      refine wpAny_pure (show wpAny _ _ (ret Value.none) _ _ _ from wpAny_pure ⟨rfl, h', tk', c', rfl, hS', by rw [← sz]; exact hc', fun b o e => ?_⟩)
      have b0 : b < s.heap.objs.size := Heap.lt_size e
      refine hm.heap b o ?_ (Heap.get?_push_of_some _ (Heap.get?_push_of_some _ e))
      rw [upS]
      simp only [List.mem_cons, List.mem_singleton, List.not_mem_nil, or_false, not_or]
      exact ⟨Nat.ne_of_lt b0, Nat.ne_of_lt (Nat.lt_succ_of_lt b0)⟩
    · match r₂, hr₂ with
      | .error e, hr₂ => exact hr₂
      | .ok .next, hr₂ => exact hr₂.elim
      | .ok .brk, hr₂ => exact hr₂.elim
      | .ok .cont, hr₂ => exact hr₂.elim
      | .ok (.ret r), hr₂ =>
        obtain ⟨rfl, h', tk, c', rfl, hS', hc', hk'⟩ := hr₂
        repeat (any_goals (first | assumption | wp_step))
        exact todo _ _ _ hS' hc' hk'
end
section
variable {P : Program} {w : World} {A : Around} {E : Value → Shared → Prop} {s : Shared}
theorem sorted_setN {a : Addr} {S : Int → Bool} {n : Nat} {Q : Value → Shared → Prop} (R : SetR w s.heap a S n) (hA : A.handled = none) (few : n ≤ 4000)
    (todo : ∀ s' p (out : List Value) (c : Nat) (ns : List Int), (∀ b o, s.heap.get? b = some o → s'.heap.get? b = some o) → s'.gens = s.gens → s'.os = s.os → s.heap.objs.size ≤ p → s'.heap.get? p = some (seqObj "list" out.toArray c) → IntsAre out ns →
      ns.Pairwise (· < ·) → (∀ k, k ∈ ns ↔ S k = true) → ns.length = n → Q (.ref p) s') : wpAny (model P w) A (call (.builtin "sorted") [.ref a]) Q E s := by
  obtain ⟨o, es, ep, t, ho, hex, hd, g, nd, hm, hb, hf, hn, hr, hl⟩ := R
  refine Calls.call_function_entry kind_sorted plain_sorted entry_sorted (args_sorted1 _) ?_
  unfold Builtin.«sorted»
  refine wpAny_bind (m := checkCount "sorted" 1 1 _) (wpAny_pure (wpAny_bind (collect_set (A := A.in1) hA ⟨o, ho, hex.1, hd⟩ hf hb hr hl fun s1 vs k1 hz g1 o1 pm => ?_)))
  have hvl : vs.length = n := by rw [pm.length_eq, List.length_map, Array.length_toList, hn]
  have big : 4001 ≤ sizeLine := by decide
  have hI : IntsAre vs (vs.map Builtin.Re.reRawOf) := ints_of vs fun v hv => by
    obtain ⟨e, he, q⟩ := List.mem_map.mp (pm.mem_iff.mp hv)
    obtain ⟨k, tk, h1, _⟩ := g e he
    exact ⟨k, tk, q ▸ h1⟩
  have pk : (vs.map Builtin.Re.reRawOf).Perm (es.toList.map keyOf) := by
    have q := pm.map Builtin.Re.reRawOf
    rwa [List.map_map] at q
  refine wpAny_bind (wpAny_newList ?_ (by rw [hvl]; omega))
  have atL : (s1.heap.push (seqObj "list" vs.toArray 0)).get? s1.heap.objs.size = some (seqObj "list" vs.toArray 0) := Heap.get?_push_size _ rfl
  refine wpAny_bind (wpAny_holding (wpAny_call_entry slot_list_sort ⟨_, atL, rfl⟩ entry_list_sort (SrtO.list_sort_ord SrtO.swo_int atL (by rw [hvl]; omega) (fun h2 => SrtO.ints_sortable hI h2) fun out h1 h2 => ⟨_, rfl, ?_⟩) (args_list_sort _)))
  obtain ⟨a1, a2, a3⟩ := SrtO.ints_out hI h1 h2
  obtain ⟨c, hc⟩ := sortedHeap_at (vs := vs) (out := out.toArray) atL
  have pn := a2.trans pk
  refine wpAny_pure ⟨_, rfl, todo _ s1.heap.objs.size out c _ (fun b u e => ?_) g1 o1 hz hc a1 (lt_of_le_nodup _ a3 (pn.nodup_iff.mpr nd)) (fun k => by rw [pn.mem_iff, ← hm k]) ?_⟩
  · have q := k1 b u e
    have lt := Heap.lt_size q
    show (sortedHeap (s1.heap.push (seqObj "list" vs.toArray 0)) s1.heap.objs.size vs out.toArray).get? b = some u
    rw [sortedHeap_old (Nat.ne_of_lt lt) (by rw [size_push']; exact Nat.lt_succ_of_lt lt)]
    exact Heap.get?_push_of_some _ q
  · rw [pn.length_eq, List.length_map, Array.length_toList, hn]
end
/-- set(xs), xs a list of whole numbers -/
@[irreducible] def rSetI (K : PySem.W.Frag) (w : World) : List V → Hp → VK → Prop := fun vs H Q => ∃ (a : Addr) (ns : List Int), vs = [.ref a] ∧ SqL K H a (ns.map V.int) ∧ ns.length ≤ 4000 ∧ ∀ p c, H p = none → c ≤ ns.length → Q (.ref p) (upd H p (SetO w p (fun j => decide (j ∈ ns)) c))
theorem call_setI {X : Cx} (hc : X.calm = true) : CallR X (.type "set") (rSetI X.K X.w) := by
  intro pins s σ H vs us Q I r h
  unfold rSetI at h
  obtain ⟨a, ns, rfl, hs, few, q⟩ := h
  obtain ⟨its, rv, hl, hz⟩ := I.list hs
  rw [Vals.ref1 r]
  refine set_of_list (xs := its.toArray) ns (I.ok.hd hc) hl.isList (by simpa using rv.ints) (by have : 4002 ≤ scanBound := by decide
                                                                                                omega) fun h' tk c R hc' k => ?_
  exact ⟨.ref s.heap.objs.size, upd H s.heap.objs.size (SetO X.w s.heap.objs.size (fun j => decide (j ∈ ns)) c), I.laid (t' := tk) k (Nat.le_refl _) (setO_new R), rfl, q _ c (I.hok.fresh (Nat.le_refl _)) hc'⟩
/-- sorted(s) of such a set -/
@[irreducible] def rSortedN (w : World) : List V → Hp → VK → Prop := fun vs H Q => ∃ (a : Addr) (S : Int → Bool) (n : Nat), vs = [V.ref a] ∧ H a = some (SetO w a S n) ∧ n ≤ 4000 ∧
  ∀ (ns : List Int) (p : Addr), ns.Pairwise (· < ·) → (∀ k : Int, k ∈ ns ↔ S k = true) → H p = none → Q (.ref p) (upd H p (.lst (ns.map V.int)))
theorem cr_sortedN {X : Cx} (hc : X.calm = true) : CallR X (.builtin "sorted") (rSortedN X.w) := by
  intro pins s σ H vs us Q I r h
  unfold rSortedN at h
  obtain ⟨a, S, n, rfl, ha, few, q⟩ := h
  rw [Vals.ref1 r]
  refine sorted_setN (setO_get I ha) (I.ok.hd hc) few fun s' p out c ns k g o hp hg hi hs hm hl => ?_
  have big : 4001 ≤ sizeLine := by decide
  have hn : H p = none := I.hok.fresh hp
  have J : Inv X pins σ (upd H p (.lst (ns.map V.int))) { s with heap := s'.heap, gens := s'.gens, drawn := s'.drawn, toks := s'.toks } :=
    I.call (ch := []) (Un.laid k hp hn) (I.hok.laid k hp ⟨by rw [List.length_map, hl]; omega, out, c, vals_of_ints hi, hg⟩) (by rw [g]; exact I.bare) (fun _ z => nomatch z)
  have e : s' = { s with heap := s'.heap, gens := s'.gens, drawn := s'.drawn, toks := s'.toks } := by
    cases s'; cases s; cases o; rfl
  rw [e]
  exact ⟨.ref p, _, J, rfl, q ns p hs hm hn⟩
theorem setI_of {K : PySem.W.Frag} {w : World} {H : Hp} {a : Addr} {ns : List Int} {Q : VK} (h : SqL K H a (ns.map V.int)) (l : ns.length ≤ 4000) (q : ∀ p c, H p = none → c ≤ ns.length → Q (.ref p) (upd H p (SetO w p (fun j => decide (j ∈ ns)) c))) : rSetI K w [.ref a] H Q := by
  unfold rSetI
  exact ⟨a, ns, rfl, h, l, q⟩
theorem sortedN_of {w : World} {H : Hp} {a : Addr} {S : Int → Bool} {n : Nat} {Q : VK} (h : H a = some (SetO w a S n)) (l : n ≤ 4000) (q : ∀ (ns : List Int) (p : Addr), ns.Pairwise (· < ·) → (∀ k : Int, k ∈ ns ↔ S k = true) → H p = none → Q (.ref p) (upd H p (.lst (ns.map V.int)))) : rSortedN w [.ref a] H Q := by
  unfold rSortedN
  exact ⟨a, S, n, rfl, h, l, q⟩
end Q

set_option maxRecDepth 100000
set_option maxHeartbeats 4000000
/-! Small rules. -/
namespace Q
open PySem PySem.Spec PyProof.Rows L2
theorem none_same {H H1 : Hp} {p : Addr} (s : L2.Same H H1) (n : H1 p = none) : H p = none := by
  cases z : H p with
  | none => rfl
  | some o => rw [s _ _ z] at n; cases n
theorem sqL_keep {K : PySem.W.Frag} {H H' : Hp} {a : Addr} {xs : List V} (k : ∀ o, H a = some o → H' a = some o) (h : SqL K H a xs) : SqL K H' a xs := by
  rcases h with (h | ⟨o, h⟩) | h
  · exact .inl (.inl (k _ h))
  · exact .inl (.inr ⟨o, k _ h⟩)
  · exact .inr h
theorem sqL_same {K : PySem.W.Frag} {H H' : Hp} {a : Addr} {xs : List V} (e : L2.Same H H') (h : SqL K H a xs) : SqL K H' a xs := sqL_keep (fun o => e a o) h
theorem paired_mem {α β : Type} {R : α → β → Prop} {as : List α} {bs : List β} (h : Paired R as bs) : Paired (fun a b => R a b ∧ b ∈ bs) as bs := by
  have go : ∀ {as : List α} {cs : List β}, Paired R as cs → (∀ c ∈ cs, c ∈ bs) → Paired (fun a b => R a b ∧ b ∈ bs) as cs := fun {as cs} h => by
    induction h with
    | nil => exact fun _ => .nil
    | cons a _ ih => exact fun k => .cons ⟨a, k _ List.mem_cons_self⟩ (ih fun c m => k c (List.mem_cons_of_mem _ m))
  exact go h fun _ m => m
theorem paired_l {α β : Type} {R : α → β → Prop} {as : List α} {bs : List β} (h : Paired R as bs) : ∀ a ∈ as, ∃ b, R a b := by
  induction h with
  | nil => exact fun _ m => nomatch m
  | cons x _ ih => exact fun a m => (List.mem_cons.mp m).elim (fun e => ⟨_, e ▸ x⟩) (ih a)
theorem paired_snoc {α β : Type} {R : α → β → Prop} : ∀ {bs : List β} {as : List α} {b : β}, Paired R as (bs ++ [b]) → ∃ as' a, as = as' ++ [a] ∧ Paired R as' bs ∧ R a b
  | [], _, _, .cons h .nil => ⟨[], _, rfl, .nil, h⟩
  | _ :: _, _, _, .cons h t => by
    obtain ⟨as', a, e, p, r⟩ := paired_snoc t
    exact ⟨_ :: as', a, by rw [e]; rfl, .cons h p, r⟩
theorem catT_of {K : PySem.W.Frag} {H : Hp} {p tl : Addr} {z : Int} {l : List Int} {Q : VK} (hp : H p = some (.tup [.int z])) (hl : SqT K H tl (l.map V.int)) (len : l.length ≤ 1000) (q : ∀ r H', L2.Same H H' → SqT K H' r ((z :: l).map V.int) → Q (.ref r) H') : rCatT K (.ref p) (.ref tl) H Q := by
  refine ⟨p, tl, _, _, rfl, rfl, SqT.of hp, hl, (fun e => nomatch e), ?_, fun e => ?_, fun _ r nr => q r _ (same_new nr) (SqT.of upd_same)⟩
  · have : 20000 < sizeLine := by decide
    rw [List.length_map]
    show 1 + l.length ≤ sizeLine
    omega
  · have e : l = [] := by simpa using e
    subst e
    exact q p H (Same.refl _) (SqT.of hp)
/-- a test answered apart from what follows it -/
theorem ifS_of {c : TT} {t u : TS} {D : Ends} {σ : L2.St} {H : Hp} (b : Bool) (H' : Hp) (h : ∀ Q : Bool → Hp → Prop, Q b H' → c σ H Q) (k : if b = true then t D σ H' else u D σ H') : tIfS c t u D σ H := h _ k
theorem nameIf_of {c : TT} {t u : TS} {D : Ends} {σ : L2.St} {H : Hp} {i : Nat} {v : V} (b : Bool) (H' : Hp) (h : ∀ Q : Bool → Hp → Prop, Q b H' → c (σ.set i (some v)) H Q) (k : if b = true then t D (σ.set i (some v)) H' else u D (σ.set i (some v)) H') : gName i v σ H (tIfS c t u D) := h _ k
theorem paired_memL {α β : Type} {R : α → β → Prop} {as : List α} {bs : List β} (h : Paired R as bs) : Paired (fun a b => R a b ∧ a ∈ as) as bs := by
  have go : ∀ {cs : List α} {ds : List β}, Paired R cs ds → (∀ c ∈ cs, c ∈ as) → Paired (fun a b => R a b ∧ a ∈ as) cs ds := fun {cs ds} h => by
    induction h with
    | nil => exact fun _ => .nil
    | cons a _ ih => exact fun k => .cons ⟨a, k _ List.mem_cons_self⟩ (ih fun c m => k c (List.mem_cons_of_mem _ m))
  exact go h fun _ m => m
theorem paired_fmap {α β γ : Type} {R : α → γ → Prop} {f : β → γ} {as : List α} {bs : List β} (h : Paired (fun a b => R a (f b)) as bs) : Paired R as (bs.map f) := by
  induction h with
  | nil => exact .nil
  | cons a _ ih => exact .cons a ih
/-- the whole numbers of a list -/
theorem int_vals : ∀ {vs : List V} {zs : List Int}, Paired (fun v (z : Int) => v = .int z) vs zs → vs = zs.map V.int := fun h => by
  induction h with
  | nil => rfl
  | cons a _ ih => rw [a, ih]; rfl
section
variable {X : Cx} {s s2 : Shared} {H H2 : Hp} {sc sc2 : Scope} {ce ce2 : Env} {fp fp2 : List Addr}
theorem ps_lockFor {iter tg : Expr} {body : List Stmt} {wi : TI} {g : TG} {tb : TS} {pos : Pos} (hp : PassesOwn (model X.prog X.w) X.A X.env X.xe) (hc : X.calm = true) (hi : PI X tg iter wi) (hg : PG X tg g) (hb : PSs X body tb)
    (hs : ∀ x, foldedSetIterable iter X.env x = pure x := by intro _; rfl) : PS X (.For tg iter body [] pos) (tLock (tFor wi g tb)) := ps_lock (ps_for hp hc hi hg hb hs)
theorem sl_tupAB : SlR (X.blk s H sc ce fp) (rSlA X.K) := sl_tupA (X := (X.blk s H sc ce fp))
end
end Q

set_option maxRecDepth 100000
set_option maxHeartbeats 4000000
namespace K07
open PySem PySem.Spec PyProof.Rows L2 Q RZ
section
variable {P : Program} {w : World} {K : PySem.W.Frag} {mg : Str → Option Value} {base : Heap} {f : Addr} {fd : FuncData}
/-! ### couples as data -/
theorem eqv_cutD (c d : List Int × List Int) : PyData.eqv (cutD c) (cutD d) = decide (c = d) := by
  obtain ⟨c1, c2⟩ := c
  obtain ⟨d1, d2⟩ := d
  unfold cutD
  have h1 : PyData.eqv (.tuple (c1.map PyData.int)) (.tuple (d1.map PyData.int)) = decide (c1 = d1) := eqvAll_ints c1 d1
  have h2 : PyData.eqv (.tuple (c2.map PyData.int)) (.tuple (d2.map PyData.int)) = decide (c2 = d2) := eqvAll_ints c2 d2
  show PyData.eqvAll [_, _] [_, _] = _
  simp only [PyData.eqvAll, h1, h2]
  rw [Bool.eq_iff_iff]
  simp
theorem eqvAll_cuts : ∀ cs ds : List (List Int × List Int), PyData.eqvAll (cs.map cutD) (ds.map cutD) = decide (cs = ds)
  | [], [] => by simp [PyData.eqvAll]
  | [], _ :: _ => by simp [PyData.eqvAll]
  | _ :: _, [] => by simp [PyData.eqvAll]
  | c :: cs, d :: ds => by
    have h2 := eqvAll_cuts cs ds
    rw [List.map_cons, List.map_cons]
    simp only [PyData.eqvAll, eqv_cutD, h2]
    rw [Bool.eq_iff_iff]
    simp
theorem eqv_cuts (cs ds : List (List Int × List Int)) : PyData.eqv (.list (cs.map cutD)) (.list (ds.map cutD)) = decide (cs = ds) := eqvAll_cuts cs ds
theorem cutD_lay (c : List Int × List Int) : PyData.canLay0 (cutD c) = true := by
  unfold cutD
  simp only [PyData.canLay0, PyData.canLayAll0, lay_ints, Bool.and_self]
theorem cutD_two (c : List Int × List Int) : (cutD c).depth = 2 := by
  unfold cutD
  simp [PyData.depth, PyData.depthAll, PySem.W.depth_ints]
theorem lay_cuts : ∀ cs : List (List Int × List Int), PyData.canLayAll0 (cs.map cutD) = true
  | [] => rfl
  | c :: cs => by
    rw [List.map_cons]
    simp only [PyData.canLayAll0, cutD_lay, lay_cuts cs, Bool.and_self]
theorem depth_cuts : ∀ cs : List (List Int × List Int), PyData.depthAll (cs.map cutD) ≤ 2
  | [] => by simp [PyData.depthAll]
  | c :: cs => by
    have h1 := cutD_two c
    have h2 := depth_cuts cs
    rw [List.map_cons]
    simp only [PyData.depthAll]
    omega
theorem shaped_cuts (cs : List (List Int × List Int)) : SeqAt.shaped (.list (cs.map cutD)) = true := by
  show (PyData.canLayAll0 (cs.map cutD) && decide (PyData.depthAll (cs.map cutD) + 1 ≤ 64)) = true
  have := depth_cuts cs
  rw [lay_cuts, decide_eq_true (by omega)]
  rfl
theorem dpAll_cuts {H : Hp} {vs : List V} {cs : List (List Int × List Int)} (h : Cps K H vs cs) : DpAll K H vs (cs.map cutD) := by
  unfold Cps at h
  induction h with
  | nil => exact .nil
  | cons a _ ih => exact .cons a.dp ih
theorem dp_cuts {H : Hp} {l : Addr} {vs : List V} {cs : List (List Int × List Int)} (hl : SqL K H l vs) (h : Cps K H vs cs) : Dp K H (.ref l) (.list (cs.map cutD)) := .lst hl (dpAll_cuts h)
/-- a list of rows, anywhere -/
def RowsL (K : PySem.W.Frag) (H : Hp) (a : Addr) (ps : List (List Int)) : Prop := ∃ vs, SqL K H a vs ∧ Paired (ptS K H) vs ps
/-- a run as the law keeps it: its list and its parts' -/
def RunL (K : PySem.W.Frag) (H : Hp) (R0 : Addr) (y : Addr × Addr) (r : Q.Run) : Prop := H y.1 = some (.lst [.int r.1, .int r.2.1, .ref y.2]) ∧ y.1 ≠ R0 ∧ y.2 ≠ R0 ∧ ∃ ws, H y.2 = some (.lst ws) ∧ Cps K H ws r.2.2
def RunsL (K : PySem.W.Frag) (H : Hp) (R0 : Addr) (ys : List (Addr × Addr)) (rs : List Q.Run) : Prop := (ys.map Prod.fst).Nodup ∧ Paired (RunL K H R0) ys rs
theorem RunL.keep {H H' : Hp} {R0 : Addr} {y : Addr × Addr} {r : Q.Run} (k : ∀ b o, b ≠ R0 → H b = some o → H' b = some o) (nl : NL H H') (h : RunL K H R0 y r) : RunL K H' R0 y r := by
  obtain ⟨h1, n1, n2, ws, h2, h3⟩ := h
  exact ⟨k _ _ n1 h1, n1, n2, ws, k _ _ n2 h2, h3.nl nl⟩
theorem RunsL.keep {H H' : Hp} {R0 : Addr} {ys : List (Addr × Addr)} {rs : List Q.Run} (k : ∀ b o, b ≠ R0 → H b = some o → H' b = some o) (nl : NL H H') (h : RunsL K H R0 ys rs) : RunsL K H' R0 ys rs := ⟨h.1, Paired.mapP h.2 fun _ _ z => z.keep k nl⟩
def spSlabs (K : PySem.W.Frag) (k : Nat) : Sp := fun vs H Q _ => ∃ (a : Addr) (ps : List (List Int)), vs = [.ref a] ∧ RowsL K H a ps ∧ RowsK k ps ∧ ps.length ≤ 200 ∧ k ≤ 3 ∧
  ∀ l us H', H l = none → L2.Same H H' → H' l = some (.lst us) → Cps K H' us (slabs k ps) → Q (.ref l) H'
/-- of at most n columns -/
def spSl (K : PySem.W.Frag) (n : Nat) : Sp := fun vs H Q E => ∃ k, k ≤ n ∧ spSlabs K k vs H Q E
theorem slabs_step (T : Tx K mg) {n : Nat} {sp : Sp} (C__law_slabs : Cal P w K mg base CX0 n "_law_slabs" ["rows"] [] sp) (up : n = 0 ∨ ∃ m, n = m + 1 ∧ sp = spSl K m) : Cal P w K mg base CX0 (n + 1) "_law_slabs" ["rows"] [] (spSl K n) := by
  obtain ⟨fd, F⟩ := T.d__law_slabs
  refine ⟨_, fd, [], F.ok sc__law_slabs (fun vs H Q E h => ?_) (fun cdv A outer s H vs Q E hr h => ?_), T.g__law_slabs, F.kp, F.bindsN fun _ _ _ _ _ _ us hl => match us, hl with | [_], _ => rfl, .nil⟩
  · obtain ⟨k, _, a, ps, rfl, _⟩ := h
    rfl
  · obtain ⟨k, kn, a, ps, rfl, hR, RK, few, k3, kQ⟩ := h
    refine ⟨_, PSs.nox (pss_cons (ps_if (pt_not (pt_truth (pv 0) (by intro _; rfl)))
        (pss_one (ps_ret (pe_lst pa_nil)))
        pss_nil)
      (pss_cons (ps_if (pt_cmpR op_eq (pe_callB call_len_seq (by rfl) T.n_len (by decide +kernel) (pa_cons (pe_ix ix_list (pv 0) pe_int (fun _ _ => rfl)) pa_nil)) pe_int (nomark _))
        (pss_one (ps_ret (pe_lst (pa_cons (pe_tup (pa_cons (pe_tup pa_nil) (pa_cons (pe_tup pa_nil) pa_nil))) pa_nil))))
        pss_nil)
      (pss_cons (ps_set (i := 1) sc__law_slabs.nd rfl (Or.inl rfl) (pe_lst pa_nil))
      (pss_cons (ps_for PassesOwn.never rfl (pi_list (pe_callB (cr_sortedN rfl) (by rfl) T.n_sorted (by decide +kernel) (pa_cons (pe_callTy (call_setI rfl) (by rfl) T.n_set (by decide +kernel) (pa_cons (pe_lc (own := [("row", 3)]) (g := gName 3) (tt := tYes) (by rfl) sc__law_slabs.nd (pi_list (pv 0)) (blkOk_by (N := ["rows", "runs", "value", "row", "parts", "found", "run", "lows", "highs"]) (sc := defScope s__law_slabs) (by decide +kernel)) (fun _ _ _ _ _ => (pg_name (i := 3) sc__law_slabs.nd rfl (Or.inl rfl))) (fun _ _ _ _ _ => pts_nil) (fun _ _ _ _ _ => (pe_ix ix_tupB (pv 3) pe_int (fun _ _ => rfl)))) pa_nil)) pa_nil))) (pg_name (i := 2) sc__law_slabs.nd rfl (Or.inr rfl))
        (pss_cons (ps_set (i := 4) sc__law_slabs.nd rfl (Or.inl rfl) (pe_cal C__law_slabs (hr.mono (by omega)) pass0 (pa_cons (pe_lc (own := [("row", 3)]) (g := gName 3) (tt := _) (by rfl) sc__law_slabs.nd (pi_list (pv 0)) (blkOk_by (N := ["rows", "runs", "value", "row", "parts", "found", "run", "lows", "highs"]) (sc := defScope s__law_slabs) (by decide +kernel)) (fun _ _ _ _ _ => (pg_name (i := 3) sc__law_slabs.nd rfl (Or.inl rfl))) (fun _ _ _ _ _ => (pts_one (pt_cmpR op_eq (pe_ix ix_tupB (pv 3) pe_int (fun _ _ => rfl)) (pv 2) (nomark _)))) (fun _ _ _ _ _ => (pe_slice sl_tupAB (pv 3) (po_some pe_int) po_none))) pa_nil)))
        (pss_one (ps_if (PW.pt (pw_and (pt_truth (pv 1) (by intro _; rfl)) (pw_and (pt_cmpR op_eq (pe_ix ix_seq (pe_ix ix_list (pv 1) (pe_un un_neg pe_int) (fun _ _ => rfl)) pe_int (fun _ _ => rfl)) (pv 2) (nomark _)) (pw_and1 (pt_cmpR (op_eqD hr.units) (pe_ix ix_seq (pe_ix ix_list (pv 1) (pe_un un_neg pe_int) (fun _ _ => rfl)) pe_int (fun _ _ => rfl)) (pv 4) (nomark _))))))
          (pss_one (ps_asg (pe_op op_add (pv 2) pe_int) (pg_sub (pe_ix ix_list (pv 1) (pe_un un_neg pe_int) (fun _ _ => rfl)) pe_int set_list)))
          (pss_one (ps_expr (pe_bm PySem.F.plainAttrs_list PySem.F.slot_list_append PySem.F.type_list_append mt_append (pv 1) (pa_cons (pe_lst (pa_cons (pv 2) (pa_cons (pe_op op_add (pv 2) pe_int) (pa_cons (pv 4) pa_nil)))) pa_nil))))))))
      (pss_cons (ps_set (i := 5) sc__law_slabs.nd rfl (Or.inl rfl) (pe_lst pa_nil))
      (pss_cons (ps_for PassesOwn.never rfl (pi_list (pv 1)) (pg_name (i := 6) sc__law_slabs.nd rfl (Or.inl rfl))
        (pss_one (ps_for PassesOwn.never rfl (pi_seq (pe_ix ix_list (pv 6) pe_int (fun _ _ => rfl))) (pg_tup rfl (pgs_cons (pg_name (i := 7) sc__law_slabs.nd rfl (Or.inl rfl)) (pgs_cons (pg_name (i := 8) sc__law_slabs.nd rfl (Or.inl rfl)) pgs_nil)))
          (pss_one (ps_expr (pe_bm PySem.F.plainAttrs_list PySem.F.slot_list_append PySem.F.type_list_append mt_append (pv 5) (pa_cons (pe_tup (pa_cons (pe_op op_catT (pe_tup (pa_cons (pe_ix ix_list (pv 6) pe_int (fun _ _ => rfl)) pa_nil)) (pv 7)) (pa_cons (pe_op op_catT (pe_tup (pa_cons (pe_ix ix_list (pv 6) pe_int (fun _ _ => rfl)) pa_nil)) (pv 8)) pa_nil))) pa_nil)))))))
      (pss_one (ps_ret (pv 5))))))))), ?_⟩
    have big : 20000 < sizeLine := by decide
    obtain ⟨vs, hS, pR⟩ := id hR
    have lR := paired_len pR
    refine ⟨_, rfl, !vs.isEmpty, .inl ⟨vs, hS, rfl⟩, ?_⟩
    cases pR with
    | nil =>
      refine iteT ⟨Nat.zero_le _, fun l nl => ?_⟩
      generalize hq_ : L2.upd H l _ = H1
      obtain ⟨s1, o1⟩ := _root_.Q.nwS nl hq_
      clear hq_
      refine kQ l [] H1 nl s1 o1 ?_
      cases k <;> exact .nil
    | @cons v0 r0 vs ps hv0 pR =>
    obtain ⟨t0, rfl, ht0⟩ := hv0
    have l0 := RK.len r0 List.mem_cons_self
    refine iteF ⟨_, rfl, a, _, _, _, rfl, rfl, hS, atI_nat (j := 0) rfl, _, _, rfl, .inr ht0, rfl, _, rfl, ite2 (fun e => ?_) (fun e => ?_)⟩
    · rw [List.length_map, l0] at e
      have n0 : k = 0 := by
        have := of_decide_eq_true e
        have := V.int.inj this
        omega
      subst n0
      rcases rows_zero RK with z | z
      · cases z
      obtain ⟨rfl, rfl⟩ := List.cons.inj z
      refine ⟨Nat.zero_le _, fun q1 m1 => ?_⟩
      generalize hq_ : L2.upd H q1 _ = H1
      obtain ⟨s1, o1⟩ := _root_.Q.nwS m1 hq_
      clear hq_
      refine ⟨Nat.zero_le _, fun q2 m2 => ?_⟩
      generalize hq_ : L2.upd H1 q2 _ = H2
      obtain ⟨s2, o2⟩ := _root_.Q.nwS m2 hq_
      clear hq_
      refine ⟨(by show 2 ≤ sizeLine; decide), fun q3 m3 => ?_⟩
      generalize hq_ : L2.upd H2 q3 _ = H3
      obtain ⟨s3, o3⟩ := _root_.Q.nwS m3 hq_
      clear hq_
      refine ⟨(by show 1 ≤ sizeLine; decide), fun l nl => ?_⟩
      generalize hq_ : L2.upd H3 l _ = H4
      obtain ⟨s4, o4⟩ := _root_.Q.nwS nl hq_
      clear hq_
      have s14 := ((s1.trans s2).trans s3).trans s4
      refine kQ l _ H4 (none_same ((s1.trans s2).trans s3) nl) s14 o4 (.cons ⟨q3, q1, q2, rfl, s4 _ _ o3, SqT.of (s4 _ _ (s3 _ _ (s2 _ _ o1))), SqT.of (s4 _ _ (s3 _ _ o2))⟩ .nil)
    obtain ⟨m, rfl⟩ : ∃ m, k = m + 1 := ⟨k - 1, by
      have : k ≠ 0 := fun z => e (by rw [List.length_map, l0, z]; rfl)
      omega⟩
    rcases up with up | ⟨n', rfl, rfl⟩
    · omega
    have pA : Paired (ptS K H) (V.ref t0 :: vs) (r0 :: ps) := .cons ⟨t0, rfl, ht0⟩ pR
    clear e hR lR l0
    generalize V.ref t0 :: vs = ws at hS pA
    generalize r0 :: ps = rows at RK kQ few pA
    have pA := paired_mem pA
    have lA := paired_len pA
    refine ⟨Nat.zero_le _, fun R0 nR => ?_⟩
    generalize hq_ : L2.upd H R0 _ = H1
    obtain ⟨s1, o1⟩ := _root_.Q.nwS nR hq_
    clear hq_
    have zero : ∀ {H' : Hp} {t : Addr} {c : List Int}, SqT K H' t (c.map V.int) → c ∈ rows → atI (c.map V.int) 0 = some (.int (hd c)) := fun {H' t c} _ mc => by
      refine atI_nat (j := 0) ?_
      rw [row_cons (RK.len c mc)]
      rfl
    refine ⟨_, rfl, a, rfl, ⟨_, sqL_same s1 hS⟩, fun D nD => ?_⟩
    refine lc_each (S := fun H v c => ptS K H v c ∧ c ∈ rows) (f := hd) (R := fun _ v (z : Int) => v = .int z) (fun _ _ _ _ _ z => z) (fun _ _ _ _ k z => ⟨z.1.nl k, z.2⟩) nD (sqL_same s1 hS) (Paired.mapP pA fun _ _ z => ⟨z.1.nl (NL.same s1), z.2⟩) (by omega) (fun x c Hx R' N sx ec k => ?_) fun H2 us s2 hU pU => ?_
    · obtain ⟨⟨t, rfl, ht⟩, mc⟩ := ec
      exact ⟨rfl, _, rfl, t, _, _, _, rfl, rfl, ht, zero ht mc, k _ _ (Same.refl _) rfl⟩
    obtain rfl := int_vals pU
    refine setI_of (SqL.of hU) (by ((try simp only [List.length_map, List.length_take, List.length_drop, List.length_append, List.length_cons, List.length_nil, List.length_zipWith, List.length_set, List.length_replicate, List.length_range]) <;> omega)) fun S0 cS nS lS => ?_
    generalize hq_ : L2.upd H2 S0 _ = H3
    obtain ⟨s3, o3⟩ := _root_.Q.nwS nS hq_
    clear hq_
    refine sortedN_of o3 (by rw [List.length_map] at lS; omega) fun ns p asc mem np => ?_
    generalize hq_ : L2.upd H3 p _ = H4
    obtain ⟨s4, o4⟩ := _root_.Q.nwS np hq_
    clear hq_
    obtain rfl : ns = heads rows := asc_int asc RK.heads fun x => (mem x).trans (by rw [decide_eq_true_eq, mem_heads, List.mem_map])
    refine ⟨p, rfl, ⟨_, SqL.of o4⟩, ?_⟩
    have s14 := ((s2.trans s3).trans s4)
    have nR4 : H4 R0 = some (.lst []) := s14 _ _ o1
    refine for_list (xs := (heads rows).map V.int) (fun i σ H' => (∃ v2 v4 : Option V, σ = [some (.ref a), some (.ref R0), v2, none, v4, none, none, none, none]) ∧ (∀ b o, b ≠ R0 → H4 b = some o → H' b = some o) ∧ ∃ ys : List (Addr × Addr), H' R0 = some (.lst (ys.map fun y => .ref y.1)) ∧ (∀ y ∈ ys, H4 y.1 = none) ∧ ys.length ≤ i ∧
      RunsL K H' R0 ys (((heads rows).take i).foldl (fun rs v => step rs v (slabs m (tails v rows))) [])) ⟨⟨none, none, rfl⟩, fun _ _ _ e => e, [], nR4, (fun _ z => nomatch z), Nat.le_refl _, List.Pairwise.nil, .nil⟩ ?_ ?_ ?_
    · rintro i σ H' _ ⟨_, kb, _⟩
      exact SqL.of (kb _ _ (fun z => by rw [z, s3 _ _ (s2 _ _ o1)] at np; cases np) o4)
    · rintro i x σ H' ex ⟨⟨v2, v4, rfl⟩, kb, ys, hR0, ny, li, rl⟩
      have hi : i < (heads rows).length := by
        have := (List.getElem?_eq_some_iff.mp ex).1
        rw [List.length_map] at this
        exact this
      obtain ⟨v, ev⟩ : ∃ v, v = (heads rows)[i] := ⟨_, rfl⟩
      obtain rfl : x = .int v := by
        rw [List.getElem?_map, List.getElem?_eq_getElem hi] at ex
        rw [ev]
        exact (Option.some.inj ex).symm
      have sA : L2.Same H H' := fun b o e => kb _ _ (ne_of_none e nR) (s14 _ _ (s1 _ _ e))
      have hS' : SqL K H' a ws := sqL_same sA hS
      have pB : Paired (fun x c => ptS K H' x c ∧ c ∈ rows) ws rows := Paired.mapP pA fun _ _ z => ⟨z.1.nl (NL.same sA), z.2⟩
      refine ⟨_, rfl, a, rfl, ⟨_, hS'⟩, fun D1 nD1 => ?_⟩
      refine lc_pick (S := fun H v c => ptS K H v c ∧ c ∈ rows) (p := fun r => decide (hd r = v)) (R := fun H y c => ptS K H y (c.drop 1)) (fun _ _ _ _ k z => z.nl k) (fun _ _ _ _ k z => ⟨z.1.nl k, z.2⟩) nD1 hS' pB (by omega) (fun x c Hx R' N sx ec k1 k2 => ?_) fun H5 us s5 hU pU => ?_
      · obtain ⟨⟨t, rfl, ht⟩, mc⟩ := ec
        refine ⟨rfl, _, rfl, t, _, _, _, rfl, rfl, ht, zero ht mc, _, rfl, rfl, _, rfl, ite2 (fun e => ?_) (fun e => ?_)⟩
        · have e : hd c = v := V.int.inj (of_decide_eq_true e)
          refine ⟨_, rfl, 1, rfl, t, _, rfl, ht, (fun z => ?_), fun _ q nq => ?_⟩
          · have lc := RK.len c mc
            have z : HT.sIx (c.map V.int).length 0 (some ((1 : Nat) : Int)) = 0 := z.1
            rw [HT.sIx_nat, List.length_map] at z
            omega
          · generalize hq_ : L2.upd Hx q _ = Hy
            obtain ⟨sy, oy⟩ := _root_.Q.nwS nq hq_
            clear hq_
            refine k1 (decide_eq_true e) _ _ sy ⟨q, rfl, SqT.of ?_⟩
            rw [oy, show (some (1 : Int)) = some ((1 : Nat) : Int) from rfl, cutV_drop, List.map_drop]
        · exact k2 (decide_eq_false fun z => e (by rw [z]; exact decide_eq_true rfl)) _ (Same.refl _)
      have pU := paired_fmap (f := fun c : List Int => c.drop 1) (R := ptS K H5) pU
      refine ⟨m, by omega, D1, tails v rows, rfl, ⟨_, SqL.of hU, pU⟩, RK.tails v, Nat.le_trans (tails_len v rows) few, by omega, fun l zs H6 nl6 s6 hl hC => ?_⟩
      have s56 := s5.trans s6
      have rl := RunsL.keep (fun b o _ e => s56 b o e) (NL.same s56) rl
      have hR6 := s56 _ _ hR0
      have kb6 : ∀ b o, b ≠ R0 → H4 b = some o → H6 b = some o := fun b o nb e => s56 _ _ (kb b o nb e)
      have lR : l ≠ R0 := fun z => by rw [z, s5 _ _ hR0] at nl6; cases nl6
      rw [List.take_succ_eq_append_getElem hi, List.foldl_append, ← ev]
      generalize ((heads rows).take i).foldl (fun rs v => step rs v (slabs m (tails v rows))) [] = rs at rl
      obtain ⟨parts, ep⟩ : ∃ parts, parts = slabs m (tails v rows) := ⟨_, rfl⟩
      rw [← ep] at hC
      have few64 := RK.few
      have fin : List.foldl (fun rs v => step rs v (slabs m (tails v rows))) rs [v] = step rs v parts := by rw [ep]; rfl
      rw [fin]
      show gName 4 _ _ _ _
      unfold gName
      dsimp only
      refine ifS_of (joins rs v parts) H6 (fun C c => ?_) ?_
      · rcases List.eq_nil_or_concat rs with rfl | ⟨xs, r, rfl⟩
        · obtain rfl : ys = [] := by
            cases rl.2
            rfl
          exact ⟨_, rfl, false, .inl ⟨[], SqL.of hR6, rfl⟩, iteF c⟩
        · rw [List.concat_eq_append] at rl c
          rw [joins_snoc] at c
          obtain ⟨ys', y, rfl, _, r1, n1, n2, wr, r2, r3⟩ := paired_snoc rl.2
          rw [List.map_append] at hR6
          refine ⟨_, rfl, true, .inl ⟨_, SqL.of hR6, by simp⟩, iteT ⟨_, rfl, _, rfl, R0, _, _, _, rfl, rfl, SqL.of hR6, atI_last _ _, .inl ⟨y.1, _, _, _, rfl, rfl, SqL.of r1, atI_nat (j := 1) rfl, _, rfl, rfl, _, rfl, ite2 (fun e1 => ?_) (fun e1 => ?_)⟩⟩⟩
          · refine ⟨_, rfl, _, rfl, R0, _, _, _, rfl, rfl, SqL.of hR6, atI_last _ _, .inl ⟨y.1, _, _, _, rfl, rfl, SqL.of r1, atI_nat (j := 2) rfl, _, rfl, _, _, dp_cuts (SqL.of r2) r3, dp_cuts (SqL.of hl) hC, shaped_cuts _, shaped_cuts _, _, rfl, ?_⟩⟩
            rw [eqv_cuts]
            rw [decide_eq_true (V.int.inj (of_decide_eq_true e1)), Bool.true_and] at c
            exact c
          · rw [decide_eq_false (fun z => e1 (by rw [z]; exact decide_eq_true rfl)), Bool.false_and] at c
            exact c
      cases hj : joins rs v parts with
      | true =>
        obtain ⟨xs, r, rfl, er1, er2, es⟩ := step_yes hj
        rw [es]
        obtain ⟨ys', y, rfl, pr', r1, n1, n2, wr, r2, r3⟩ := paired_snoc rl.2
        have hR6' := hR6
        rw [List.map_append] at hR6'
        refine iteT ⟨_, rfl, _, _, rfl, rfl, _, rfl, _, rfl, R0, _, _, _, rfl, rfl, SqL.of hR6', atI_last _ _, ?_⟩
        refine ⟨y.1, _, _, 1, rfl, rfl, r1, rfl, ?_⟩
        generalize hq_ : L2.upd H6 y.1 _ = H7
        obtain ⟨u7, o7⟩ := _root_.Q.updS hq_
        clear hq_
        have yin : y ∈ ys' ++ [y] := List.mem_append_right _ (List.mem_singleton.mpr rfl)
        have nd := rl.1
        rw [List.map_append] at nd
        have nd2 := (List.pairwise_append.mp nd).2.2
        have off : ∀ {l ws cs}, H6 l = some (.lst ws) → Cps K H6 ws cs → l ≠ y.1 := fun {l ws cs} h1 h2 z => by
          rw [z, r1] at h1
          obtain rfl := HO.lst.inj (Option.some.inj h1)
          cases h2 with
          | cons a _ =>
            obtain ⟨t, _, _, e, _⟩ := a
            cases e
        have nl7 := NL.put r1 u7
        refine ⟨⟨_, _, rfl⟩, fun b o nb e => u7 b o (ne_of_none e (ny y yin)) (kb6 b o nb e), ys' ++ [y], u7 _ _ n1.symm hR6, ny, Nat.le_succ_of_le li, rl.1, paired_app (Paired.mapP (paired_memL pr') fun y' r' z => ?_) (.cons ⟨o7, n1, n2, wr, u7 _ _ (off r2 r3) r2, ?_⟩ .nil)⟩
        · obtain ⟨⟨z1, z2, z3, ws', z4, z5⟩, my⟩ := z
          exact ⟨u7 _ _ (nd2 _ (List.mem_map_of_mem my) _ (List.mem_singleton.mpr rfl)) z1, z2, z3, ws', u7 _ _ (off z4 z5) z4, z5.nl nl7⟩
        · rw [← er2]
          exact r3.nl nl7
      | false =>
        rw [step_no hj]
        refine iteF ⟨_, rfl, .inl ⟨rfl, _, SqL.of hR6⟩, _, rfl, _, rfl, _, _, rfl, rfl, _, rfl, (by show 3 ≤ sizeLine; omega), fun Y nY => ?_⟩
        generalize hq_ : L2.upd H6 Y _ = H7
        obtain ⟨s7, o7⟩ := _root_.Q.nwS nY hq_
        clear hq_
        refine ⟨R0, _, _, rfl, rfl, s7 _ _ hR6, by ((try simp only [List.length_map, List.length_take, List.length_drop, List.length_append, List.length_cons, List.length_nil, List.length_zipWith, List.length_set, List.length_replicate, List.length_range]) <;> omega), ?_⟩
        generalize hq_ : L2.upd H7 R0 _ = H8
        obtain ⟨u8, o8⟩ := _root_.Q.updS hq_
        clear hq_
        have YR : Y ≠ R0 := fun z => by rw [z, hR6] at nY; cases nY
        have nl8 := (NL.same s7).trans (NL.put (s7 _ _ hR6) u8)
        have k8 : ∀ b o, b ≠ R0 → H6 b = some o → H8 b = some o := fun b o nb e => u8 _ _ nb (s7 _ _ e)
        refine ⟨⟨_, _, rfl⟩, fun b o nb e => k8 b o nb (kb6 b o nb e), ys ++ [(Y, l)], by rw [o8, List.map_append]; rfl, fun y my => ?_, by rw [List.length_append]; exact Nat.succ_le_succ li, ?_, paired_app (RunsL.keep k8 nl8 rl).2 (.cons ⟨u8 _ _ YR o7, YR, lR, zs, k8 _ _ lR hl, hC.nl nl8⟩ .nil)⟩
        · rcases List.mem_append.mp my with my | my
          · exact ny y my
          · rw [List.mem_singleton.mp my]
            show H4 Y = none
            cases z : H4 Y with
            | none => rfl
            | some o => rw [kb6 _ _ YR z] at nY; cases nY
        · rw [List.map_append]
          refine List.pairwise_append.mpr ⟨rl.1, List.pairwise_singleton _ _, fun x mx z mz e => ?_⟩
          obtain ⟨y, my, rfl⟩ := List.mem_map.mp mx
          obtain ⟨r, r1, _⟩ := paired_l rl.2 y my
          rw [e, List.mem_singleton.mp mz, nY] at r1
          cases r1
    · rintro σ H' ⟨⟨v2, v4, rfl⟩, kb, ys, hR0, ny, li, rl⟩
      rw [List.length_map, List.take_length] at rl
      refine ⟨Nat.zero_le _, fun F0 nF => ?_⟩
      generalize hq_ : L2.upd H' F0 _ = H7
      obtain ⟨s7, o7⟩ := _root_.Q.nwS nF hq_
      clear hq_
      have old : ∀ y ∈ ys, y.1 ≠ F0 ∧ y.2 ≠ F0 := fun y my => by
        obtain ⟨r, h1, _, _, ws', h2, _⟩ := paired_l rl.2 y my
        exact ⟨fun z => (by rw [← z, h1] at nF; cases nF), fun z => (by rw [← z, h2] at nF; cases nF)⟩
      have rl := RunsL.keep (fun b o _ e => s7 b o e) (NL.same s7) rl
      have hR7 := s7 _ _ hR0
      have okr := (fold_keeps (k := m) (rows := rows) (g := fun v => slabs m (tails v rows)) (fun v => slabs_spec (RK.tails v)) (heads rows) [] (fun v mv => RK.head_val mv) (fun _ z => nomatch z)).1
      have fewS := slabs_few RK
      have es : slabs (m + 1) rows = spread ((heads rows).foldl (fun rs v => step rs v (slabs m (tails v rows))) []) := rfl
      rw [es] at kQ fewS
      generalize (heads rows).foldl (fun rs v => step rs v (slabs m (tails v rows))) [] = rs at rl kQ okr fewS
      obtain ⟨nd, pr⟩ := rl
      have lr := paired_len pr
      refine ⟨_, rfl, R0, rfl, ⟨_, SqL.of hR7⟩, ?_⟩
      refine for_list (xs := ys.map fun y => V.ref y.1) (fun i σ H' => (∃ v6 v7 v8, σ = [some (.ref a), some (.ref R0), v2, none, v4, some (.ref F0), v6, v7, v8]) ∧ (∀ b o, b ≠ F0 → H7 b = some o → H' b = some o) ∧ ∃ us : List V, H' F0 = some (.lst us) ∧ Cps K H' us (spread (rs.take i))) ⟨⟨none, none, none, rfl⟩, fun _ _ _ e => e, [], o7, .nil⟩ ?_ ?_ ?_
      · rintro i σ H'' _ ⟨_, kc, _⟩
        exact SqL.of (kc _ _ (fun z => by rw [z, nF] at hR0; cases hR0) hR7)
      · rintro i x σ H'' ex ⟨⟨v6, v7, v8, rfl⟩, kc, us, hF, hC⟩
        have hi : i < ys.length := by
          have := (List.getElem?_eq_some_iff.mp ex).1
          rw [List.length_map] at this
          exact this
        obtain ⟨y, ey, r1, n1, n2, ws', r2, r3⟩ := paired_at pr i (by omega)
        obtain rfl : x = .ref y.1 := by
          rw [List.getElem?_map, ey] at ex
          exact (Option.some.inj ex).symm
        obtain ⟨yF, y2F⟩ := old y (List.mem_of_getElem? ey)
        refine ⟨_, rfl, y.1, _, _, _, rfl, rfl, SqL.of (kc _ _ yF r1), atI_nat (j := 2) rfl, y.2, ws', true, rfl, SqL.of (kc _ _ y2F r2), ?_⟩
        refine for_seq (k := true) (xs := ws') (fun j σ H3 => (∃ v7 v8, σ = [some (.ref a), some (.ref R0), v2, none, v4, some (.ref F0), some (.ref y.1), v7, v8]) ∧ (∀ b o, b ≠ F0 → H7 b = some o → H3 b = some o) ∧ ∃ us : List V, H3 F0 = some (.lst us) ∧ Cps K H3 us (spread (rs.take i) ++ (wide rs[i]).take j)) ⟨⟨_, _, rfl⟩, kc, us, hF, by rw [List.take_zero, List.append_nil]; exact hC⟩ (fun i σ H' _ q => SqL.of (q.2.1 _ _ y2F r2)) ?_ ?_
        · rintro j x σ H3 ex ⟨⟨v7, v8, rfl⟩, kd, us, hF, hC⟩
          have r3' := Cps.nl (NL.put o7 kd) r3
          have hj : j < rs[i].2.2.length := by
            have := (List.getElem?_eq_some_iff.mp ex).1
            rw [paired_len r3] at this
            exact this
          obtain ⟨x', ex', t, tl, th, rfl, h1, h2, h3⟩ := paired_at r3' j hj
          rw [ex] at ex'
          cases ex'
          refine ⟨t, _, rfl, SqT.of h1, rfl, _, _, rfl, _, _, rfl, rfl, ?_⟩
          have r1' := kd _ _ yF r1
          refine ⟨_, rfl, .inl ⟨rfl, _, SqL.of hF⟩, _, rfl, y.1, _, _, _, rfl, rfl, SqL.of r1', atI_nat (j := 0) rfl, (by show 1 ≤ sizeLine; omega), fun q1 m1 => ?_⟩
          generalize hq_ : L2.upd H3 q1 _ = Ha
          obtain ⟨sa, oa⟩ := _root_.Q.nwS m1 hq_
          clear hq_
          obtain ⟨p1, p2, _⟩ := (okr rs[i] (List.getElem_mem _)).2.2.2 _ (List.getElem_mem hj)
          have p3 := p2.len
          refine ⟨_, rfl, catT_of oa (sqT_same sa h2) (by omega) fun q2 Hb sb ob => ?_⟩
          refine ⟨_, rfl, y.1, _, _, _, rfl, rfl, SqL.of (sb _ _ (sa _ _ r1')), atI_nat (j := 1) rfl, (by show 1 ≤ sizeLine; omega), fun q3 m3 => ?_⟩
          generalize hq_ : L2.upd Hb q3 _ = Hc
          obtain ⟨sc, oc⟩ := _root_.Q.nwS m3 hq_
          clear hq_
          have sac := (sa.trans sb).trans sc
          refine ⟨_, rfl, catT_of oc (sqT_same sac h3) (by omega) fun q4 Hd sd od => ?_⟩
          refine ⟨(by show 2 ≤ sizeLine; omega), fun q5 m5 => ?_⟩
          generalize hq_ : L2.upd Hd q5 _ = He
          obtain ⟨se, oe⟩ := _root_.Q.nwS m5 hq_
          clear hq_
          have sae := (sac.trans sd).trans se
          have lu := paired_len hC
          have b1 := spread_take rs (i + 1)
          rw [spread_snoc rs (by omega)] at b1
          have b2 : (spread (rs.take i) ++ (wide rs[i]).take j).length ≤ (spread (rs.take i) ++ wide rs[i]).length := by
            rw [List.length_append, List.length_append, List.length_take]
            omega
          refine ⟨F0, _, _, rfl, rfl, sae _ _ hF, by omega, ?_⟩
          generalize hq_ : L2.upd He F0 _ = Hf
          obtain ⟨uf, of'⟩ := _root_.Q.updS hq_
          clear hq_
          have nlf := (NL.same sae).trans (NL.put (sae _ _ hF) uf)
          have nlg := NL.put (sae _ _ hF) uf
          refine ⟨⟨_, _, rfl⟩, fun b o nb e => uf _ _ nb (sae _ _ (kd b o nb e)), _, of', ?_⟩
          have hw : (wide rs[i]).length = rs[i].2.2.length := by unfold wide; rw [List.length_map]
          have hj' : j < (wide rs[i]).length := by omega
          have ew := wide_at rs[i] hj' hj
          rw [List.take_succ_eq_append_getElem hj', ← List.append_assoc]
          refine Cps.snoc (hC.nl nlf) ⟨q5, q2, q4, rfl, nlg.tup oe, ?_, ?_⟩
          · rw [ew]
            exact nlg.sqT (sqT_same ((sc.trans sd).trans se) ob)
          · rw [ew]
            exact nlg.sqT (sqT_same se od)
        · rintro σ H3 ⟨⟨v7, v8, rfl⟩, kd, us, hF, hC⟩
          have e : (wide rs[i]).length = ws'.length := by
            unfold wide
            rw [List.length_map, paired_len r3]
          rw [← e, List.take_length] at hC
          refine ⟨⟨_, _, _, rfl⟩, kd, us, hF, ?_⟩
          rw [List.take_succ_eq_append_getElem (by omega)]
          unfold spread at hC ⊢
          rw [List.flatMap_append, List.flatMap_singleton]
          exact hC
      · rintro σ H3 ⟨⟨v6, v7, v8, rfl⟩, kd, us, hF, hC⟩
        rw [List.length_map, lr, List.take_length] at hC
        have sH : L2.Same H H' := fun b o e => kb _ _ (ne_of_none e nR) (s14 _ _ (s1 _ _ e))
        have nH := none_same sH nF
        exact ⟨_, rfl, kQ F0 us H3 nH (fun b o e => kd _ _ (ne_of_none e nH) (s7 _ _ (sH _ _ e))) hF hC⟩
theorem slabs_void (T : Tx K mg) : Cal P w K mg base CX0 0 "_law_slabs" ["rows"] [] (fun _ _ _ _ => False) := by
  obtain ⟨fd, F⟩ := T.d__law_slabs
  exact ⟨_, fd, [], ⟨fun _ _ _ _ z => z.elim, fun _ _ _ _ _ _ _ _ _ _ _ _ _ z => z.elim⟩, T.g__law_slabs, F.kp, F.bindsN fun _ _ _ _ _ _ us hl => match us, hl with | [_], _ => rfl, .nil⟩
theorem C_sl (T : Tx K mg) : ∀ n : Nat, Cal P w K mg base CX0 (n + 1) "_law_slabs" ["rows"] [] (spSl K n)
  | 0 => slabs_step T (n := 0) (slabs_void T) (.inl rfl)
  | n + 1 => slabs_step T (n := n + 1) (C_sl T n) (.inr ⟨n, rfl, rfl⟩)
theorem C__law_slabs (T : Tx K mg) : Cal P w K mg base CX0 4 "_law_slabs" ["rows"] [] (spSl K 3) := C_sl T 3

end
end K07

set_option maxRecDepth 100000
set_option maxHeartbeats 4000000
/-! A dict of whole numbers to lists; walking over lists. -/
namespace Q
open PySem PySem.Spec PyProof.Rows L2
theorem nodup_inj {α β : Type} {f : α → β} {x y : α} : ∀ {l : List α}, (l.map f).Nodup → x ∈ l → y ∈ l → f x = f y → x = y
  | [], _, m, _, _ => nomatch m
  | a :: l, n, mx, my, e => by
    obtain ⟨n1, n2⟩ := List.nodup_cons.mp n
    rcases List.mem_cons.mp mx with ex | mx
    · rcases List.mem_cons.mp my with ey | my
      · rw [ex, ey]
      · exact absurd (by rw [← ex, e]; exact List.mem_map_of_mem my) n1
    · rcases List.mem_cons.mp my with ey | my
      · exact absurd (by rw [← ey, ← e]; exact List.mem_map_of_mem mx) n1
      · exact nodup_inj n2 mx my e
abbrev kvOf (ks : List (Int × Addr)) : List (Key × V) := ks.map fun p => ((Sum.inl p.1 : Key), V.ref p.2)
theorem kv_some {ks : List (Int × Addr)} {v : Int} {x : V} (h : valV (kvOf ks) (Sum.inl v) = some x) : ∃ p ∈ ks, p.1 = v ∧ x = .ref p.2 := by
  unfold valV at h
  obtain ⟨kv, hf, e⟩ := Option.map_eq_some_iff.mp h
  obtain ⟨p, mp, rfl⟩ := List.mem_map.mp (List.mem_of_find?_eq_some hf)
  have hp := List.find?_some hf
  exact ⟨p, mp, Sum.inl.inj (of_decide_eq_true hp), e.symm⟩
theorem kv_none {ks : List (Int × Addr)} {v : Int} (h : valV (kvOf ks) (Sum.inl v) = none) : v ∉ ks.map Prod.fst := fun m => by
  obtain ⟨p, mp, e⟩ := List.mem_map.mp m
  unfold valV at h
  have := List.find?_eq_none.mp (Option.map_eq_none_iff.mp h) _ (List.mem_map_of_mem mp)
  exact this (decide_eq_true (by rw [← e]))
theorem kv_put {ks : List (Int × Addr)} {v : Int} {l : Addr} (n : v ∉ ks.map Prod.fst) : putK (kvOf ks) (Sum.inl v) (.ref l) = kvOf (ks ++ [(v, l)]) := by
  unfold putK
  rw [if_neg]
  · show _ = List.map _ _
    rw [List.map_append]
    rfl
  · intro h
    obtain ⟨kv, m, e⟩ := List.any_eq_true.mp h
    obtain ⟨p, mp, rfl⟩ := List.mem_map.mp m
    exact n (List.mem_map.mpr ⟨p, mp, Sum.inl.inj (of_decide_eq_true e)⟩)
theorem kv_at {ks : List (Int × Addr)} (nd : (ks.map Prod.fst).Nodup) {p : Int × Addr} (m : p ∈ ks) : valV (kvOf ks) (Sum.inl p.1) = some (.ref p.2) := by
  cases z : valV (kvOf ks) (Sum.inl p.1) with
  | none => exact absurd (List.mem_map_of_mem m) (kv_none z)
  | some x =>
    obtain ⟨q, mq, e1, e2⟩ := kv_some z
    rw [e2, nodup_inj nd mq m e1]
/-- over a list, whatever is done at each turn -/
theorem over_list {K : PySem.W.Frag} {a : Addr} {xs : List V} {B : (Hp → Prop) → V → Hp → Prop} {H0 : Hp} {Qd : Hp → Prop} (Pv : Nat → Hp → Prop) (h0 : Pv 0 H0) (hl : ∀ i H, i ≤ xs.length → Pv i H → SqL K H a xs) (hs : ∀ i x H, xs[i]? = some x → Pv i H → B (Pv (i + 1)) x H) (hd : ∀ H, Pv xs.length H → Qd H) :
    ∃ W : Nat → Nat → Hp → Prop, (∃ m, W 0 m H0) ∧ ∀ i m H, W i m H → ((Itl K a).stop i H ∧ Qd H) ∨ ((Itl K a).go i H ∧ ∃ Nx : Hp → Prop, (∀ H', Nx H' → ∃ m', m' < m ∧ W (i + 1) m' H') ∧ ∀ x H', (Itl K a).yld i H x H' → B Nx x H') := by
  refine ⟨fun i m H => m = xs.length - i ∧ i ≤ xs.length ∧ Pv i H, ⟨_, rfl, Nat.zero_le _, h0⟩, ?_⟩
  rintro i m H ⟨rfl, hi, p⟩
  have w := walk_list (K := K) (a := a) (xs := xs)
  have q := hl i H hi p
  by_cases c : i < xs.length
  · refine .inr ⟨w.goes i H c q, Pv (i + 1), fun H' p' => ⟨_, by omega, rfl, c, p'⟩, fun x H' y => ?_⟩
    obtain ⟨rfl, e⟩ := w.yields i H x H' c q y
    exact hs i x _ e p
  · obtain rfl : i = xs.length := by omega
    exact .inl ⟨w.stops H q, hd H p⟩
theorem over_it {J : It} {n : Nat} {G : Hp → Prop} {xs : List V} (w : Walk J n G (YAt xs)) {B : (Hp → Prop) → V → Hp → Prop} {H0 : Hp} {Qd : Hp → Prop} (Pv : Nat → Hp → Prop) (h0 : Pv 0 H0) (hl : ∀ i H, i ≤ n → Pv i H → G H) (hs : ∀ i x H, xs[i]? = some x → Pv i H → B (Pv (i + 1)) x H) (hd : ∀ H, Pv n H → Qd H) :
    ∃ W : Nat → Nat → Hp → Prop, (∃ m, W 0 m H0) ∧ ∀ i m H, W i m H → (J.stop i H ∧ Qd H) ∨ (J.go i H ∧ ∃ Nx : Hp → Prop, (∀ H', Nx H' → ∃ m', m' < m ∧ W (i + 1) m' H') ∧ ∀ x H', J.yld i H x H' → B Nx x H') := by
  refine ⟨fun i m H => m = n - i ∧ i ≤ n ∧ Pv i H, ⟨_, rfl, Nat.zero_le _, h0⟩, ?_⟩
  rintro i m H ⟨rfl, hi, p⟩
  have q := hl i H hi p
  by_cases c : i < n
  · refine .inr ⟨w.goes i H c q, Pv (i + 1), fun H' p' => ⟨_, by omega, rfl, c, p'⟩, fun x H' y => ?_⟩
    obtain ⟨rfl, e⟩ := w.yields i H x H' c q y
    exact hs i x _ e p
  · obtain rfl : i = n := by omega
    exact .inl ⟨w.stops H q, hd H p⟩
theorem over_seq {K : PySem.W.Frag} {k : Bool} {a : Addr} {xs : List V} {B : (Hp → Prop) → V → Hp → Prop} {H0 : Hp} {Qd : Hp → Prop} (Pv : Nat → Hp → Prop) (h0 : Pv 0 H0) (hl : ∀ i H, i ≤ xs.length → Pv i H → SqB k K H a xs) (hs : ∀ i x H, xs[i]? = some x → Pv i H → B (Pv (i + 1)) x H) (hd : ∀ H, Pv xs.length H → Qd H) :
    ∃ W : Nat → Nat → Hp → Prop, (∃ m, W 0 m H0) ∧ ∀ i m H, W i m H → ((ItS k K a).stop i H ∧ Qd H) ∨ ((ItS k K a).go i H ∧ ∃ Nx : Hp → Prop, (∀ H', Nx H' → ∃ m', m' < m ∧ W (i + 1) m' H') ∧ ∀ x H', (ItS k K a).yld i H x H' → B Nx x H') := by
  cases k with
  | true => exact over_it (walk_list (K := K) (a := a) (xs := xs)) Pv h0 hl hs hd
  | false => exact over_it (walk_tup (K := K) (a := a) (xs := xs)) Pv h0 hl hs hd
theorem RowsK.take {k : Nat} {rows : List (List Int)} (R : RowsK k rows) (n : Nat) : RowsK k (rows.take n) := ⟨R.asc.sublist (List.take_sublist n rows), fun r m => R.len r (List.mem_of_mem_take m), fun r m => R.val r (List.mem_of_mem_take m)⟩
theorem asc_nodup {l : List Int} (h : l.Pairwise (· < ·)) : l.Nodup := List.Pairwise.imp (S := fun a b => a ≠ b) (fun {a b} h e => by omega) h
/-- a dict is locked or let go: tuples stand -/
theorem sqT_but {K : PySem.W.Frag} {H H' : Hp} {a D : Addr} {u : HO} {xs : List V} (k : ∀ b o, b ≠ D → H b = some o → H' b = some o) (h : H D = some u) (n1 : ∀ ys, u ≠ .tup ys) (n2 : ∀ o ys, u ≠ .frz o (.tup ys)) (t : SqT K H a xs) : SqT K H' a xs := by
  rcases t with (t | ⟨o, t⟩) | t
  · exact .inl (.inl (k _ _ (fun z => by rw [z, h] at t; exact n1 _ (Option.some.inj t)) t))
  · exact .inl (.inr ⟨o, k _ _ (fun z => by rw [z, h] at t; exact n2 _ _ (Option.some.inj t)) t⟩)
  · exact .inr t
theorem ixN_last {α : Type} (xs : List α) (v : α) : ixN (xs ++ [v]).length (-1) = some xs.length := by
  have e : (xs ++ [v]).length = xs.length + 1 := by rw [List.length_append]; rfl
  rw [e]
  unfold ixN
  rw [if_neg (by omega), if_pos (by omega)]
  congr 1
  omega
theorem set_last {α : Type} (xs : List α) (v w : α) : (xs ++ [v]).set xs.length w = xs ++ [w] := by
  rw [List.set_append_right _ _ (Nat.le_refl _), Nat.sub_self]
  rfl
theorem heads_snoc (rows : List (List Int)) (r : List Int) : heads (rows ++ [r]) = if hd r ∈ heads rows then heads rows else heads rows ++ [hd r] := by
  unfold heads headsFrom
  rw [List.foldl_append]
  rfl
theorem tails_snoc (v : Int) (rows : List (List Int)) (r : List Int) : tails v (rows ++ [r]) = tails v rows ++ if hd r = v then [r.drop 1] else [] := by
  unfold tails
  rw [List.filter_append, List.map_append]
  congr 1
  by_cases c : hd r = v
  · rw [if_pos c, List.filter_cons_of_pos (p := fun r => decide (hd r = v)) (decide_eq_true c)]
    rfl
  · rw [if_neg c, List.filter_cons_of_neg (p := fun r => decide (hd r = v)) (fun z => c (of_decide_eq_true z))]
    rfl
theorem tails_none {v : Int} {rows : List (List Int)} (n : v ∉ heads rows) : tails v rows = [] := by
  cases z : tails v rows with
  | nil => rfl
  | cons t ts =>
    obtain ⟨r, m, e, _⟩ := mem_tails.mp (show t ∈ tails v rows by rw [z]; exact List.mem_cons_self)
    exact absurd (mem_heads.mpr ⟨r, m, e⟩) n
end Q

set_option maxRecDepth 100000
set_option maxHeartbeats 4000000
namespace K07
open PySem PySem.Spec PyProof.Rows L2 Q RZ
section
variable {P : Program} {w : World} {K : PySem.W.Frag} {mg : Str → Option Value} {base : Heap} {f : Addr} {fd : FuncData}
/-- a run as the program keeps it -/
def RunT (K : PySem.W.Frag) (H : Hp) (R0 : Addr) (v : V) (r : Q.Run) : Prop := ∃ t l ws, v = .ref t ∧ H t = some (.tup [.int r.1, .int r.2.1, .ref l]) ∧ l ≠ R0 ∧ H l = some (.lst ws) ∧ Cps K H ws r.2.2
theorem RunT.keep {H H' : Hp} {R0 : Addr} {v : V} {r : Q.Run} (k : ∀ b o, b ≠ R0 → H b = some o → H' b = some o) (nl : NL H H') (h : RunT K H R0 v r) : RunT K H' R0 v r := by
  obtain ⟨t, l, ws, e, h1, n1, h2, h3⟩ := h
  exact ⟨t, l, ws, e, nl.tup h1, n1, k _ _ n1 h2, h3.nl nl⟩
theorem CpAt.but {H H' : Hp} {D : Addr} {u : HO} {v : V} {c : List Int × List Int} (k : ∀ b o, b ≠ D → H b = some o → H' b = some o) (h : H D = some u) (n1 : ∀ ys, u ≠ .tup ys) (n2 : ∀ o ys, u ≠ .frz o (.tup ys)) (a : CpAt K H v c) : CpAt K H' v c := by
  obtain ⟨t, tl, th, e, h1, h2, h3⟩ := a
  exact ⟨t, tl, th, e, k _ _ (fun z => by rw [z, h] at h1; exact n1 _ (Option.some.inj h1)) h1, sqT_but k h n1 n2 h2, sqT_but k h n1 n2 h3⟩
theorem RunT.but {H H' : Hp} {R0 D : Addr} {u : HO} {v : V} {r : Q.Run} (k : ∀ b o, b ≠ D → H b = some o → H' b = some o) (h : H D = some u) (n1 : ∀ ys, u ≠ .tup ys) (n2 : ∀ o ys, u ≠ .frz o (.tup ys)) (n3 : ∀ ys, u ≠ .lst ys) (a : RunT K H R0 v r) : RunT K H' R0 v r := by
  obtain ⟨t, l, ws, e, h1, nr, h2, h3⟩ := a
  exact ⟨t, l, ws, e, k _ _ (fun z => by rw [z, h] at h1; exact n1 _ (Option.some.inj h1)) h1, nr, k _ _ (fun z => by rw [z, h] at h2; exact n3 _ (Option.some.inj h2)) h2, Paired.mapP h3 fun _ _ z => z.but k h n1 n2⟩
def spPart (K : PySem.W.Frag) (k : Nat) : Sp := fun vs H Q _ => ∃ (a : Addr) (ps : List (List Int)), vs = [.ref a] ∧ RowsL K H a ps ∧ RowsK k ps ∧ ps.length ≤ 200 ∧ k ≤ 3 ∧
  ∀ l us H', H l = none → L2.Same H H' → H' l = some (.lst us) → Cps K H' us (slabs k ps) → Q (.ref l) H'
/-- of at most n columns -/
def spParts (K : PySem.W.Frag) (n : Nat) : Sp := fun vs H Q E => ∃ k, k ≤ n ∧ spPart K k vs H Q E
theorem parts_step (T : Tx K mg) {n : Nat} {sp : Sp} (C_slab_parts : Cal P w K mg base CX0 n "slab_parts" ["rows"] [] sp) (up : n = 0 ∨ ∃ m, n = m + 1 ∧ sp = spParts K m) : Cal P w K mg base CX0 (n + 1) "slab_parts" ["rows"] [] (spParts K n) := by
  obtain ⟨fd, F⟩ := T.d_slab_parts
  refine ⟨_, fd, [], F.ok sc_slab_parts (fun vs H Q E h => ?_) (fun cdv A outer s H vs Q E hr h => ?_), T.g_slab_parts, F.kp, F.bindsN fun _ _ _ _ _ _ us hl => match us, hl with | [_], _ => rfl, .nil⟩
  · obtain ⟨k, _, a, ps, rfl, _⟩ := h
    rfl
  · obtain ⟨k, kn, a, ps, rfl, hR, RK, few, k3, kQ⟩ := h
    refine ⟨_, PSs.nox (pss_cons (ps_if (pt_not (pt_truth (pv 0) (by intro _; rfl)))
        (pss_one (ps_ret (pe_lst pa_nil)))
        pss_nil)
      (pss_cons (ps_if (pt_cmpR op_eq (pe_callB call_len_seq (by rfl) T.n_len (by decide +kernel) (pa_cons (pe_ix ix_list (pv 0) pe_int (fun _ _ => rfl)) pa_nil)) pe_int (nomark _))
        (pss_one (ps_ret (pe_lst (pa_cons (pe_tup (pa_cons (pe_tup pa_nil) (pa_cons (pe_tup pa_nil) pa_nil))) pa_nil))))
        pss_nil)
      (pss_cons (ps_set (i := 1) sc_slab_parts.nd rfl (Or.inl rfl) pe_dnewK)
      (pss_cons (ps_for PassesOwn.never rfl (pi_list (pv 0)) (pg_name (i := 2) sc_slab_parts.nd rfl (Or.inl rfl))
        (pss_one (ps_expr (pe_bm PySem.F.plainAttrs_list PySem.F.slot_list_append PySem.F.type_list_append mt_append (pe_dsetd (pv 1) (pe_ix ix_tup (pv 2) pe_int (fun _ _ => rfl)) (pe_lst pa_nil) ⟨by rfl, by rfl, by rfl, by rfl⟩) (pa_cons (pe_slice sl_tupA (pv 2) (po_some pe_int) po_none) pa_nil)))))
      (pss_cons (ps_set (i := 3) sc_slab_parts.nd rfl (Or.inl rfl) (pe_lst pa_nil))
      (pss_cons (ps_lockFor PassesOwn.never rfl (pi_keys (pv 1)) (pg_name (i := 4) sc_slab_parts.nd rfl (Or.inl rfl))
        (pss_cons (ps_set (i := 5) sc_slab_parts.nd rfl (Or.inl rfl) (pe_cal C_slab_parts (hr.mono (by omega)) pass0 (pa_cons (pe_dget (hu_of hr) (pv 1) (pv 4) (fun _ _ => rfl)) pa_nil)))
        (pss_one (ps_if (PW.pt (pw_and (pt_truth (pv 3) (by intro _; rfl)) (pw_and (pt_cmpR op_eq (pe_ix ix_seq (pe_ix ix_list (pv 3) (pe_un un_neg pe_int) (fun _ _ => rfl)) pe_int (fun _ _ => rfl)) (pv 4) (nomark _)) (pw_and1 (pt_cmpR (op_eqD hr.units) (pe_ix ix_seq (pe_ix ix_list (pv 3) (pe_un un_neg pe_int) (fun _ _ => rfl)) pe_int (fun _ _ => rfl)) (pv 5) (nomark _))))))
          (pss_one (ps_asg (pe_tup (pa_cons (pe_ix ix_seq (pe_ix ix_list (pv 3) (pe_un un_neg pe_int) (fun _ _ => rfl)) pe_int (fun _ _ => rfl)) (pa_cons (pe_op op_add (pv 4) pe_int) (pa_cons (pv 5) pa_nil)))) (pg_sub (pv 3) (pe_un un_neg pe_int) set_list)))
          (pss_one (ps_expr (pe_bm PySem.F.plainAttrs_list PySem.F.slot_list_append PySem.F.type_list_append mt_append (pv 3) (pa_cons (pe_tup (pa_cons (pv 4) (pa_cons (pe_op op_add (pv 4) pe_int) (pa_cons (pv 5) pa_nil)))) pa_nil))))))))
      (pss_one (ps_ret (pe_lc2 (own := [("low", 6), ("high", 7), ("parts", 5), ("lows", 8), ("highs", 9)]) (vs1 := [8, 9]) (g := gTup K 3 (gCons (gName 6) (gCons (gName 7) (gCons (gName 5) gNil)))) (tt := tYes) (g1 := gTup K 2 (gCons (gName 8) (gCons (gName 9) gNil))) (tt1 := tYes) (by rfl) sc_slab_parts.nd (pi_list (pv 3)) (blkOk_by (N := ["rows", "sections", "row", "runs", "value", "parts", "low", "high", "lows", "highs"]) (sc := defScope s_slab_parts) (by decide +kernel)) (by decide) (fun _ _ _ _ _ => (pg_tup rfl (pgs_cons (pg_name (i := 6) sc_slab_parts.nd rfl (Or.inl rfl)) (pgs_cons (pg_name (i := 7) sc_slab_parts.nd rfl (Or.inl rfl)) (pgs_cons (pg_name (i := 5) sc_slab_parts.nd rfl (Or.inl rfl)) pgs_nil))))) (fun _ _ _ _ _ => pts_nil) (fun _ _ _ _ _ => (pi_listB (pv 5))) (fun _ _ _ _ _ => (pg_tup rfl (pgs_cons (pg_name (i := 8) sc_slab_parts.nd rfl (Or.inl rfl)) (pgs_cons (pg_name (i := 9) sc_slab_parts.nd rfl (Or.inl rfl)) pgs_nil)))) (fun _ _ _ _ _ => pts_nil) (fun _ _ _ _ _ => (pe_tup (pa_cons (pe_op op_catTB (pe_tup (pa_cons (pv 6) pa_nil)) (pv 8)) (pa_cons (pe_op op_catTB (pe_tup (pa_cons (pv 7) pa_nil)) (pv 9)) pa_nil))))))))))))), ?_⟩
    have big : 20000 < sizeLine := by decide
    obtain ⟨vs, hS, pR⟩ := id hR
    have lR := paired_len pR
    refine ⟨_, rfl, !vs.isEmpty, .inl ⟨vs, hS, rfl⟩, ?_⟩
    cases pR with
    | nil =>
      refine iteT ⟨Nat.zero_le _, fun l nl => ?_⟩
      generalize hq_ : L2.upd H l _ = H1
      obtain ⟨s1, o1⟩ := _root_.Q.nwS nl hq_
      clear hq_
      refine kQ l [] H1 nl s1 o1 ?_
      cases k <;> exact .nil
    | @cons v0 r0 vs ps hv0 pR =>
    obtain ⟨t0, rfl, ht0⟩ := hv0
    have l0 := RK.len r0 List.mem_cons_self
    refine iteF ⟨_, rfl, a, _, _, _, rfl, rfl, hS, atI_nat (j := 0) rfl, _, _, rfl, .inr ht0, rfl, _, rfl, ite2 (fun e => ?_) (fun e => ?_)⟩
    · rw [List.length_map, l0] at e
      have n0 : k = 0 := by
        have := of_decide_eq_true e
        have := V.int.inj this
        omega
      subst n0
      rcases rows_zero RK with z | z
      · cases z
      obtain ⟨rfl, rfl⟩ := List.cons.inj z
      refine ⟨Nat.zero_le _, fun q1 m1 => ?_⟩
      generalize hq_ : L2.upd H q1 _ = H1
      obtain ⟨s1, o1⟩ := _root_.Q.nwS m1 hq_
      clear hq_
      refine ⟨Nat.zero_le _, fun q2 m2 => ?_⟩
      generalize hq_ : L2.upd H1 q2 _ = H2
      obtain ⟨s2, o2⟩ := _root_.Q.nwS m2 hq_
      clear hq_
      refine ⟨(by show 2 ≤ sizeLine; decide), fun q3 m3 => ?_⟩
      generalize hq_ : L2.upd H2 q3 _ = H3
      obtain ⟨s3, o3⟩ := _root_.Q.nwS m3 hq_
      clear hq_
      refine ⟨(by show 1 ≤ sizeLine; decide), fun l nl => ?_⟩
      generalize hq_ : L2.upd H3 l _ = H4
      obtain ⟨s4, o4⟩ := _root_.Q.nwS nl hq_
      clear hq_
      have s14 := ((s1.trans s2).trans s3).trans s4
      refine kQ l _ H4 (none_same ((s1.trans s2).trans s3) nl) s14 o4 (.cons ⟨q3, q1, q2, rfl, s4 _ _ o3, SqT.of (s4 _ _ (s3 _ _ (s2 _ _ o1))), SqT.of (s4 _ _ (s3 _ _ o2))⟩ .nil)
    obtain ⟨m, rfl⟩ : ∃ m, k = m + 1 := ⟨k - 1, by
      have : k ≠ 0 := fun z => e (by rw [List.length_map, l0, z]; rfl)
      omega⟩
    rcases up with up | ⟨n', rfl, rfl⟩
    · omega
    have pA : Paired (ptS K H) (V.ref t0 :: vs) (r0 :: ps) := .cons ⟨t0, rfl, ht0⟩ pR
    clear e hR lR l0
    generalize V.ref t0 :: vs = ws at hS pA
    generalize r0 :: ps = rows at RK kQ few pA
    have pA := paired_mem pA
    have lA := paired_len pA
    have zero : ∀ {H' : Hp} {t : Addr} {c : List Int}, SqT K H' t (c.map V.int) → c ∈ rows → atI (c.map V.int) 0 = some (.int (hd c)) := fun {H' t c} _ mc => by
      refine atI_nat (j := 0) ?_
      rw [row_cons (RK.len c mc)]
      rfl
    refine fun D0 nD0 => ?_
    generalize hq_ : L2.upd H D0 _ = H1
    obtain ⟨s1, o1⟩ := _root_.Q.nwS nD0 hq_
    clear hq_
    refine ⟨_, rfl, a, rfl, ⟨_, sqL_same s1 hS⟩, ?_⟩
    refine for_list (xs := ws) (fun i σ H' => (∃ v2, σ = [some (.ref a), some (.ref D0), v2, none, none, none, none, none, none, none]) ∧ (∀ b o, b ≠ D0 → H1 b = some o → H' b = some o) ∧ ∃ ks : List (Int × Addr), H' D0 = some (.dK (kvOf ks)) ∧ ks.map Prod.fst = heads (rows.take i) ∧ (ks.map Prod.snd).Nodup ∧ ks.length ≤ i ∧
      ∀ p ∈ ks, H1 p.2 = none ∧ ∃ us, H' p.2 = some (.lst us) ∧ Paired (ptS K H') us (tails p.1 (rows.take i))) ⟨⟨none, rfl⟩, fun _ _ _ e => e, [], o1, rfl, List.Pairwise.nil, Nat.le_refl _, fun _ z => nomatch z⟩ ?_ ?_ ?_
    · rintro i σ H' _ ⟨_, kb, _⟩
      exact sqL_keep (fun o e => kb _ _ (ne_of_none e nD0) (s1 _ _ e)) hS
    · rintro i x σ H' ex ⟨⟨v2, rfl⟩, kb, ks, hD, ek, nd, lk, al⟩
      have hi : i < rows.length := by
        have := (List.getElem?_eq_some_iff.mp ex).1
        omega
      have sH : L2.Same H H' := fun b o e => kb _ _ (ne_of_none e nD0) (s1 _ _ e)
      have pB : Paired (fun x c => ptS K H' x c ∧ c ∈ rows) ws rows := Paired.mapP pA fun _ _ z => ⟨z.1.nl (NL.same sH), z.2⟩
      obtain ⟨x', ex', ⟨t, rfl, ht⟩, mr⟩ := paired_at pB i hi
      rw [ex] at ex'
      cases ex'
      have lr := RK.len _ mr
      obtain ⟨r, er⟩ : ∃ r, r = rows[i] := ⟨_, rfl⟩
      rw [← er] at ht mr lr
      have hks : ks.length ≤ 200 := by omega
      refine ⟨_, rfl, D0, rfl, .inl ⟨_, .of hD⟩, _, rfl, t, _, _, _, rfl, rfl, ht, zero ht mr, Nat.zero_le _, fun Z nZ => ?_⟩
      generalize hq_ : L2.upd H' Z _ = H2
      obtain ⟨s2, o2⟩ := _root_.Q.nwS nZ hq_
      clear hq_
      have nZ1 : H1 Z = none := by
        cases z : H1 Z with
        | none => rfl
        | some o => rw [kb _ _ (fun w => by rw [w, hD] at nZ; cases nZ) z] at nZ; cases nZ
      have ZD : Z ≠ D0 := fun w => by rw [w, hD] at nZ; cases nZ
      refine ⟨_, .inl (hd r), s2 _ _ hD, rfl, by ((try simp only [List.length_map, List.length_take, List.length_drop, List.length_append, List.length_cons, List.length_nil, List.length_zipWith, List.length_set, List.length_replicate, List.length_range]) <;> omega), fun y hy => ?_, fun hn => ?_⟩
      · obtain ⟨p, mp, e1, rfl⟩ := kv_some hy
        obtain ⟨n1, us, hu, pu⟩ := al p mp
        refine ⟨.inl ⟨rfl, _, SqL.of (s2 _ _ hu)⟩, _, rfl, 1, rfl, t, _, rfl, sqT_same s2 ht, (fun z => ?_), fun _ q nq => ?_⟩
        · have z : HT.sIx (r.map V.int).length 0 (some ((1 : Nat) : Int)) = 0 := z.1
          rw [HT.sIx_nat, List.length_map] at z
          omega
        generalize hq_ : L2.upd H2 q _ = H3
        obtain ⟨s3, o3⟩ := _root_.Q.nwS nq hq_
        clear hq_
        rw [show (some (1 : Int)) = some ((1 : Nat) : Int) from rfl, cutV_drop, ← List.map_drop] at o3
        have hu3 := s3 _ _ (s2 _ _ hu)
        have lu := paired_len pu
        have lt := tails_len p.1 (rows.take i)
        rw [List.length_take] at lt
        refine ⟨p.2, _, _, rfl, rfl, hu3, by omega, ?_⟩
        generalize hq_ : L2.upd H3 p.2 _ = H4
        obtain ⟨u4, o4⟩ := _root_.Q.updS hq_
        clear hq_
        have s23 := s2.trans s3
        have nl4 := (NL.same s23).trans (NL.put hu3 u4)
        have pD : D0 ≠ p.2 := fun w => by rw [← w, hD] at hu; cases hu
        have hv : hd r ∈ heads (rows.take i) := by rw [← ek, ← e1]; exact List.mem_map_of_mem mp
        have et : rows.take (i + 1) = rows.take i ++ [r] := by rw [er]; exact List.take_succ_eq_append_getElem hi
        refine ⟨⟨_, rfl⟩, fun b o nb e => u4 _ _ (ne_of_none e n1) (s23 _ _ (kb b o nb e)), ks, u4 _ _ pD (s23 _ _ hD), ?_, nd, Nat.le_succ_of_le lk, fun p' mp' => ?_⟩
        · rw [et, heads_snoc, if_pos hv, ek]
        · obtain ⟨n1', us', hu', pu'⟩ := al p' mp'
          refine ⟨n1', ?_⟩
          rw [et, tails_snoc]
          by_cases c : p'.2 = p.2
          · obtain rfl := nodup_inj nd mp' mp c
            rw [hu] at hu'
            obtain rfl := HO.lst.inj (Option.some.inj hu')
            rw [if_pos e1.symm]
            exact ⟨_, o4, Paired.snoc (Paired.mapP pu' fun _ _ z => z.nl nl4) ⟨q, rfl, SqT.of ((NL.put hu3 u4).tup o3)⟩⟩
          · rw [if_neg fun w => c (by
              have ndk : (ks.map Prod.fst).Nodup := by
                rw [ek]
                exact asc_nodup (RK.take i).heads
              rw [nodup_inj ndk mp' mp (w.symm.trans e1.symm)]), List.append_nil]
            exact ⟨us', u4 _ _ c (s23 _ _ hu'), Paired.mapP pu' fun _ _ z => z.nl nl4⟩
      · have nk := kv_none hn
        generalize hq_ : L2.upd H2 D0 _ = H3
        obtain ⟨u3, o3⟩ := _root_.Q.updS hq_
        clear hq_
        rw [kv_put nk] at o3
        have hZ := u3 _ _ ZD o2
        have ht3 : SqT K H3 t (r.map V.int) := sqT_but u3 (s2 _ _ hD) (fun _ z => nomatch z) (fun _ _ z => nomatch z) (sqT_same s2 ht)
        refine ⟨.inl ⟨rfl, _, SqL.of hZ⟩, _, rfl, 1, rfl, t, _, rfl, ht3, (fun z => ?_), fun _ q nq => ?_⟩
        · have z : HT.sIx (r.map V.int).length 0 (some ((1 : Nat) : Int)) = 0 := z.1
          rw [HT.sIx_nat, List.length_map] at z
          omega
        generalize hq_ : L2.upd H3 q _ = H4
        obtain ⟨s4, o4⟩ := _root_.Q.nwS nq hq_
        clear hq_
        rw [show (some (1 : Int)) = some ((1 : Nat) : Int) from rfl, cutV_drop, ← List.map_drop] at o4
        refine ⟨Z, _, _, rfl, rfl, s4 _ _ hZ, (by show 0 < sizeLine; omega), ?_⟩
        generalize hq_ : L2.upd H4 Z _ = H5
        obtain ⟨u5, o5⟩ := _root_.Q.updS hq_
        clear hq_
        have k5 : ∀ b o, b ≠ D0 → H' b = some o → H5 b = some o := fun b o nb e => u5 _ _ (ne_of_none e nZ) (s4 _ _ (u3 _ _ nb (s2 _ _ e)))
        have et : rows.take (i + 1) = rows.take i ++ [r] := by rw [er]; exact List.take_succ_eq_append_getElem hi
        have hv : hd r ∉ heads (rows.take i) := by rw [← ek]; exact nk
        refine ⟨⟨_, rfl⟩, fun b o nb e => k5 _ _ nb (kb b o nb e), ks ++ [(hd r, Z)], u5 _ _ ZD.symm (s4 _ _ o3), ?_, ?_, by rw [List.length_append]; exact Nat.succ_le_succ lk, fun p' mp' => ?_⟩
        · rw [et, heads_snoc, if_neg hv, List.map_append, ek]
          rfl
        · rw [List.map_append]
          refine List.pairwise_append.mpr ⟨nd, List.pairwise_singleton _ _, fun x mx z mz w => ?_⟩
          obtain ⟨p, mp, rfl⟩ := List.mem_map.mp mx
          obtain ⟨_, us, hu, _⟩ := al p mp
          rw [w, List.mem_singleton.mp mz, nZ] at hu
          cases hu
        · rw [et]
          rcases List.mem_append.mp mp' with mp' | mp'
          · obtain ⟨n1', us', hu', pu'⟩ := al p' mp'
            have c : p'.2 ≠ Z := fun w => by rw [w, nZ] at hu'; cases hu'
            have c2 : p'.2 ≠ D0 := fun w => by rw [w, hD] at hu'; cases hu'
            refine ⟨n1', us', k5 _ _ c2 hu', ?_⟩
            rw [tails_snoc, if_neg fun w => nk (by rw [w]; exact List.mem_map_of_mem mp'), List.append_nil]
            exact Paired.mapP pu' fun _ _ z => by
              obtain ⟨t', e', h'⟩ := z
              exact ⟨t', e', sqT_but k5 hD (fun _ z => nomatch z) (fun _ _ z => nomatch z) h'⟩
          · rw [List.mem_singleton.mp mp']
            refine ⟨nZ1, _, o5, ?_⟩
            show Paired (ptS K H5) [.ref q] (tails (hd r) (rows.take i ++ [r]))
            rw [tails_snoc, tails_none hv, if_pos rfl]
            exact .cons ⟨q, rfl, SqT.of (u5 _ _ (fun w => by rw [w, hZ] at nq; cases nq) o4)⟩ .nil
    · rintro σ H' ⟨⟨v2, rfl⟩, kb, ks, hD, ek, nd, lk, al⟩
      rw [lA, List.take_length] at ek al
      refine ⟨Nat.zero_le _, fun R0 nR => ?_⟩
      generalize hq_ : L2.upd H' R0 _ = H2
      obtain ⟨s2, o2⟩ := _root_.Q.nwS nR hq_
      clear hq_
      have hD2 := s2 _ _ hD
      have ndk : (ks.map Prod.fst).Nodup := by
        rw [ek]
        exact List.Pairwise.imp (S := fun a b => a ≠ b) (fun {a b} h e => by omega) RK.heads
      have sH : L2.Same H H' := fun b o e => kb _ _ (ne_of_none e nD0) (s1 _ _ e)
      refine ⟨D0, _, hD2, trivial, fun od => ?_⟩
      obtain ⟨H3, e3⟩ : ∃ H3, upd H2 D0 (.frz od (.dK (kvOf ks))) = H3 := ⟨_, rfl⟩
      rw [e3]
      obtain ⟨u3, o3⟩ := updS e3
      have RD : R0 ≠ D0 := fun z => by rw [z, hD] at nR; cases nR
      refine ⟨_, rfl, D0, od, rfl, .inl ⟨_, o3, ?_⟩⟩
      refine for_it walk_keys (fun i σ H' => (∃ v4 v5 : Option V, σ = [some (.ref a), some (.ref D0), v2, some (.ref R0), v4, v5, none, none, none, none]) ∧ (∀ b o, b ≠ R0 → H3 b = some o → H' b = some o) ∧ ∃ us, H' R0 = some (.lst us) ∧ us.length ≤ i ∧ Paired (RunT K H' R0) us (((heads rows).take i).foldl (fun rs v => step rs v (slabs m (tails v rows))) []))
        ⟨⟨none, none, rfl⟩, fun _ _ _ e => e, [], u3 _ _ RD o2, Nat.le_refl _, .nil⟩ (fun i σ H' _ q => q.2.1 _ _ RD.symm o3) ?_ ?_
      · rintro i x σ H4 H5 hi ⟨⟨v4, v5, rfl⟩, kc, us, hR, li, rl⟩ ⟨rfl, k', v', ei, rfl⟩
        obtain ⟨p, ep, e2⟩ : ∃ p, ks[i]? = some p ∧ (((Sum.inl p.1 : Key), V.ref p.2) = (k', v')) := by
          rw [List.getElem?_map] at ei
          exact Option.map_eq_some_iff.mp ei
        cases e2
        have mp := List.mem_of_getElem? ep
        have hi' : i < (heads rows).length := by
          rw [← ek, List.length_map]
          have : i < (kvOf ks).length := hi
          rwa [List.length_map] at this
        have ev : (heads rows)[i] = p.1 := by
          have : (ks.map Prod.fst)[i]? = some p.1 := by rw [List.getElem?_map, ep]; rfl
          rw [ek, List.getElem?_eq_getElem hi'] at this
          exact Option.some.inj this
        obtain ⟨n1, us', hu', pu'⟩ := al p mp
        have p2D : p.2 ≠ D0 := fun w => by rw [w, hD] at hu'; cases hu'
        have p2R : p.2 ≠ R0 := fun w => by rw [w, nR] at hu'; cases hu'
        have hu5 := kc _ _ p2R (u3 _ _ p2D (s2 _ _ hu'))
        have nl5 : NL H3 H5 := fun b o no _ e => kc _ _ (fun w => by rw [w, u3 _ _ RD o2] at e; exact no [] (Option.some.inj e).symm) e
        have pu5 : Paired (ptS K H5) us' (tails p.1 rows) := Paired.mapP pu' fun _ _ z => by
          obtain ⟨t', e', h'⟩ := z
          exact ptS.nl nl5 ⟨t', e', sqT_but u3 hD2 (fun _ z => nomatch z) (fun _ _ z => nomatch z) (sqT_same s2 h')⟩
        refine ⟨_, rfl, _, rfl, D0, .ref p.2, rfl, (show DGet H5 D0 (.int p.1) (some (.ref p.2)) from by rw [← kv_at ndk mp]; exact .inl ⟨_, .inl p.1, .inr ⟨od, kc _ _ RD.symm o3⟩, rfl, rfl⟩), m, by omega, p.2, tails p.1 rows, rfl, ⟨_, SqL.of hu5, pu5⟩, RK.tails p.1, Nat.le_trans (tails_len p.1 rows) few, by omega, fun l zs H6 nl6 s6 hl hC => ?_⟩
        obtain ⟨v, evv⟩ : ∃ v, v = p.1 := ⟨_, rfl⟩
        have rl6 : Paired (RunT K H6 R0) us _ := Paired.mapP rl fun _ _ z => z.keep (fun b o _ e => s6 b o e) (NL.same s6)
        have hR6 := s6 _ _ hR
        have lR : l ≠ R0 := fun z => by rw [z, hR] at nl6; cases nl6
        obtain ⟨parts, epp⟩ : ∃ parts, parts = slabs m (tails v rows) := ⟨_, rfl⟩
        rw [← evv, ← epp] at hC
        rw [List.take_succ_eq_append_getElem hi', List.foldl_append, ev]
        have few64 := RK.few
        generalize ((heads rows).take i).foldl (fun rs v => step rs v (slabs m (tails v rows))) [] = rs at rl6
        have fin : List.foldl (fun rs v => step rs v (slabs m (tails v rows))) rs [p.1] = step rs v parts := by rw [epp, evv]; rfl
        rw [fin]
        unfold gName
        dsimp only
        refine ifS_of (joins rs v parts) H6 (fun C c => ?_) ?_
        · rcases List.eq_nil_or_concat rs with rfl | ⟨xs, r, rfl⟩
          · obtain rfl : us = [] := by
              cases rl6
              rfl
            exact ⟨_, rfl, false, .inl ⟨[], SqL.of hR6, rfl⟩, iteF c⟩
          · rw [List.concat_eq_append] at rl6 c
            rw [joins_snoc] at c
            obtain ⟨us2, y, rfl, _, t, l2, ws2, rfl, r1, n2, r2, r3⟩ := paired_snoc rl6
            refine ⟨_, rfl, true, .inl ⟨_, SqL.of hR6, by simp⟩, iteT ⟨_, rfl, _, rfl, R0, _, _, _, rfl, rfl, SqL.of hR6, atI_last _ _, .inr (.inl ⟨t, _, _, _, rfl, rfl, SqT.of r1, atI_nat (j := 1) rfl, _, rfl, rfl, _, rfl, ite2 (fun e1 => ?_) (fun e1 => ?_)⟩)⟩⟩
            · refine ⟨_, rfl, _, rfl, R0, _, _, _, rfl, rfl, SqL.of hR6, atI_last _ _, .inr (.inl ⟨t, _, _, _, rfl, rfl, SqT.of r1, atI_nat (j := 2) rfl, _, rfl, _, _, dp_cuts (SqL.of r2) r3, dp_cuts (SqL.of hl) hC, shaped_cuts _, shaped_cuts _, _, rfl, ?_⟩)⟩
              rw [eqv_cuts]
              rw [decide_eq_true (by rw [evv]; exact V.int.inj (of_decide_eq_true e1)), Bool.true_and] at c
              exact c
            · rw [decide_eq_false (fun z => e1 (by rw [z, evv]; exact decide_eq_true rfl)), Bool.false_and] at c
              exact c
        cases hj : joins rs v parts with
        | true =>
          obtain ⟨xs, r, rfl, er1, er2, es⟩ := step_yes hj
          rw [es]
          obtain ⟨us2, y, rfl, pr2, t, l2, ws2, rfl, r1, n2, r2, r3⟩ := paired_snoc rl6
          refine iteT ⟨_, rfl, _, rfl, R0, _, _, _, rfl, rfl, SqL.of hR6, atI_last _ _, .inr (.inl ⟨t, _, _, _, rfl, rfl, SqT.of r1, atI_nat (j := 0) rfl, _, rfl, _, _, rfl, rfl, _, rfl, (by show 3 ≤ sizeLine; omega), fun t2 n3 => ?_⟩)⟩
          generalize hq_ : L2.upd H6 t2 _ = H7
          obtain ⟨s7, o7⟩ := _root_.Q.nwS n3 hq_
          clear hq_
          refine ⟨_, rfl, _, rfl, R0, _, _, _, rfl, rfl, s7 _ _ hR6, ixN_last _ _, ?_⟩
          generalize hq_ : L2.upd H7 R0 _ = H8
          obtain ⟨u8, o8⟩ := _root_.Q.updS hq_
          clear hq_
          rw [set_last] at o8
          have k8 : ∀ b o, b ≠ R0 → H6 b = some o → H8 b = some o := fun b o nb e => u8 _ _ nb (s7 _ _ e)
          have nl8 := (NL.same s7).trans (NL.put (s7 _ _ hR6) u8)
          rw [List.length_append] at li
          refine ⟨⟨_, _, rfl⟩, fun b o nb e => k8 b o nb (s6 _ _ (kc b o nb e)), us2 ++ [.ref t2], o8, by rw [List.length_append]; exact Nat.le_succ_of_le li, paired_app (Paired.mapP pr2 fun _ _ z => z.keep k8 nl8) (.cons ⟨t2, l, zs, rfl, ?_, lR, k8 _ _ lR hl, hC.nl nl8⟩ .nil)⟩
          rw [(NL.put (s7 _ _ hR6) u8).tup o7, evv]
        | false =>
          rw [step_no hj]
          refine iteF ⟨_, rfl, .inl ⟨rfl, _, SqL.of hR6⟩, _, rfl, _, rfl, _, _, rfl, rfl, _, rfl, (by show 3 ≤ sizeLine; omega), fun Y nY => ?_⟩
          generalize hq_ : L2.upd H6 Y _ = H7
          obtain ⟨s7, o7⟩ := _root_.Q.nwS nY hq_
          clear hq_
          refine ⟨R0, _, _, rfl, rfl, s7 _ _ hR6, by omega, ?_⟩
          generalize hq_ : L2.upd H7 R0 _ = H8
          obtain ⟨u8, o8⟩ := _root_.Q.updS hq_
          clear hq_
          have k8 : ∀ b o, b ≠ R0 → H6 b = some o → H8 b = some o := fun b o nb e => u8 _ _ nb (s7 _ _ e)
          have nl8 := (NL.same s7).trans (NL.put (s7 _ _ hR6) u8)
          refine ⟨⟨_, _, rfl⟩, fun b o nb e => k8 b o nb (s6 _ _ (kc b o nb e)), us ++ [.ref Y], o8, by rw [List.length_append]; exact Nat.succ_le_succ li, paired_app (Paired.mapP rl6 fun _ _ z => z.keep k8 nl8) (.cons ⟨Y, l, zs, rfl, ?_, lR, k8 _ _ lR hl, hC.nl nl8⟩ .nil)⟩
          rw [(NL.put (s7 _ _ hR6) u8).tup o7, evv]
          rfl
      · rintro σ H4 ⟨⟨v4, v5, rfl⟩, kc, us, hR, li, rl⟩
        have ln : (kvOf ks).length = (heads rows).length := by rw [← ek, List.length_map, List.length_map]
        rw [ln, List.take_length] at rl
        have hD4 := kc _ _ RD.symm o3
        refine ⟨hD4, ?_⟩
        obtain ⟨H5, e5⟩ : ∃ H5, upd H4 D0 (.dK (kvOf ks)) = H5 := ⟨_, rfl⟩
        rw [e5]
        obtain ⟨u5, o5⟩ := updS e5
        have okr := (fold_keeps (k := m) (rows := rows) (g := fun v => slabs m (tails v rows)) (fun v => slabs_spec (RK.tails v)) (heads rows) [] (fun v mv => RK.head_val mv) (fun _ z => nomatch z)).1
        have fewS := slabs_few RK
        have es : slabs (m + 1) rows = spread ((heads rows).foldl (fun rs v => step rs v (slabs m (tails v rows))) []) := rfl
        rw [es] at kQ fewS
        generalize (heads rows).foldl (fun rs v => step rs v (slabs m (tails v rows))) [] = rs at rl kQ okr fewS
        have pr : Paired (RunT K H5 R0) us rs := Paired.mapP rl fun _ _ z => z.but u5 hD4 (fun _ z => nomatch z) (fun _ _ z => nomatch z) (fun _ z => nomatch z)
        have lr := paired_len pr
        have hR5 := u5 _ _ RD hR
        have k05 : ∀ b o, b ≠ D0 → b ≠ R0 → H' b = some o → H5 b = some o := fun b o n1 n2 e => u5 _ _ n1 (kc _ _ n2 (u3 _ _ n1 (s2 _ _ e)))
        have sH5 : L2.Same H H5 := fun b o e => k05 b o (ne_of_none e nD0) (fun z => by rw [← z, sH _ _ e] at nR; cases nR) (sH _ _ e)
        refine ⟨_, rfl, R0, rfl, ⟨_, SqL.of hR5⟩, fun D nD => ?_⟩
        have nlD : ∀ {H'' : Hp}, (∀ b o, b ≠ D → H5 b = some o → H'' b = some o) → L2.Same H5 H'' := fun {H''} k b o e => k b o (ne_of_none e nD) e
        refine over_list (xs := us) (fun i H'' => (∀ b o, b ≠ D → H5 b = some o → H'' b = some o) ∧ ∃ zs, H'' D = some (.lst zs) ∧ Cps K H'' zs (spread (rs.take i))) ⟨fun b o nb e => by rw [upd_ne nb]; exact e, [], upd_same, .nil⟩ (fun i H'' _ q => SqL.of (nlD q.1 _ _ hR5)) ?_ ?_
        · rintro i x H6 ex ⟨kd, zs, hz, hC⟩
          have hi : i < us.length := (List.getElem?_eq_some_iff.mp ex).1
          have pr6 : Paired (RunT K H6 R0) us rs := Paired.mapP pr fun _ _ z => z.keep (fun b o _ e => nlD kd b o e) (NL.same (nlD kd))
          obtain ⟨y0, ey0, t0', l0, ws0, rfl, g1, _, g2, _⟩ := paired_at pr i (by omega)
          obtain ⟨x', ex', t, l, ws', rfl, h1, _, h2, h3⟩ := paired_at pr6 i (by omega)
          rw [ex] at ex'
          cases ex'
          refine ⟨t, _, rfl, SqT.of h1, rfl, _, _, rfl, _, _, rfl, _, _, rfl, rfl, rfl, _, rfl, l, rfl, ⟨_, SqL.of h2⟩, ?_⟩
          have lw := paired_len h3
          have lD : l ≠ D := fun z => by
            rw [ex] at ey0
            obtain rfl := V.ref.inj (Option.some.inj ey0)
            have e := nlD kd _ _ g1
            rw [h1] at e
            have e := HO.tup.inj (Option.some.inj e)
            simp only [List.cons.injEq, V.ref.injEq, and_true] at e
            rw [← e.2.2, z, nD] at g2
            cases g2
          refine over_list (xs := ws') (fun j H'' => (∀ b o, b ≠ D → H5 b = some o → H'' b = some o) ∧ (∀ b o, b ≠ D → H6 b = some o → H'' b = some o) ∧ ∃ zs, H'' D = some (.lst zs) ∧ Cps K H'' zs (spread (rs.take i) ++ (wide rs[i]).take j)) ⟨kd, fun _ _ _ e => e, zs, hz, by rw [List.take_zero, List.append_nil]; exact hC⟩ (fun j H'' _ q => SqL.of (q.2.1 _ _ lD h2)) ?_ ?_
          · rintro j x H7 ex2 ⟨ke, kf, us2, hz2, hC2⟩
            have h3' : Cps K H7 ws' rs[i].2.2 := h3.nl (NL.put hz kf)
            have hj : j < rs[i].2.2.length := by
              have := (List.getElem?_eq_some_iff.mp ex2).1
              omega
            obtain ⟨x'', ex3, t, tl, th, rfl, g1, g2, g3⟩ := paired_at h3' j hj
            rw [ex2] at ex3
            cases ex3
            obtain ⟨p1, p2, _⟩ := (okr rs[i] (List.getElem_mem _)).2.2.2 _ (List.getElem_mem hj)
            have p3 := p2.len
            refine ⟨t, _, rfl, SqT.of g1, rfl, _, _, rfl, _, _, rfl, rfl, rfl, _, rfl, (by show 1 ≤ sizeLine; omega), fun q1 m1 => ?_⟩
            generalize hq_ : L2.upd H7 q1 _ = Ha
            obtain ⟨sa, oa⟩ := _root_.Q.nwS m1 hq_
            clear hq_
            refine ⟨_, rfl, catT_of oa (sqT_same sa g2) (by omega) fun q2 Hb sb ob => ?_⟩
            refine ⟨_, rfl, (by show 1 ≤ sizeLine; omega), fun q3 m3 => ?_⟩
            generalize hq_ : L2.upd Hb q3 _ = Hc
            obtain ⟨sc, oc⟩ := _root_.Q.nwS m3 hq_
            clear hq_
            have sac := (sa.trans sb).trans sc
            refine ⟨_, rfl, catT_of oc (sqT_same sac g3) (by omega) fun q4 Hd sd od' => ?_⟩
            refine ⟨(by show 2 ≤ sizeLine; omega), fun q5 m5 => ?_⟩
            generalize hq_ : L2.upd Hd q5 _ = He
            obtain ⟨se, oe⟩ := _root_.Q.nwS m5 hq_
            clear hq_
            have sae := (sac.trans sd).trans se
            have hw : (wide rs[i]).length = rs[i].2.2.length := by unfold wide; rw [List.length_map]
            have hj' : j < (wide rs[i]).length := by omega
            have ew := wide_at rs[i] hj' hj
            have lu := paired_len hC2
            have b1 := spread_take rs (i + 1)
            rw [spread_snoc rs (by omega)] at b1
            have b2 : (spread (rs.take i) ++ (wide rs[i]).take j).length ≤ (spread (rs.take i) ++ wide rs[i]).length := by
              rw [List.length_append, List.length_append, List.length_take]
              omega
            have hzE := sae _ _ hz2
            refine ⟨_, hzE, by omega, ?_⟩
            generalize hq_ : L2.upd He D _ = Hf
            obtain ⟨uf, of'⟩ := _root_.Q.updS hq_
            clear hq_
            have nlg := NL.put hzE uf
            have nlf := (NL.same sae).trans nlg
            refine ⟨fun b o nb e => uf _ _ nb (sae _ _ (ke b o nb e)), fun b o nb e => uf _ _ nb (sae _ _ (kf b o nb e)), _, of', ?_⟩
            rw [List.take_succ_eq_append_getElem hj', ← List.append_assoc]
            refine Cps.snoc (hC2.nl nlf) ⟨q5, q2, q4, rfl, nlg.tup oe, ?_, ?_⟩
            · rw [ew]
              exact nlg.sqT (sqT_same ((sc.trans sd).trans se) ob)
            · rw [ew]
              exact nlg.sqT (sqT_same se od')
          · rintro H7 ⟨ke, kf, us2, hz2, hC2⟩
            have e : (wide rs[i]).length = ws'.length := by
              unfold wide
              rw [List.length_map, lw]
            rw [← e, List.take_length, ← spread_snoc rs (by omega)] at hC2
            exact ⟨ke, us2, hz2, hC2⟩
        · rintro H6 ⟨kd, zs, hz, hC⟩
          rw [lr, List.take_length] at hC
          have nH := none_same sH5 nD
          exact kQ D zs H6 nH (fun b o e => nlD kd _ _ (sH5 _ _ e)) hz hC
theorem parts_void (T : Tx K mg) : Cal P w K mg base CX0 0 "slab_parts" ["rows"] [] (fun _ _ _ _ => False) := by
  obtain ⟨fd, F⟩ := T.d_slab_parts
  exact ⟨_, fd, [], ⟨fun _ _ _ _ z => z.elim, fun _ _ _ _ _ _ _ _ _ _ _ _ _ z => z.elim⟩, T.g_slab_parts, F.kp, F.bindsN fun _ _ _ _ _ _ us hl => match us, hl with | [_], _ => rfl, .nil⟩
theorem C_parts (T : Tx K mg) : ∀ n : Nat, Cal P w K mg base CX0 (n + 1) "slab_parts" ["rows"] [] (spParts K n)
  | 0 => parts_step T (n := 0) (parts_void T) (.inl rfl)
  | n + 1 => parts_step T (n := n + 1) (C_parts T n) (.inr ⟨n, rfl, rfl⟩)
theorem C_slab_parts (T : Tx K mg) : Cal P w K mg base CX0 4 "slab_parts" ["rows"] [] (spParts K 3) := C_parts T 3

end
end K07

set_option maxRecDepth 100000
set_option maxHeartbeats 4000000
/-! The tables of sets with masks up to 511: every slot lies on every way. -/
namespace Q
open PySem PySem.Spec PyProof.Rows L2
/-! ### the round i -> 5 i + 1, by the bits of what it meets -/
def orbit (m : Nat) : Nat → Nat → Nat
  | 0, _ => 0
  | n + 1, x => 2 ^ x ||| orbit m n ((x * 5 + 1) % (m + 1))
theorem lcg_front (m x : Nat) : ∀ k, lcgI m x (k + 1) = lcgI m ((x * 5 + 1) % (m + 1)) k
  | 0 => rfl
  | k + 1 => congrArg (fun z => (z * 5 + 1) % (m + 1)) (lcg_front m x k)
theorem lcg_then (m x a : Nat) : ∀ k, lcgI m (lcgI m x a) k = lcgI m x (a + k)
  | 0 => rfl
  | k + 1 => congrArg (fun z => (z * 5 + 1) % (m + 1)) (lcg_then m x a k)
theorem orbit_bit {m j : Nat} : ∀ (n x : Nat), (orbit m n x).testBit j = true → ∃ k, k < n ∧ lcgI m x k = j
  | 0, _, h => by
    rw [orbit, Nat.zero_testBit] at h
    cases h
  | n + 1, x, h => by
    rw [orbit, Nat.testBit_or, Bool.or_eq_true, Nat.testBit_two_pow] at h
    rcases h with h | h
    · exact ⟨0, Nat.succ_pos _, of_decide_eq_true h⟩
    · obtain ⟨k, a, b⟩ := orbit_bit n _ h
      exact ⟨k + 1, Nat.succ_lt_succ a, (lcg_front m x k).trans b⟩
theorem orbit511 : orbit 511 512 0 = 2 ^ 512 - 1 := by decide +kernel
theorem round511 : lcgI 511 0 512 = 0 := by decide +kernel
theorem meets511 {j : Nat} (h : j ≤ 511) : ∃ k, k < 512 ∧ lcgI 511 0 k = j := by
  refine orbit_bit 512 0 ?_
  rw [orbit511, Nat.testBit_two_pow_sub_one]
  exact decide_eq_true (by omega)
/-- the masks of sets of up to some 300 -/
def Wide (m : Nat) : Prop := MaskOk m ∨ m = 511
theorem Wide.odd {m : Nat} (W : Wide m) : m % 2 = 1 := W.elim mask_odd fun e => by rw [e]
theorem Wide.le {m : Nat} (W : Wide m) : 7 ≤ m ∧ m ≤ 511 := by
  rcases W with (e | e | e) | e <;> omega
theorem Wide.round {m : Nat} (W : Wide m) {i j : Nat} (a : i ≤ m) (b : j ≤ m) : ∃ k, k ≤ m ∧ lcgI m i k = j := by
  rcases W with W | rfl
  · exact lcgI_all W a b
  · obtain ⟨x, hx, ex⟩ := meets511 a
    obtain ⟨y, hy, ey⟩ := meets511 b
    by_cases c : x ≤ y
    · exact ⟨y - x, by omega, by rw [← ex, lcg_then, show x + (y - x) = y by omega, ey]⟩
    · refine ⟨512 + y - x, by omega, ?_⟩
      rw [← ex, lcg_then, show x + (512 + y - x) = 512 + y by omega, ← lcg_then, round511, ey]
theorem Wide.run {m : Nat} (W : Wide m) (h : Int) {j : Nat} (b : j ≤ m) : ∃ n, n ≤ m + 12 ∧ runI m (SetTable.bits h) n = j := by
  obtain ⟨k, a, e⟩ := W.round (runI_le m (SetTable.bits h) 12) b
  exact ⟨12 + k, by omega, (runI_tail (bits_lt h) k).trans e⟩
/-! ### the ways -/
/-- where a search stands after c steps -/
abbrev stp (m : Nat) (h : Int) (c : Nat) : SetTable.Probe := nth m (runAt m (SetTable.bits h % (m + 1)) (SetTable.bits h)) c
theorem way_in {m : Nat} (h : Int) (k : Nat) : way m h k ≤ m := by
  have lt : SetTable.bits h % (m + 1) ≤ m := Nat.le_of_lt_succ (Nat.mod_lt _ (Nat.succ_pos m))
  obtain ⟨r1, r2, _⟩ := runEnd_bd lt
  have z : (stp m h k).j + (stp m h k).more ≤ m := nth_in k _ (show SetTable.bits h % (m + 1) + (SetTable.runEnd m (SetTable.bits h % (m + 1)) - SetTable.bits h % (m + 1)) ≤ m by omega)
  exact Nat.le_trans (Nat.le_add_right _ _) z
/-- j lies on the way of h, and all ahead of it is in S -/
def Met (m : Nat) (h : Int) (S : Nat → Prop) (j : Nat) : Prop := ∃ K, way m h K = j ∧ ∀ k, k < K → S (way m h k)
theorem Met.up {m j : Nat} {h : Int} {S S' : Nat → Prop} (f : ∀ i, S i → S' i) (x : Met m h S j) : Met m h S' j := by
  obtain ⟨K, e, a⟩ := x
  exact ⟨K, e, fun k l => f _ (a k l)⟩
theorem Met.up' {m j : Nat} {h : Int} {S S' : Nat → Prop} (x : Met m h S j) (f : ∀ i, i ≤ m → S i → S' i) : Met m h S' j := by
  obtain ⟨K, e, a⟩ := x
  exact ⟨K, e, fun k l => f _ (way_in h k) (a k l)⟩
theorem gap_of {m : Nat} (W : Wide m) (h : Int) {S : Nat → Prop} {j : Nat} (b : j ≤ m) (n : ¬ S j) : ∃ K, K < 10 * SetTable.turns m ∧ ¬ S (way m h K) ∧ ∀ k, k < K → S (way m h k) := by
  obtain ⟨r, a, e⟩ := W.run h b
  obtain ⟨k, l, q⟩ := run_nth m (SetTable.bits h) r
  have y : way m h k = j := (congrArg SetTable.Probe.j q).trans e
  obtain ⟨K, c, d, o⟩ := st_least (p := fun k => ¬ S (way m h k)) k (y ▸ n)
  exact ⟨K, by unfold SetTable.turns; omega, d, fun k l => Classical.byContradiction (o k l)⟩
theorem free_gap {m : Nat} (W : Wide m) (o : Array (Option Nat)) (h : Int) {j : Nat} (b : j ≤ m) (f : oAt o j = none) :
    ∃ K, SetTable.layClean.free m o (SetTable.turns m) (SetTable.bits h % (m + 1)) (SetTable.bits h) = some (way m h K) ∧ oAt o (way m h K) = none ∧ ∀ k, k < K → oAt o (way m h k) ≠ none := by
  obtain ⟨r, a, e⟩ := W.run h b
  have y : way m h (off m (SetTable.bits h % (m + 1)) (SetTable.bits h) r) = j := by
    have q := nth_off m r (SetTable.bits h % (m + 1)) (SetTable.bits h)
    rw [itL_run] at q
    exact (congrArg SetTable.Probe.j q).trans e
  obtain ⟨K, c, d, l⟩ := st_least (p := fun k => oAt o (way m h k) = none) _ (y ▸ f)
  have is : ∀ k, (oAt o (way m h k)).isNone = decide (oAt o (way m h k) = none) := fun k => by
    cases oAt o (way m h k) <;> rfl
  exact ⟨K, free_spec m o _ r _ _ K (by unfold SetTable.turns; omega) c (fun k z => (is k).trans (decide_eq_false (l k z))) ((is K).trans (decide_eq_true d)), d, l⟩
/-! ### lists laid side by side -/
theorem paired_take {α β : Type} {R : α → β → Prop} {as : List α} {bs : List β} (h : Paired R as bs) : ∀ n, Paired R (as.take n) (bs.take n) := by
  induction h with
  | nil => intro n; rw [List.take_nil, List.take_nil]; exact .nil
  | cons a _ ih =>
    intro n
    cases n with
    | zero => exact .nil
    | succ n => exact .cons a (ih n)
theorem paired_drop {α β : Type} {R : α → β → Prop} {as : List α} {bs : List β} (h : Paired R as bs) : ∀ n, Paired R (as.drop n) (bs.drop n) := by
  induction h with
  | nil => intro n; rw [List.drop_nil, List.drop_nil]; exact .nil
  | cons a r ih =>
    intro n
    cases n with
    | zero => exact .cons a r
    | succ n => exact ih n
theorem paired_join {α β : Type} {R : α → β → Prop} {as cs : List α} {bs ds : List β} (h : Paired R as bs) (k : Paired R cs ds) : Paired R (as ++ cs) (bs ++ ds) := by
  induction h with
  | nil => exact k
  | cons a _ ih => exact .cons a ih
theorem paired_len' {α β : Type} {R : α → β → Prop} {as : List α} {bs : List β} (h : Paired R as bs) : as.length = bs.length := by
  induction h with
  | nil => rfl
  | cons _ _ ih => rw [List.length_cons, List.length_cons, ih]
theorem paired_nth {α β : Type} {R : α → β → Prop} {as : List α} {bs : List β} (h : Paired R as bs) : ∀ {i : Nat} {a : α} {b : β}, as[i]? = some a → bs[i]? = some b → R a b := by
  induction h with
  | nil => intro i a b e; simp at e
  | cons x _ ih =>
    intro i a b e f
    cases i with
    | zero =>
      cases e
      cases f
      exact x
    | succ i => exact ih e f
/-- a table in which all is found again: hs the hashes, slot by slot -/
structure Tab (t : SetTable) (hs : List Int) : Prop where
  up : Ris t.place.toList
  dum : t.dummies = #[]
  wide : Wide t.mask
  low : ∀ j ∈ t.place.toList, j ≤ t.mask
  met : Paired (fun h j => Met t.mask h (· ∈ t.place.toList) j) hs t.place.toList
theorem Tab.size {t : SetTable} {hs : List Int} (T : Tab t hs) : t.place.size = hs.length := by
  rw [paired_len' T.met, Array.length_toList]
theorem Tab.gap {t : SetTable} {hs : List Int} (T : Tab t hs) (l : hs.length ≤ t.mask) (h : Int) : ∃ K, K < 10 * SetTable.turns t.mask ∧ way t.mask h K ∉ t.place.toList ∧ ∀ k, k < K → way t.mask h k ∈ t.place.toList := by
  obtain ⟨j, a, n⟩ := st_missing t.place.toList (t.mask + 1) (by rw [← paired_len' T.met]; omega)
  exact gap_of T.wide h (S := (· ∈ t.place.toList)) (Nat.le_of_lt_succ a) n
theorem Tab.put {t : SetTable} {hs : List Int} (T : Tab t hs) {h : Int} {K : Nat} (g : way t.mask h K ∉ t.place.toList) (b : ∀ k, k < K → way t.mask h k ∈ t.place.toList) {j p : Nat} (ej : j = way t.mask h K) (ep : p = SetTable.below t.place j) :
    Tab (t.put j).1 (hs.take p ++ h :: hs.drop p) := by
  subst ej
  subst ep
  have pl := put_place t (way t.mask h K)
  have old : ∀ i, i ∈ t.place.toList → i ∈ (t.put (way t.mask h K)).1.place.toList := fun i m => by
    rw [pl]
    exact mem_ins.mpr (.inr m)
  have M := Paired.mapP T.met fun _ _ z => z.up old
  have nw : Met t.mask h (· ∈ (t.put (way t.mask h K)).1.place.toList) (way t.mask h K) := ⟨K, rfl, fun k l => old _ (b k l)⟩
  refine ⟨ris_insert T.up fun e => g (List.mem_of_getElem? (by rw [Array.getElem?_toList]; exact e)), put_dm T.dum _, T.wide, fun i m => ?_, ?_⟩
  · rw [pl] at m
    rcases mem_ins.mp m with e | m
    · rw [e]
      exact way_in h K
    · exact T.low i m
  · show Paired (fun h' i => Met t.mask h' (· ∈ (t.put (way t.mask h K)).1.place.toList) i) _ (t.put (way t.mask h K)).1.place.toList
    generalize hS : (t.put (way t.mask h K)).1.place.toList = S at M nw pl ⊢
    have z := paired_join (paired_take M (SetTable.below t.place (way t.mask h K))) (.cons nw (paired_drop M (SetTable.below t.place (way t.mask h K))))
    rw [pl] at z ⊢
    exact z
/-! ### laid anew -/
structure Sat (m : Nat) (hs : List Int) (o : Array (Option Nat)) : Prop where
  big : o.size = m + 1
  who : ∀ j k, j ≤ m → oAt o j = some k → ∃ h, hs[k]? = some h ∧ Met m h (fun i => oAt o i ≠ none) j
  has : ∀ k, k < hs.length → ∃ j, j ≤ m ∧ oAt o j = some k
  few : ∃ js : List Nat, js.length = hs.length ∧ ∀ j, j ≤ m → oAt o j ≠ none → j ∈ js
theorem Sat.nil (m : Nat) : Sat m [] (Array.replicate (m + 1) none) := by
  refine ⟨Array.size_replicate, fun j k l e => ?_, fun k l => absurd l (Nat.not_lt_zero k), [], rfl, fun j l n => absurd (oAt_init l) n⟩
  rw [oAt_init l] at e
  cases e
theorem Sat.snoc {m : Nat} (W : Wide m) {hs : List Int} {o : Array (Option Nat)} (S : Sat m hs o) (l : hs.length ≤ m) (h : Int) :
    ∃ j, SetTable.layClean.free m o (SetTable.turns m) (SetTable.bits h % (m + 1)) (SetTable.bits h) = some j ∧ Sat m (hs ++ [h]) (o.setIfInBounds j (some hs.length)) := by
  obtain ⟨js, len, all⟩ := S.few
  obtain ⟨i, il, ni⟩ := st_missing js (m + 1) (by omega)
  have fr : oAt o i = none := Classical.byContradiction fun z => ni (all i (Nat.le_of_lt_succ il) z)
  obtain ⟨K, f1, f2, f3⟩ := free_gap W o h (Nat.le_of_lt_succ il) fr
  have jm := way_in (m := m) h K
  generalize ej : way m h K = j at f1 f2 jm
  have self := oAt_set_self (owner := o) (j := j) (some hs.length) (by rw [S.big]; omega)
  have more : ∀ x, oAt o x ≠ none → oAt (o.setIfInBounds j (some hs.length)) x ≠ none := fun x nx => by
    by_cases c : x = j
    · rw [c, self]
      simp
    · rwa [oAt_set_ne _ c]
  refine ⟨j, f1, by rw [Array.size_setIfInBounds, S.big], fun x k xl e => ?_, fun k kl => ?_, j :: js, by rw [List.length_cons, List.length_append, len]; rfl, fun x xl nx => ?_⟩
  · by_cases c : x = j
    · rw [c, self] at e
      obtain rfl := Option.some.inj e
      exact ⟨h, by rw [List.getElem?_append_right (Nat.le_refl _), Nat.sub_self]; rfl, K, ej.trans c.symm, fun k l => more _ (f3 k l)⟩
    · rw [oAt_set_ne _ c] at e
      obtain ⟨h', e1, M⟩ := S.who x k xl e
      exact ⟨h', by rw [List.getElem?_append_left (List.getElem?_eq_some_iff.mp e1).1, e1], M.up more⟩
  · rw [List.length_append, List.length_singleton] at kl
    by_cases c : k = hs.length
    · exact ⟨j, jm, by rw [c, self]⟩
    · obtain ⟨x, xl, e⟩ := S.has k (by omega)
      exact ⟨x, xl, by rw [oAt_set_ne _ (fun z => by rw [z, f2] at e; cases e), e]⟩
  · by_cases c : x = j
    · exact c ▸ List.mem_cons_self
    · rw [oAt_set_ne _ c] at nx
      exact List.mem_cons_of_mem _ (all x xl nx)
theorem sat_all {m : Nat} (W : Wide m) (hs : List Int) (l : hs.length ≤ m) : ∀ n, n ≤ hs.length → ∃ o, (hs.take n).foldl (stepF m) (some (Array.replicate (m + 1) none, 0)) = some (o, n) ∧ Sat m (hs.take n) o
  | 0, _ => ⟨_, rfl, Sat.nil m⟩
  | n + 1, h => by
    obtain ⟨o, e, S⟩ := sat_all W hs l n (Nat.le_of_succ_le h)
    have ln : (hs.take n).length = n := by rw [List.length_take]; omega
    obtain ⟨j, f, S'⟩ := S.snoc W (by omega) hs[n]
    rw [ln] at S'
    have sp : hs.take (n + 1) = hs.take n ++ [hs[n]] := List.take_succ_eq_append_getElem h
    rw [sp]
    refine ⟨_, ?_, S'⟩
    rw [List.foldl_append, e]
    exact stepF_some f
theorem clean_all {m : Nat} (W : Wide m) (hs : Array Int) (l : hs.size ≤ m) : ∃ o, SetTable.layClean m hs = some o ∧ Sat m hs.toList o := by
  obtain ⟨o, e, S⟩ := sat_all W hs.toList (by rw [Array.length_toList]; exact l) hs.toList.length (Nat.le_refl _)
  rw [List.take_length] at e S
  exact ⟨o, by rw [layClean_eq, e]; rfl, S⟩
theorem relay_tab (t : SetTable) {hs : Array Int} {wanted M : Nat} (w : SetTable.sizeAbove wanted - 1 = M) (W : Wide M) (l : hs.size ≤ M) :
    ∃ t' order, t.relaid hs wanted = some (t', order) ∧ order.toList.Perm (List.range hs.size) ∧ Tab t' (order.toList.map fun i => hs.getD i 0) ∧ t'.mask = M ∧ t'.led = t.led ∧ t'.plain = t.plain := by
  obtain ⟨o, e, S⟩ := clean_all W hs l
  obtain ⟨up, inR⟩ : Ris ((liveOf M o).map (·.1)) ∧ ∀ x ∈ (liveOf M o).map (·.1), x ∈ List.range (M + 1) := ris_live (fun j => o.getD j none) (List.range (M + 1)) (by unfold Ris; exact List.pairwise_lt_range)
  have live : ∀ {j k}, (j, k) ∈ liveOf M o ↔ j ≤ M ∧ oAt o j = some k := mem_live S.big
  have every : ∀ k, k < hs.size → k ∈ (liveOf M o).map (·.2) := fun k kl => by
    obtain ⟨j, a, b⟩ := S.has k (by rw [Array.length_toList]; exact kl)
    exact List.mem_map.mpr ⟨(j, k), live.mpr ⟨a, b⟩, rfl⟩
  have lenL : (liveOf M o).length = hs.size := by
    obtain ⟨js, a, b⟩ := S.few
    have nd : ((liveOf M o).map (·.1)).Nodup := List.Pairwise.imp (R := fun a b : Nat => a < b) (fun q => Nat.ne_of_lt q) up
    have z1 := nat_nodup_len ((liveOf M o).map (·.1)) js nd fun x mx => by
      obtain ⟨⟨y, k⟩, mq, rfl⟩ := List.mem_map.mp mx
      obtain ⟨c, d⟩ := live.mp mq
      exact b y c (by rw [d]; exact fun z => nomatch z)
    have z2 := nat_nodup_len (List.range hs.size) ((liveOf M o).map (·.2)) List.nodup_range fun k mk => every k (List.mem_range.mp mk)
    rw [List.length_map, a] at z1
    rw [List.length_map, List.length_range] at z2
    have z3 : hs.toList.length = hs.size := Array.length_toList
    omega
  refine ⟨tabOf t M o, ((liveOf M o).map (·.2)).toArray, by rw [relaid_eq, w, e]; rfl, perm_range hs.size _ (by show ((liveOf M o).map (·.2)).length = _; rw [List.length_map, lenL]) every, ⟨up, rfl, W, fun x mx => Nat.le_of_lt_succ (List.mem_range.mp (inR x mx)), ?_⟩, rfl, rfl, rfl⟩
  show Paired (fun h j => Met M h (· ∈ (liveOf M o).map (·.1)) j) (((liveOf M o).map (·.2)).map fun i => hs.getD i 0) ((liveOf M o).map (·.1))
  rw [List.map_map]
  have go : ∀ l : List (Nat × Nat), (∀ q ∈ l, q ∈ liveOf M o) → Paired (fun h j => Met M h (· ∈ (liveOf M o).map (·.1)) j) (l.map ((fun i => hs.getD i 0) ∘ fun q => q.2)) (l.map fun q => q.1) := fun l => by
    induction l with
    | nil => intro _; exact .nil
    | cons q l ih =>
      intro hq
      refine .cons ?_ (ih fun r mr => hq r (List.mem_cons_of_mem _ mr))
      obtain ⟨y, k⟩ := q
      obtain ⟨a, b⟩ := live.mp (hq _ List.mem_cons_self)
      obtain ⟨h, e1, M'⟩ := S.who y k a b
      have e2 : hs.getD k 0 = h := by rw [Array.getD_eq_getD_getElem?, ← Array.getElem?_toList, e1]; rfl
      show Met M (hs.getD k 0) _ y
      rw [e2]
      refine M'.up' fun i il ni => ?_
      cases z : oAt o i with
      | none => exact absurd z ni
      | some k' => exact List.mem_map.mpr ⟨(i, k'), live.mpr ⟨il, z⟩, rfl⟩
  exact go _ fun _ m => m
end Q

set_option maxRecDepth 100000
set_option maxHeartbeats 8000000
/-! A set of tuples of whole numbers, up to 305 of them: search, add, sorted. -/
namespace Q
open PySem PySem.Spec PyProof.Rows L2
theorem no_dummy (m : Nat) (h : Int) : ∀ c, (stp m h c).dummy = none
  | 0 => rfl
  | c + 1 => by
    show (nth m _ (c + 1)).dummy = none
    rw [nth_succ]
    have ad : ∀ p : SetTable.Probe, (adv m p).dummy = p.dummy := fun p => by
      unfold adv
      split <;> rfl
    rw [ad]
    exact no_dummy m h c
theorem perm_pull {α β : Type} {f : α → β} {xs vs : List β} (p : xs.Perm vs) : ∀ L : List α, xs = L.map f → ∃ L' : List α, L'.Perm L ∧ vs = L'.map f := by
  induction p with
  | nil => exact fun L e => ⟨L, List.Perm.refl _, e⟩
  | cons x _ ih =>
    intro L e
    cases L with
    | nil => cases e
    | cons y L =>
      obtain ⟨L', q, e'⟩ := ih L (List.cons.inj e).2
      exact ⟨y :: L', q.cons y, by rw [List.map_cons, ← e', (List.cons.inj e).1]⟩
  | swap x y l =>
    intro L e
    cases L with
    | nil => cases e
    | cons a L =>
      cases L with
      | nil => cases e
      | cons b L =>
        obtain ⟨e1, e2⟩ := List.cons.inj e
        obtain ⟨e2, e3⟩ := List.cons.inj e2
        exact ⟨b :: a :: L, List.Perm.swap a b L, by rw [List.map_cons, List.map_cons, e1, e2, e3]⟩
  | trans _ _ ih1 ih2 =>
    intro L e
    obtain ⟨L1, q1, e1⟩ := ih1 L e
    obtain ⟨L2, q2, e2⟩ := ih2 L1 e1
    exact ⟨L2, q2.trans q1, e2⟩
section
variable {P : Program} {w : World} {A : Around} {E : Value → Shared → Prop} {s : Shared}
/-- the set, as it stands in the heap -/
structure TSet (P : Program) (w : World) (h : Heap) (a : Addr) (L : List (Addr × List Int)) (es : Array (Int × Value)) (ep : Nat) (t : SetTable) : Prop where
  here : ∃ o, h.get? a = some o ∧ o.ExactSet ∧ o.data = .set es ep t
  rows : es.toList = rowsOf P w L
  tab : Tab t (L.map fun p => thash P w p.2)
  once : (L.map (·.2)).Nodup
  pl : t.plain = true
  ld : w.params.followText "set-order" = true ∨ t.led = true
  free : L.length * 5 < t.mask * 3
variable {a : Addr} {L : List (Addr × List Int)} {es : Array (Int × Value)} {ep : Nat} {t : SetTable}
theorem rows_size (r : es.toList = rowsOf P w L) : es.size = L.length := by
  have z : es.toList.length = (rowsOf P w L).length := by rw [r]
  unfold rowsOf at z
  rw [List.length_map] at z
  exact z
theorem TSet.fits (R : TSet P w s.heap a L es ep t) : t.fits es.size = true := by
  have a1 := R.tab.size
  have a2 := rows_size R.rows
  have a3 := R.free
  rw [List.length_map] at a1
  unfold SetTable.fits SetTable.fill
  rw [R.tab.dum, Bool.and_eq_true, beq_iff_eq, decide_eq_true_eq]
  refine ⟨by omega, ?_⟩
  show t.place.size + 0 ≤ t.mask
  omega
theorem TSet.entry (R : TSet P w s.heap a L es ep t) {i : Nat} {p : Addr × List Int} (h : L[i]? = some p) : es[i]? = some (thash P w p.2, Value.ref p.1) := by
  have z : es.toList[i]? = (rowsOf P w L)[i]? := by rw [R.rows]
  unfold rowsOf at z
  rw [List.getElem?_map, h, Array.getElem?_toList] at z
  exact z
theorem TSet.sound (R : TSet P w s.heap a L es ep t) : ¬ t.gaveWay = true := by
  unfold SetTable.gaveWay
  rw [R.tab.wide.odd]
  decide
theorem seek (R : TSet P w s.heap a L es ep t) (tup : ∀ p ∈ L, IsT P w s.heap p.2 p.1) {x : Addr} {k : List Int} (hx : IsT P w s.heap k x) (hu : A.units < cLine) {g : Int} (eg : g = thash P w k) {K : Nat}
    (lim : K < 10 * SetTable.turns t.mask) (gap : way t.mask g K ∉ t.place.toList) (occ : ∀ c, c < K → way t.mask g c ∈ t.place.toList) {Q : SetFound → Shared → Prop} (yes : k ∈ L.map (·.2) → Q (.there none) s) (no : k ∉ L.map (·.2) → Q (.free (way t.mask g K) false) s) :
    ∀ (f c : Nat) (stand : Option SetTable.Probe), stand.getD (t.probeStart g) = stp t.mask g c → c ≤ K → K < c + f → (∀ (d i : Nat) (p : Addr × List Int), d < c → t.place.toList[i]? = some (way t.mask g d) → L[i]? = some p → p.2 ≠ k) →
      wpAny (model P w) A (setSearchFrom a (.ref x) g true f stand) Q E s
  | 0, c, _, _, hc, hf, _ => by omega
  | f + 1, c, stand, hst, hc, hf, past => by
    obtain ⟨o, ho, hex, hd⟩ := R.here
    have hash : ∀ {j : Nat} {r : Addr × List Int}, L[j]? = some r → r.2 = k → (es[j]?.map (·.1)).getD 0 = g := fun {j r} e1 e2 => by
      rw [R.entry e1, eg, ← e2]
      rfl
    have go := go_spec t R.tab.up R.tab.dum (fun i => (es[i]?.map (·.1)).getD 0) g (10 * SetTable.turns t.mask) (K - c) (stp t.mask g c) (no_dummy _ _ c) (by omega)
      (fun q l => by rw [← nth_add]; exact occ (c + q) (by omega)) (by rw [← nth_add, show c + (K - c) = K by omega]; exact gap)
    simp only [← nth_add] at go
    rw [setSearchFrom_succ]
    refine wpAny_bind (wpAny_setState_of ho hd R.fits ?_)
    dsimp only
    refine wp_if_neg R.sound ?_
    try refine wpAny_bind (wpAny_pure ?_)
    rcases go with ⟨q, i, lq, hi, hh, hno, e⟩ | ⟨hno, e⟩
    · have pr : t.probe (fun i => (es[i]?.map (·.1)).getD 0) g (stand.getD (t.probeStart g)) = some (.candidate (way t.mask g (c + q)) i (stp t.mask g (c + (q + 1)))) := by
        rw [hst]
        exact e
      rw [pr]
      dsimp only
      obtain ⟨p, hp⟩ : ∃ p, L[i]? = some p := by
        have l1 : i < t.place.toList.length := (List.getElem?_eq_some_iff.mp hi).1
        have l2 := paired_len' R.tab.met
        rw [List.length_map] at l2
        exact ⟨_, List.getElem?_eq_getElem (by omega)⟩
      have mp := List.mem_of_getElem? hp
      have rest : wpAny (model P w) A (searchRest a (.ref x) g true f es t (way t.mask g (c + q)) i (stp t.mask g (c + (q + 1)))) Q E s := by
        unfold searchRest
        rw [R.entry hp]
        dsimp only
        refine wpAny_bind (wpAny_holding (wpAny_eqBool_tuple hu (tup p mp) hx ?_))
        refine wpAny_bind (wpAny_setState_of ho hd R.fits ?_)
        dsimp only
        by_cases ek : p.2 = k
        · exact wp_if_pos (by simp [ek]) (wpAny_pure (yes (List.mem_map.mpr ⟨p, mp, ek⟩)))
        · refine wp_if_neg (by simp [ek]) ?_
          try refine wpAny_bind (wpAny_pure ?_)
          have sl : t.slot (way t.mask g (c + q)) = .live i := slot_live R.tab.up hi
          rw [sameMem]
          dsimp only
          simp only [if_true, sl, R.entry hp]
          refine wpAny_bind (wpAny_isSame_ref_self (wpAny_bind (wpAny_pure ?_)))
          simp only [if_true]
          refine wp_if_neg (by simp [ek]) ?_
          refine seek R tup hx hu eg lim gap occ yes no f (c + (q + 1)) _ rfl (by omega) (by omega) fun d j r ld hj hr er => ?_
          by_cases c1 : d < c
          · exact past d j r c1 hj hr er
          · by_cases c2 : d < c + q
            · exact hno (d - c) j (by omega) (by rw [show c + (d - c) = d by omega]; exact hj) (hash hr er)
            · obtain rfl : d = c + q := by omega
              have sj : t.slot (way t.mask g (c + q)) = .live j := slot_live R.tab.up hj
              rw [sl] at sj
              obtain rfl := SetTable.Slot.live.inj sj
              rw [hp] at hr
              exact ek (by rw [Option.some.inj hr, er])
      by_cases hl : t.led = true
      · refine wp_if_neg (by simp [hl]) ?_
        try refine wpAny_bind (wpAny_pure ?_)
        exact rest
      · refine wp_if_pos (by simp [hl]) ?_
        refine wpAny_bind (seen_tup hx (fun y my => ?_) ?_)
        · obtain ⟨e2, m2, rfl⟩ := List.mem_map.mp my
          have m3 : e2 ∈ es := (by simpa using m2 : e2 ∈ es ∧ e2.1 = g).1
          have m4 : e2 ∈ es.toList := by simpa using m3
          rw [R.rows] at m4
          obtain ⟨r, mr, rfl⟩ := List.mem_map.mp m4
          exact ⟨r.2, r.1, rfl, tup r mr⟩
        · refine wp_if_neg (by decide) ?_
          try refine wpAny_bind (wpAny_pure ?_)
          exact rest
    · have pr : t.probe (fun i => (es[i]?.map (·.1)).getD 0) g (stand.getD (t.probeStart g)) = some (.empty (way t.mask g K) none) := by
        rw [hst]
        refine Eq.trans e ?_
        rw [show c + (K - c) = K by omega]
      rw [pr]
      dsimp only
      refine wpAny_pure (no fun m => ?_)
      obtain ⟨r, mr, er⟩ := List.mem_map.mp m
      obtain ⟨j, jl, ej⟩ := List.getElem_of_mem mr
      have hr : L[j]? = some r := by rw [List.getElem?_eq_getElem jl, ej]
      have l2 := paired_len' R.tab.met
      rw [List.length_map] at l2
      have hj : t.place.toList[j]? = some t.place.toList[j] := List.getElem?_eq_getElem (by omega)
      have M := paired_nth R.tab.met (show (L.map fun p => thash P w p.2)[j]? = some g by rw [List.getElem?_map, hr, eg, ← er]; rfl) hj
      obtain ⟨d, e1, a1⟩ := M
      have dK : d < K := by
        rcases Nat.lt_trichotomy d K with z | z | z
        · exact z
        · rw [z] at e1
          exact absurd (e1 ▸ List.mem_of_getElem? hj) gap
        · exact absurd (a1 K z) gap
      rw [← e1] at hj
      by_cases c1 : d < c
      · exact past d j r c1 hj hr er
      · exact hno (d - c) j (by omega) (by rw [show c + (d - c) = d by omega]; exact hj) (hash hr er)
theorem tset_search (R : TSet P w s.heap a L es ep t) (tup : ∀ p ∈ L, IsT P w s.heap p.2 p.1) {x : Addr} {k : List Int} (hx : IsT P w s.heap k x) (hu : A.units < cLine) {g : Int} (eg : g = thash P w k) {Q : SetFound → Shared → Prop} (yes : k ∈ L.map (·.2) → Q (.there none) s)
    (no : ∀ K, k ∉ L.map (·.2) → way t.mask g K ∉ t.place.toList → (∀ c, c < K → way t.mask g c ∈ t.place.toList) → Q (.free (way t.mask g K) false) s) : wpAny (model P w) A (setSearch a (.ref x) g true) Q E s := by
  obtain ⟨K, lim, gap, occ⟩ := R.tab.gap (by rw [List.length_map]; have := R.free; omega) g
  have := R.tab.wide.le
  unfold setSearch
  exact seek R tup hx hu eg lim gap occ yes (fun n => no K n gap occ) 100000 0 none rfl (Nat.zero_le _) (by unfold SetTable.turns at lim; omega) fun d _ _ l => absurd l (Nat.not_lt_zero d)
theorem tset_relay {o : Obj} (ho : s.heap.get? a = some o) (hex : o.ExactSet) (hd : o.data = .set es ep t) (rows : es.toList = rowsOf P w L) (ft : t.fits es.size = true) (once : (L.map (·.2)).Nodup) (pl : t.plain = true) (ld : w.params.followText "set-order" = true ∨ t.led = true)
    {wanted M : Nat} (ew : SetTable.sizeAbove wanted = M + 1) (W : Wide M) (room : L.length * 5 < M * 3) {Q : Unit → Shared → Prop}
    (hQ : ∀ h' L' es' ep' t', Heap.SameBut a s.heap h' → TSet P w h' a L' es' ep' t' → L'.Perm L → Q () { s with heap := h' }) : wpAny (model P w) A (setRelay a wanted) Q E s := by
  have sz := rows_size rows
  have ml := W.le
  obtain ⟨t', order, e, hp, T, em, el, ee⟩ := relay_tab t (hs := es.map (·.1)) (wanted := wanted) (M := M) (by omega) W (by rw [Array.size_map, sz]; omega)
  rw [Array.size_map, sz] at hp
  obtain ⟨L2, r1, r2, r3⟩ := order_rows L es order rows hp
  rw [← r3] at T
  have s2 : (order.filterMap (es[·]?)).size = es.size := by rw [rows_size r1, r2.length_eq, sz]
  rw [setRelay_eq]
  refine wpAny_bind (wpAny_setState_of ho hd ft ?_)
  dsimp only
  refine wp_if_neg (by rw [ew, sizeLine_eq]; omega) ?_
  try refine wpAny_bind (wpAny_pure ?_)
  rw [e]
  dsimp only
  refine wpAny_bind (wp_if_neg (by rw [s2]; simp) ?_)
  try refine wpAny_bind (wpAny_pure ?_)
  refine wpAny_pure ?_
  dsimp only
  refine wpAny_storeSet_of ho hd ?_ (by rw [s2, sz, sizeLine_eq]; omega)
  exact hQ _ L2 (order.filterMap (es[·]?)) (ep + 1) t' (Heap.SameBut.update ..) ⟨⟨_, store_at ho hd, ⟨hex.1, hex.2.1, hex.2.2⟩, rfl⟩, r1, T, (r2.map (·.2)).nodup_iff.mpr once, by rw [ee, pl], by rw [el]; exact ld, by rw [r2.length_eq, em]; exact room⟩ r2
theorem grown_size : ∀ {m n : Nat}, Wide m → n * 5 < m * 3 → m * 3 ≤ (n + 1) * 5 → n + 1 ≤ 306 → ∃ M, SetTable.sizeAbove (SetTable.grown (n + 1)) = M + 1 ∧ Wide M ∧ (n + 1) * 5 < M * 3 := by
  intro m n W a b c
  rcases W with (e | e | e) | e
  · obtain rfl : n = 4 := by omega
    exact ⟨31, by decide +kernel, .inl (.inr (.inl rfl)), by omega⟩
  · obtain rfl : n = 18 := by omega
    exact ⟨127, by decide +kernel, .inl (.inr (.inr rfl)), by omega⟩
  · obtain rfl : n = 76 := by omega
    exact ⟨511, by decide +kernel, .inr rfl, by omega⟩
  · omega
theorem tset_add (R : TSet P w s.heap a L es ep t) (tup : ∀ p ∈ L, IsT P w s.heap p.2 p.1) {x : Addr} {k : List Int} (hx : IsT P w s.heap k x) (hu : A.units < cLine) (few : L.length + 1 ≤ 306) {Q : Bool → Shared → Prop}
    (hQ : ∀ b h' L' es' ep' t', Heap.SameBut a s.heap h' → TSet P w h' a L' es' ep' t' → (k ∈ L.map (·.2) → L' = L) → (k ∉ L.map (·.2) → L'.Perm ((x, k) :: L)) → Q b { s with heap := h' }) :
    wpAny (model P w) A (setAddHashed a (.ref x) (thash P w k)) Q E s := by
  obtain ⟨o, ho, hex, hd⟩ := R.here
  have sz := rows_size R.rows
  have fr := R.free
  obtain ⟨g, eg⟩ : ∃ g, g = thash P w k := ⟨_, rfl⟩
  rw [← eg]
  unfold setAddHashed
  refine wpAny_holding ?_
  rw [show (100000 : Nat) = 99999 + 1 from rfl, setAddHashedIn_succ]
  refine wpAny_bind (wpAny_setState_of ho hd R.fits ?_)
  dsimp only
  refine wp_if_neg (by simp [byScan, Value.scannable]) ?_
  try refine wpAny_bind (wpAny_pure ?_)
  refine wpAny_bind (tset_search R tup hx hu eg (fun m => ?_) fun K n gap occ => ?_)
  · dsimp only
    exact wpAny_pure (hQ false s.heap L es ep t (Heap.SameBut.refl a s.heap) R (fun _ => rfl) fun z => absurd m z)
  obtain ⟨j, ej⟩ : ∃ j, j = way t.mask g K := ⟨_, rfl⟩
  rw [← ej]
  dsimp only
  refine wpAny_bind (wpAny_setState_of ho hd R.fits ?_)
  dsimp only
  have T1 := R.tab.put gap occ ej rfl
  have m1 : (t.put j).1.mask = t.mask := rfl
  have l1 : (t.put j).1.led = t.led := rfl
  have p1 : (t.put j).1.plain = true := R.pl
  have q1 : (t.put j).2 = SetTable.below t.place j := rfl
  generalize hpt : t.put j = pt at T1 m1 l1 p1 q1 ⊢
  obtain ⟨t1, p⟩ := pt
  dsimp only at T1 m1 l1 p1 q1 ⊢
  rw [← q1] at T1
  first
    | refine wp_if_pos p1 (wpAny_bind (hashBy_tup hx ?_))
    | (refine wpAny_bind ?_; refine wp_if_pos p1 ?_; refine hashBy_tup hx ?_)
  simp only [if_true]
  have r1 : (SetTable.insertAt es p (g, Value.ref x)).toList = rowsOf P w (L.take p ++ (x, k) :: L.drop p) := by rw [SetTable.toList_insertAt, rows_put, R.rows, eg]
  have pm : (L.take p ++ (x, k) :: L.drop p).Perm ((x, k) :: L) := put_perm L p (x, k)
  have hs : (L.take p ++ (x, k) :: L.drop p).map (fun p => thash P w p.2) = (L.map fun p => thash P w p.2).take p ++ g :: (L.map fun p => thash P w p.2).drop p := by rw [List.map_append, List.map_cons, List.map_take, List.map_drop, eg]
  rw [← hs] at T1
  have once1 : ((L.take p ++ (x, k) :: L.drop p).map (·.2)).Nodup := (pm.map (·.2)).nodup_iff.mpr (List.nodup_cons.mpr ⟨n, R.once⟩)
  generalize SetTable.insertAt es p (g, Value.ref x) = es1 at r1 ⊢
  have len1 := pm.length_eq
  rw [List.length_cons] at len1
  generalize L.take p ++ (x, k) :: L.drop p = L1 at r1 pm T1 once1 len1
  have sz1 := rows_size r1
  refine wpAny_bind (wpAny_storeSet_of ho hd ?_ (by rw [sz1, len1, sizeLine_eq]; omega))
  have sb : Heap.SameBut a s.heap (s.heap.update a (Obj.putSet es1 t1)) := Heap.SameBut.update ..
  have ho1 := store_at (es' := es1) (t' := t1) ho hd
  generalize s.heap.update a (Obj.putSet es1 t1) = h1 at sb ho1 ⊢
  have ld1 : w.params.followText "set-order" = true ∨ t1.led = true := by rw [l1]; exact R.ld
  have tz := T1.size
  rw [List.length_map, len1] at tz
  have fl : t1.fill = L.length + 1 := by
    unfold SetTable.fill
    rw [T1.dum]
    exact tz
  have full : t1.tooFull = decide ((L.length + 1) * 5 ≥ t.mask * 3) := by
    unfold SetTable.tooFull
    rw [fl, m1]
  by_cases c : (L.length + 1) * 5 ≥ t.mask * 3
  · rw [decide_eq_true c] at full
    obtain ⟨M, eM, WM, rM⟩ := grown_size R.tab.wide fr c few
    first
      | (refine wpAny_bind ?_; refine wp_if_pos (by simp [full]) ?_)
      | (refine wp_if_pos (by simp [full]) ?_; refine wpAny_bind ?_)
    rw [sz]
    refine tset_relay (s := { s with heap := h1 }) ho1 ⟨hex.1, hex.2.1, hex.2.2⟩ rfl r1 ?_ once1 p1 ld1 eM WM (by rw [len1]; exact rM) fun h2 L2 es2 ep2 t2 sb2 R2 pm2 => ?_
    · unfold SetTable.fits
      rw [fl, tz, sz1, len1, m1, Bool.and_eq_true, beq_iff_eq, decide_eq_true_eq]
      have := R.tab.wide.le
      exact ⟨rfl, by omega⟩
    · exact wpAny_pure (hQ true h2 L2 es2 ep2 t2 (sb.trans sb2) R2 (fun z => absurd z n) fun _ => pm2.trans pm)
  · rw [decide_eq_false c] at full
    first
      | refine wp_if_neg (by simp [full]) ?_
      | (refine wpAny_bind ?_; refine wp_if_neg (by simp [full]) ?_; refine wpAny_pure ?_)
    exact wpAny_pure (hQ true h1 L1 es1 (ep + 1) t1 sb ⟨⟨_, ho1, ⟨hex.1, hex.2.1, hex.2.2⟩, rfl⟩, r1, T1, once1, p1, ld1, by rw [len1, m1]; omega⟩ (fun z => absurd z n) fun _ => pm)
theorem isT_reads {h : Heap} {k : List Int} {b : Addr} (x : IsT P w h k b) : Reads h (.ref b) (ptD k) [] := by
  obtain ⟨b', vr, e, hT, hI⟩ := tupInts_of x
  obtain rfl := Value.ref.inj e
  exact reads_tuple_ints (vr := vr.toList) (by simpa using hT) hI
theorem tset_sorted (R : TSet P w s.heap a L es ep t) (tup : ∀ p ∈ L, IsT P w s.heap p.2 p.1) (hh : A.handled = none) (hu : A.units + 4 < cLine) (ne : ∀ p ∈ L, p.2 ≠ []) {Q : Value → Shared → Prop}
    (hQ : ∀ s' b (out : List Value) (c : Nat) (L' : List (Addr × List Int)), (∀ b o, s.heap.get? b = some o → s'.heap.get? b = some o) → s'.gens = s.gens → s'.os = s.os → s.heap.objs.size ≤ b → s'.heap.get? b = some (seqObj "list" out.toArray c) →
      L'.Perm L → PySem.W.EachIs (fun (v : Value) (p : Addr × List Int) => v = Value.ref p.1) out (L'.mergeSort (PySem.W.dataLe false fun p : Addr × List Int => ptD p.2)) → Q (.ref b) s') :
    wpAny (model P w) A (call (.builtin "sorted") [.ref a]) Q E s := by
  obtain ⟨o, ho, hex, hd⟩ := R.here
  have sz := rows_size R.rows
  have ml := R.tab.wide.le
  have fr := R.free
  refine Calls.call_function_entry kind_sorted plain_sorted entry_sorted (args_sorted1 _) ?_
  unfold Builtin.«sorted»
  refine wpAny_bind (m := checkCount "sorted" 1 1 _) (wpAny_pure (wpAny_bind (collect_set (A := A.in1) hh ⟨o, ho, hex.1, hd⟩ R.fits (by unfold scanBound; omega) R.tab.up R.ld fun s1 vs k1 hz g1 o1 pm => ?_)))
  obtain ⟨L', pL, rfl⟩ := perm_pull (f := fun p : Addr × List Int => Value.ref p.1) pm.symm L (by rw [R.rows]; unfold rowsOf; rw [List.map_map]; rfl)
  have lL : L'.length = L.length := pL.length_eq
  refine wpAny_bind (wpAny_newList ?_ (by rw [List.length_map, sizeLine_eq]; omega))
  generalize hvs : L'.map (fun p : Addr × List Int => Value.ref p.1) = vs
  have atL : (s1.heap.push (seqObj "list" vs.toArray 0)).get? s1.heap.objs.size = some (seqObj "list" vs.toArray 0) := Heap.get?_push_size _ rfl
  have each : ∀ {l : List (Addr × List Int)}, (∀ p ∈ l, p ∈ L) → PySem.W.EachIs (fun (v : Value) (p : Addr × List Int) => v = Value.ref p.1) (l.map fun p => Value.ref p.1) l ∧
      PySem.W.EachIs (fun (v : Value) (p : Addr × List Int) => ∃ as, Reads (s1.heap.push (seqObj "list" vs.toArray 0)) v (ptD p.2) as ∧ s1.heap.objs.size ∉ as) (l.map fun p => Value.ref p.1) l := fun {l} => by
    induction l with
    | nil => exact fun _ => ⟨.nil, .nil⟩
    | cons p l ih =>
      intro hl
      obtain ⟨i1, i2⟩ := ih fun q mq => hl q (List.mem_cons_of_mem _ mq)
      exact ⟨.cons rfl i1, .cons ⟨[], isT_reads (isT_keep (tup p (hl p List.mem_cons_self)) fun c u e => Heap.get?_push_of_some _ (k1 c u e)), List.not_mem_nil⟩ i2⟩
  obtain ⟨e1, e2⟩ := each fun p mp => pL.mem_iff.mp mp
  rw [hvs] at e1 e2
  refine wpAny_bind (wpAny_holding (PySem.W.list_sort_data (s := { s1 with heap := s1.heap.push (seqObj "list" vs.toArray 0) }) atL e1 e2 (PySem.W.AllAlike.of fun p q => ?_) (.inl fun d md => ?_) (by rw [lL, sizeLine_eq]; omega) (fun p _ => ?_) fun out lo eo => ?_))
  · simp only [ptD, PySem.W.alike]
    exact PySem.W.alike_ints _ _
  · obtain ⟨p, mp, rfl⟩ := List.mem_map.mp md
    have np := ne p (pL.mem_iff.mp mp)
    cases hk : p.2 with
    | nil => exact absurd hk np
    | cons z k => exact ⟨.int z, k.map PyData.int, rfl⟩
  · rw [ptD_depth]
    show A.units + 1 + 1 + 1 < cLine
    omega
  · obtain ⟨c, hc⟩ := sortedHeap_at (vs := vs) (out := out.toArray) atL
    refine wpAny_pure ⟨_, rfl, hQ _ s1.heap.objs.size out c L' (fun b u e => ?_) g1 o1 hz hc pL eo⟩
    have q := k1 b u e
    have lt := Heap.lt_size q
    have fin := sortedHeap_old (vs := vs) (out := out.toArray) (Nat.ne_of_lt lt) (show b < (s1.heap.push (seqObj "list" vs.toArray 0)).objs.size by rw [size_push']; exact Nat.lt_succ_of_lt lt)
    exact fin.trans (Heap.get?_push_of_some _ q)
end
end Q

set_option maxRecDepth 100000
set_option maxHeartbeats 8000000
/-! {tuple for .. in ..}, sorted of such a set. -/
namespace Q
open PySem PySem.Spec PyProof.Rows L2
section
variable {P : Program} {w : World}
theorem TSet.at {h h' : Heap} {a : Addr} {L : List (Addr × List Int)} {es : Array (Int × Value)} {ep : Nat} {t : SetTable} (R : TSet P w h a L es ep t) (k : ∀ o, h.get? a = some o → h'.get? a = some o) : TSet P w h' a L es ep t := by
  obtain ⟨⟨o, ho, r⟩, r1, r2, r3, r4, r5, r6⟩ := R
  exact ⟨⟨o, k o ho, r⟩, r1, r2, r3, r4, r5, r6⟩
/-- the set of tuples at a: the addresses of its members with what they hold -/
def SetG (P : Program) (w : World) (a : Addr) (L : List (Addr × List Int)) : HO := .ext fun h => ∃ es ep t, TSet P w h a L es ep t
theorem setG_ok {H : Hp} {h : Heap} {a : Addr} {L : List (Addr × List Int)} {es : Array (Int × Value)} {ep : Nat} {t : SetTable} (R : TSet P w h a L es ep t) : ObjOk P w H h a (SetG P w a L) := by
  obtain ⟨o, ho, _⟩ := R.here
  refine ⟨⟨es, ep, t, R⟩, ⟨o, ho⟩, fun h1 h2 p k => ?_⟩
  obtain ⟨es', ep', t', R'⟩ := p
  exact ⟨es', ep', t', R'.at k⟩
theorem setG_new {h : Heap} (w : World) : TSet P w (h.push { cls := .type "set", dict := none, data := .set #[] 0 (.fresh 0 0 (!w.params.followText "set-order")) }) h.objs.size [] #[] 0 (.fresh 0 0 (!w.params.followText "set-order")) := by
  refine ⟨⟨_, Heap.get?_push_size _ rfl, ⟨rfl, rfl, rfl⟩, rfl⟩, rfl, ⟨List.Pairwise.nil, rfl, .inl (.inl rfl), (fun _ m => nomatch m), .nil⟩, List.Pairwise.nil, rfl, ?_, (by show 0 * 5 < 7 * 3; decide)⟩
  show _ ∨ (!w.params.followText "set-order") = true
  cases w.params.followText "set-order"
  · exact .inr rfl
  · exact .inl rfl
end
section
variable {X : Cx}
/-- what adding asks and leaves -/
def AddG (P : Program) (w : World) (K : PySem.W.Frag) (D : Addr) (y : V) (H : Hp) (Nx : Hp → Prop) : Prop := ∃ (t : Addr) (k : List Int) (L : List (Addr × List Int)), y = .ref t ∧ SqT K H t (k.map V.int) ∧ H D = some (SetG P w D L) ∧ (∀ p ∈ L, SqT K H p.1 (p.2.map V.int)) ∧ L.length + 1 ≤ 306 ∧
  ∀ L', (k ∈ L.map (·.2) → L' = L) → (k ∉ L.map (·.2) → L'.Perm ((t, k) :: L)) → Nx (upd H D (SetG P w D L'))
theorem addG_ok {pins : List (Addr × Obj)} {σ : L2.St} {H : Hp} {s : Shared} {E : Value → Shared → Prop} {A : Around} {D : Addr} {y : V} {u : Value} {Nx : Hp → Prop} {Q : Value → Shared → Prop} (I : Inv X pins σ H s) (r : RelV y u) (hu : A.units + 8 < cLine) (g : AddG X.prog X.w X.K D y H Nx)
    (h : ∀ s' H', Inv X pins σ H' s' → Nx H' → Q .none s') : wpAny (model X.prog X.w) A (call (.builtin "set.add") [.ref D, u]) Q E s := by
  obtain ⟨t, k, L, rfl, ht, hD, hL, few, nx⟩ := g
  obtain rfl : u = Value.ref t := r
  obtain ⟨es, ep, tb, R⟩ := (I.hok D _ hD).1
  obtain ⟨o, ho, hex, hd⟩ := id R.here
  have ti : s.TypeIs (.ref D) "set" := ⟨o, ho, hex.1⟩
  have hx := Inv.isT I ht
  have tup : ∀ p ∈ L, IsT X.prog X.w s.heap p.2 p.1 := fun p m => Inv.isT I (hL p m)
  refine wpAny_call_entry PySem.F.slot_set_add ti PySem.F.entry_set_add ?_ (PySem.F.args_set_add_2 _ _)
  unfold Builtin.«set.add» Builtin.Frozenset.oneOther
  simp only [List.isEmpty_nil, bind_assoc]
  unfold Builtin.Frozenset.addrOf setAdd
  refine wpAny_bind (wpAny_pure ?_)
  try dsimp only
  refine wpAny_bind (wpAny_pure ?_)
  try dsimp only
  refine wpAny_bind (wpAny_holding (wpAny_bind (wpAny_pyHash_tuple (by show A.units + 1 < cLine; omega) hx ?_)))
  refine tset_add (s := { s with toks := s.toks + (k.length + 1) }) R tup hx (by show A.units + 1 < cLine; omega) few fun b h' L' es' ep' t' sb R' e1 e2 => ?_
  show wpAny _ _ (ret Value.none) _ _ _
  refine wpAny_pure ⟨_, rfl, h _ _ ?_ (nx L' e1 e2)⟩
  obtain ⟨o', ho', _⟩ := R'.here
  exact I.write (e := D) (t' := s.toks + (k.length + 1)) (by rw [hD]; trivial) (.inl rfl) (fun b v nb hv => (sb.2 b nb).trans hv) ⟨o', ho'⟩ (setG_ok R')
/-- {elt for target in iter if ..}, elt a tuple of whole numbers: D the new set -/
def tScT (P : Program) (w : World) (K : PySem.W.Frag) (wi : TI) (g : TG) (tt : TT) (te : TE) (vs : List Nat) : TE := fun σ H Q => wi σ H fun J H1 => ∀ D, H1 D = none → ∃ W : Nat → Nat → Hp → Prop, (∃ m, W 0 m (upd H1 D (SetG P w D []))) ∧ ∀ i m H, W i m H →
  (J.stop i H ∧ Q (.ref D) H) ∨ (J.go i H ∧ ∃ Nx : Hp → Prop, (∀ H', Nx H' → ∃ m', m' < m ∧ W (i + 1) m' H') ∧ ∀ x H', J.yld i H x H' → g x (wipe σ vs) H' fun σ2 H2 => wipe σ2 vs = wipe σ vs ∧ tt σ2 H2 fun b H3 =>
    if b = true then te σ2 H3 fun y H4 => AddG P w K D y H4 Nx else Nx H3)
theorem pe_scT {elt tg iter : Expr} {ifs : List Expr} {scope : Scope} {own : List (PySem.Str × Nat)} {pos : Pos} {wi : TI} {g : TG} {tt : TT} {te : TE} (hu : X.A.units + 12 < cLine) (hc : X.calm = true) (hN : X.N.Nodup) (hi : PI X tg iter wi) (ok : BlkOk X.N X.env.scope scope own)
    (hg : ∀ (s : Shared) (H : Hp) (C : Addr) (cl : List (PySem.Str × Addr)) (fp : List Addr), PG (X.blk s H scope (compEnvC scope cl C X.env) fp) tg g) (ht : ∀ (s : Shared) (H : Hp) (C : Addr) (cl : List (PySem.Str × Addr)) (fp : List Addr), PTs (X.blk s H scope (compEnvC scope cl C X.env) fp) ifs tt)
    (he : ∀ (s : Shared) (H : Hp) (C : Addr) (cl : List (PySem.Str × Addr)) (fp : List Addr), PE (X.blk s H scope (compEnvC scope cl C X.env) fp) elt te) (hs : ∀ x, foldedSetIterable iter X.env x = pure x := by intro _; rfl) :
    PE X (.SetComp elt [⟨tg, iter, ifs, 0⟩] scope pos) (tScT X.prog X.w X.K wi g tt te (own.map (·.2))) := by
  refine ⟨fun pins s0 σ H0 Q I0 h0 => ?_⟩
  rw [PpSet.eval_SetComp]
  have cells : ∀ y ∈ scope.names, y.2 = .free → ∃ c, X.env.cells.lookup y.1 = some c := fun y my fy => (ok.free y my fy).elim (fun z => I0.ok.has _ (.inl z)) fun z => I0.ok.has _ (.inr z)
  refine wpAny_comprehension_free (use := none) rfl hs (closure_ok cells) ok.kind (fun y my ey => by rw [ok.uniq y my, ey]) (thn (hi.run pins s0 σ H0 _ I0 h0) fun xv s1 k1 => thn k1 fun itv s2 k2 => ?_)
  obtain ⟨it, fp, tn, J, H2, rfl, I2, T, at2, old2, q2⟩ := k2
  refine PpSet.newSet_ok (newEnv_comp ?_)
  obtain ⟨D, eD⟩ : ∃ D, D = s2.heap.objs.size := ⟨_, rfl⟩
  obtain ⟨s3, es3⟩ : ∃ s3 : Shared, s3 = { s2 with heap := s2.heap.push { cls := .type "set", dict := none, data := .set #[] 0 (.fresh 0 0 (!X.w.params.followText "set-order")) } } := ⟨_, rfl⟩
  rw [← eD, ← es3]
  have nD : H2 D = none := I2.hok.fresh (Nat.le_of_eq eD.symm)
  obtain ⟨W, ⟨m0, w0⟩, turn⟩ := q2 D nD
  have push3 : ∀ b o, s2.heap.get? b = some o → s3.heap.get? b = some o := fun b o e => by rw [es3]; exact Heap.get?_push_of_some _ e
  have I3 : Inv X pins σ (upd H2 D (SetG X.prog X.w D [])) s3 := by
    rw [es3]
    refine I2.laid (t' := s2.toks) (fun b o e => Heap.get?_push_of_some _ e) (Nat.le_of_eq eD.symm) ?_
    rw [eD]
    exact setG_ok (setG_new X.w)
  have big3 : s3.heap.objs.size = s2.heap.objs.size + 1 := by rw [es3]; exact Heap.size_push ..
  have low : ∀ b ∈ fp, b < s2.heap.objs.size := fun b mb => let ⟨_, e, _⟩ := T.obj _ _ at2 b mb; Heap.lt_size e
  have old3 : ∀ b ∈ fp, FpOk X pins (upd H2 D (SetG X.prog X.w D [])) b ∧ b < s3.heap.objs.size := fun b mb => by
    have lb := low b mb
    exact ⟨⟨by rw [upd_ne (by rw [eD]; exact Nat.ne_of_lt lb)]; exact (old2 b mb).1, (old2 b mb).2⟩, by rw [big3]; exact Nat.lt_succ_of_lt lb⟩
  have at3 : tn 0 s3.heap := T.keep _ _ _ at2 fun b _ o e => push3 b o e
  generalize eH3 : upd H2 D (SetG X.prog X.w D []) = H3 at I3 old3 w0
  have I4 := block_start I3 ok hN old3
  obtain ⟨C, eC⟩ : ∃ C, C = s3.heap.objs.size := ⟨_, rfl⟩
  rw [← eC] at I4 ⊢
  obtain ⟨cl, ecl⟩ : ∃ cl, cl = cellsFrom (C + 1) scope.names (cloFrom X.env.cells scope.names []) := ⟨_, rfl⟩
  rw [← ecl] at I4 ⊢
  have pg := hg s3 H3 C cl fp
  have pt := ht s3 H3 C cl fp
  have pe := he s3 H3 C cl fp
  show codeAny _ _ (.compStart (.SetComp elt [⟨tg, iter, ifs, 0⟩] scope pos) 0 (.ref it) (.ref D) (compEnvC scope cl C X.env)) (compPost (model X.prog X.w) X.A X.xe none (EP X pins σ Q) (.ref D) C) { s3 with heap := pushCells (s3.heap.push { cls := .type "dict", data := .dict #[] }) scope.names }
  have cL : (compEnvC scope cl C X.env).locals = C := rfl
  generalize compEnvC scope cl C X.env = ce at I4 pg pt pe cL ⊢
  obtain ⟨s4, es4⟩ : ∃ s4 : Shared, s4 = { s3 with heap := pushCells (s3.heap.push { cls := .type "dict", data := .dict #[] }) scope.names } := ⟨_, rfl⟩
  rw [← es4] at I4 ⊢
  have at4 : tn 0 s4.heap := T.keep _ _ _ at3 fun b _ o e => by rw [es4]; exact pushCells_keeps _ _ _ _ (Heap.get?_push_of_some _ e)
  have still : ∀ {σ' : L2.St} {H' : Hp} {s' : Shared}, Inv (X.blk s3 H3 scope ce fp) [] σ' H' s' → (∀ b ∈ fp, H' b = none) → ∀ b ∈ fp, FpOk (X.blk s3 H3 scope ce fp) [] H' b := fun {σ' H' s'} I' n b mb =>
    ⟨n b mb, (I'.ok.exf b mb).1, I'.ok.exfs b mb, .inl mb, fun x c e => (I'.ok.exf b mb).2 x c e, fun _ z => absurd z (by simp)⟩
  have runs : codeAny (model X.prog X.w) X.A (.compLoop (.SetComp elt [⟨tg, iter, ifs, 0⟩] scope pos) 0 (.ref it) (.ref D) ce) (compPost (model X.prog X.w) X.A X.xe none (EP X pins σ Q) (.ref D) C) s4 := by
    refine PpSet.compLoopS_any (fun n z => ∃ i H', Inv (X.blk s3 H3 scope ce fp) [] (wipe σ (own.map (·.2))) H' z ∧ tn i z.heap ∧ (∀ b ∈ fp, H' b = none) ∧ W i n H') ?_ m0 ⟨0, H3, I4, at4, fun b mb => (old3 b mb).1.1, w0⟩
    rintro n s5 ⟨i, H5, I5, at5, n5, w5⟩
    rcases turn i n H5 w5 with ⟨stop, qq⟩ | ⟨go, Nx, hNx, step⟩
    · refine thnF (T.done (X.blk s3 H3 scope ce fp) rfl rfl rfl hc i [] s5 _ H5 (fun _ _ => False) I5 (still I5 n5) at5 stop) fun r s6 ⟨hr, I6⟩ => ?_
      subst hr
      have I7 : Inv X pins σ H5 s6 := I3.call' (ch := fp) I6.os I6.base I6.hok I6.bare fun b mb =>
        have z := (old3 b mb).1.2
        ⟨z.2.2.1, z.1, z.2.2.2.1, z.2.2.2.2⟩
      have nC : H5 C = none := by
        have z : H5 ce.locals = none := I6.free
        rwa [cL] at z
      obtain ⟨m, hn, _⟩ := I6.loc
      have hn : s6.heap.Ns ce.locals m := hn
      rw [cL] at hn
      refine ⟨m, hn, fun h'' sb => ?_⟩
      obtain ⟨f0, f1, f2, f3, f4, f5⟩ := I3.fpOk (Nat.le_of_eq eC.symm) nC
      exact ⟨.ref D, H5, I7.turned (t' := s6.toks) (fun b o nb e => (sb.2 b nb).trans e) f0 f1 f3 f4 f5, rfl, qq⟩
    · refine thnF (T.item (X.blk s3 H3 scope ce fp) rfl rfl rfl hc i [] s5 _ H5 (fun _ _ => False) I5 (still I5 n5) at5 go) fun r s6 ⟨u, hr, h6⟩ => ?_
      subst hr
      refine thnF h6 fun _ s7 ⟨x, H7, I7, r7, y7, at7, n7⟩ => ?_
      refine thnF (pg.run _ s7 _ H7 x u _ (I7.pinned (still I7 n7) (T.obj _ _ at7)) r7 (step x H7 y7)) fun _ s8 ⟨σ8, H8, I8, w8, q8⟩ => ?_
      refine thnF (pt.run _ s8 σ8 H8 _ I8 q8) fun b s9 ⟨H9, I9, q9⟩ => ?_
      have ends : ∀ {s' : Shared} {H' : Hp}, Inv (X.blk s3 H3 scope ce fp) ([] ++ pinsAt fp s7.heap) σ8 H' s' → Nx H' → ∃ m, m < n ∧ ∃ i H', Inv (X.blk s3 H3 scope ce fp) [] (wipe σ (own.map (·.2))) H' s' ∧ tn i s'.heap ∧ (∀ b ∈ fp, H' b = none) ∧ W i m H' := fun {s' H'} I' nx => by
        obtain ⟨m', lt, w'⟩ := hNx H' nx
        have pin : ∀ b ∈ fp, ∀ o, s7.heap.get? b = some o → s'.heap.get? b = some o ∧ H' b = none := fun b mb o e =>
          let z := I'.pin (b, o) (List.mem_append_right _ (List.mem_append_right _ (mem_pinsAt mb e)))
          ⟨z.1, z.2.1⟩
        have len : (wipe σ (own.map (·.2))).length = σ8.length := by rw [← w8, wipe_length]
        refine ⟨m', lt, i + 1, H', (I'.unpinned (pins := [])).weak len (fun j v e => (wipe_some (by rw [← w8] at e; exact e)).1), T.keep _ _ _ at7 fun b mb o e => (pin b mb o e).1, fun b mb => ?_, w'⟩
        obtain ⟨o, e, _⟩ := T.obj _ _ at7 b mb
        exact (pin b mb o e).2
      cases b with
      | false =>
        simp only [Bool.false_eq_true, if_false] at q9 ⊢
        exact ends I9 q9
      | true =>
        simp only [if_true] at q9 ⊢
        refine thnF (pe.run _ s9 σ8 H9 _ I9 q9) fun z s10 ⟨yv, H10, I10, r10, ad⟩ => ?_
        exact addG_ok (X := X.blk s3 H3 scope ce fp) I10 r10 (show X.A.units + 8 < cLine by omega) ad fun s11 H11 I11 nx => ends I11 nx
  exact PpSet.codeAny_compStart_set runs (T.self X.A 0 _ _ _ at4 runs)
/-- sorted(s) of such a set -/
@[irreducible] def rSortedG (P : Program) (w : World) (K : PySem.W.Frag) : List V → Hp → VK → Prop := fun vs H Q => ∃ (a : Addr) (L : List (Addr × List Int)), vs = [V.ref a] ∧ H a = some (SetG P w a L) ∧ (∀ p ∈ L, SqT K H p.1 (p.2.map V.int)) ∧ (∀ p ∈ L, p.2 ≠ []) ∧
  ∀ (L' : List (Addr × List Int)) (p : Addr), L'.Perm L → (L'.map (·.2)).Pairwise (· < ·) → H p = none → Q (.ref p) (upd H p (.lst (L'.map fun q => V.ref q.1)))
theorem tupOfL {K : PySem.W.Frag} {H : Hp} {p : Addr} {ys : List V} {R : VK} (h : SqL K H p ys) (q : ∀ l, H l = none → R (.ref l) (upd H l (.tup ys))) : rTupOf K [.ref p] H R := by
  unfold rTupOf
  exact ⟨p, ys, rfl, .inl ⟨h, q⟩⟩
theorem each_out : ∀ {out : List Value} {L : List (Addr × List Int)}, PySem.W.EachIs (fun (v : Value) (p : Addr × List Int) => v = Value.ref p.1) out L → Vals (L.map fun q => V.ref q.1) out := fun h => by
  induction h with
  | nil => exact .nil
  | cons a _ ih => exact .cons a ih
theorem cr_sortedG (hc : X.calm = true) (hu : X.A.units + 8 < cLine) : CallR X (.builtin "sorted") (rSortedG X.prog X.w X.K) := by
  intro pins s σ H vs us Q I r h
  unfold rSortedG at h
  obtain ⟨a, L, rfl, ha, hL, ne, q⟩ := h
  rw [Vals.ref1 r]
  obtain ⟨es, ep, tb, R⟩ := (I.hok a _ ha).1
  have once := R.once
  have fr := R.free
  have ml := R.tab.wide.le
  refine tset_sorted R (fun p m => Inv.isT I (hL p m)) (I.ok.hd hc) (by omega) ne fun s' b out c L' k g o hb hg pm eo => ?_
  have ps := L'.mergeSort_perm (PySem.W.dataLe false fun p : Addr × List Int => ptD p.2)
  have e2 : (L'.mergeSort (PySem.W.dataLe false fun p : Addr × List Int => ptD p.2)).map (·.2) = (L'.map (·.2)).mergeSort (PySem.W.dataLe false fun p : List Int => PyData.tuple (p.map PyData.int)) := List.map_mergeSort (fun _ _ _ _ => rfl)
  have asc := sort_asc ((pm.map (·.2)).nodup_iff.mpr once)
  rw [← e2] at asc
  generalize L'.mergeSort (PySem.W.dataLe false fun p : Addr × List Int => ptD p.2) = M at eo ps asc
  have pM := ps.trans pm
  have hn : H b = none := I.hok.fresh hb
  have J : Inv X pins σ (upd H b (.lst (M.map fun q => V.ref q.1))) { s with heap := s'.heap, gens := s'.gens, drawn := s'.drawn, toks := s'.toks } :=
    I.call (ch := []) (Un.laid k hb hn) (I.hok.laid k hb ⟨by rw [List.length_map, pM.length_eq, sizeLine_eq]; omega, out, c, each_out eo, hg⟩) (by rw [g]; exact I.bare) (fun _ z => nomatch z)
  have e : s' = { s with heap := s'.heap, gens := s'.gens, drawn := s'.drawn, toks := s'.toks } := by
    cases s'; cases s; cases o; rfl
  rw [e]
  exact ⟨.ref b, _, J, rfl, q M b pM asc hn⟩
theorem cr_sortedGR {k : Nat} (hr : Room k X.A) (hc : X.calm = true) : CallR X (.builtin "sorted") (rSortedG X.prog X.w X.K) := cr_sortedG hc (by have := hr.un; omega)
theorem pe_scR {k : Nat} (hr : Room k X.A) {elt tg iter : Expr} {ifs : List Expr} {scope : Scope} {own : List (PySem.Str × Nat)} {pos : Pos} {wi : TI} {g : TG} {tt : TT} {te : TE} (hc : X.calm = true) (hN : X.N.Nodup) (hi : PI X tg iter wi) (ok : BlkOk X.N X.env.scope scope own)
    (hg : ∀ (s : Shared) (H : Hp) (C : Addr) (cl : List (PySem.Str × Addr)) (fp : List Addr), PG (X.blk s H scope (compEnvC scope cl C X.env) fp) tg g) (ht : ∀ (s : Shared) (H : Hp) (C : Addr) (cl : List (PySem.Str × Addr)) (fp : List Addr), PTs (X.blk s H scope (compEnvC scope cl C X.env) fp) ifs tt)
    (he : ∀ (s : Shared) (H : Hp) (C : Addr) (cl : List (PySem.Str × Addr)) (fp : List Addr), PE (X.blk s H scope (compEnvC scope cl C X.env) fp) elt te) (hs : ∀ x, foldedSetIterable iter X.env x = pure x := by intro _; rfl) :
    PE X (.SetComp elt [⟨tg, iter, ifs, 0⟩] scope pos) (tScT X.prog X.w X.K wi g tt te (own.map (·.2))) := pe_scT (by have := hr.un; omega) hc hN hi ok hg ht he hs
theorem sortedG_of {P : Program} {w : World} {K : PySem.W.Frag} {H : Hp} {a : Addr} {L : List (Addr × List Int)} {Q : VK} (ha : H a = some (SetG P w a L)) (hL : ∀ p ∈ L, SqT K H p.1 (p.2.map V.int)) (ne : ∀ p ∈ L, p.2 ≠ [])
    (q : ∀ (L' : List (Addr × List Int)) (p : Addr), L'.Perm L → (L'.map (·.2)).Pairwise (· < ·) → H p = none → Q (.ref p) (upd H p (.lst (L'.map fun q => V.ref q.1)))) : rSortedG P w K [.ref a] H Q := by
  unfold rSortedG
  exact ⟨a, L, rfl, ha, hL, ne, q⟩
end
end Q

set_option maxRecDepth 100000
set_option maxHeartbeats 4000000
namespace K07
open PySem PySem.Spec PyProof.Rows L2 Q RZ
section
variable {P : Program} {w : World} {K : PySem.W.Frag} {mg : Str → Option Value} {base : Heap} {f : Addr} {fd : FuncData}
/-- a new right box -/
theorem make_good {K : PySem.W.Frag} {H1 : Hp} {a b : Addr} {lz hz : List Int} {Q : VK} {E : XK} (ha : Sq K H1 a (lz.map V.int)) (hb : Sq K H1 b (hz.map V.int)) (rg : Rgs lz hz) (l5 : lz.length ≤ 5) (k : ∀ y H2, L2.Same H1 H2 → BoxAt K H2 y lz hz → Q (.ref y) H2) :
    ∀ x dx, H1 x = none → H1 dx = none → dx ≠ x → spBoxGood K (.ref x :: ([.ref a, .ref b] ++ [])) (upd (upd H1 dx (.own x)) x (.ins (He.ga K "Box") dx [])) (fun v H2 => v = .non ∧ Q (.ref x) H2) E := fun x dx nx nd ne => by
  have s1 : L2.Same H1 (upd (upd H1 dx (.own x)) x (.ins (He.ga K "Box") dx [])) := (same_new nd).trans (same_new (by rw [upd_ne ne.symm]; exact nx))
  exact ⟨x, dx, a, b, lz, hz, rfl, upd_same, ha.same s1, hb.same s1, rg, l5, fun H2 kp bx => ⟨rfl, k x H2 (fun c o e => kp c o (fun z => by rw [z, nx] at e; cases e) (s1 c o e)) bx⟩⟩
theorem rgs_full : ∀ {ls hs : List Int}, Full ls hs → (∀ v ∈ ls, 0 ≤ v) → (∀ v ∈ hs, v ≤ 64) → Rgs ls hs
  | [], [], _, _, _ => trivial
  | l :: ls, h :: hs, f, a, b => ⟨a l List.mem_cons_self, f.1, b h List.mem_cons_self, rgs_full f.2 (fun v m => a v (List.mem_cons_of_mem _ m)) fun v m => b v (List.mem_cons_of_mem _ m)⟩
  | [], _ :: _, f, _, _ => f.elim
  | _ :: _, [], f, _, _ => f.elim

/-- a row, list or tuple -/
def rowS (K : PySem.W.Frag) (H : Hp) (v : V) (p : List Int) : Prop := ∃ a, v = .ref a ∧ Sq K H a (p.map V.int)
theorem rowS.same {H H' : Hp} {v : V} {p : List Int} (s : L2.Same H H') (h : rowS K H v p) : rowS K H' v p := by
  obtain ⟨a, e, h⟩ := h
  exact ⟨a, e, h.same s⟩
def spSlabsOf (K : PySem.W.Frag) : Sp := fun vs H Q _ => ∃ (a : Addr) (xs : List V) (qs ps : List (List Int)) (k : Nat), vs = [.ref a] ∧ Sq K H a xs ∧ Paired (rowS K H) xs qs ∧ (∀ p, p ∈ qs ↔ p ∈ ps) ∧ RowsK k ps ∧ 1 ≤ k ∧ k ≤ 3 ∧ ps.length ≤ 200 ∧
  ∀ q ys H', H q = none → L2.Same H H' → H' q = some (.tup ys) → Paired (BoxV K H') ys (slabs k ps) → Q (.ref q) H'
theorem C_slabs_of (T : Tx K mg) : Cal P w K mg base CX0 5 "slabs_of" ["rows"] [] (spSlabsOf K) := by
  obtain ⟨fd, F⟩ := T.d_slabs_of
  obtain ⟨fdB, G_Box, b_Box⟩ := ok_boxgood (P := P) (w := w) (base := base) T
  have C_slab_parts := C_slab_parts (P := P) (w := w) (base := base) T
  refine ⟨_, fd, [], F.ok sc_slabs_of (fun vs H Q E h => ?_) (fun cdv A outer s H vs Q E hr h => ?_), T.g_slabs_of, F.kp, F.bindsN fun _ _ _ _ _ _ us hl => match us, hl with | [_], _ => rfl, .nil⟩
  · obtain ⟨a, xs, qs, ps, k, rfl, _⟩ := h
    rfl
  · obtain ⟨a, xs, qs, ps, k, rfl, hS, pR, me, RK, k1, k3, few, kQ⟩ := h
    refine ⟨_, PSs.nox (pss_cons (ps_set (i := 2) sc_slabs_of.nd rfl (Or.inl rfl) (pe_callB (cr_sortedGR hr rfl) (by rfl) T.n_sorted (by decide +kernel) (pa_cons (pe_scR hr (own := [("row", 1)]) (g := gName 1) (tt := tYes) (by rfl) sc_slabs_of.nd (pi_seq (pv 0)) (blkOk_by (N := ["rows", "row", "ascending", "lows", "highs"]) (sc := defScope s_slabs_of) (by decide +kernel)) (fun _ _ _ _ _ => (pg_name (i := 1) sc_slabs_of.nd rfl (Or.inl rfl))) (fun _ _ _ _ _ => pts_nil) (fun _ _ _ _ _ => (pe_callTy call_tupOfB (by rfl) T.n_tuple (by decide +kernel) (pa_cons (pv 1) pa_nil)))) pa_nil)))
      (pss_one (ps_ret (pe_callTy call_tupOf (by rfl) T.n_tuple (by decide +kernel) (pa_cons (pe_lc (own := [("lows", 3), ("highs", 4)]) (g := gTup K 2 (gCons (gName 3) (gCons (gName 4) gNil))) (tt := tYes) (by rfl) sc_slabs_of.nd (pi_list (pe_cal C_slab_parts (hr.mono (by decide)) pass0 (pa_cons (pv 2) pa_nil))) (blkOk_by (N := ["rows", "row", "ascending", "lows", "highs"]) (sc := defScope s_slabs_of) (by decide +kernel)) (fun _ _ _ _ _ => (pg_tup rfl (pgs_cons (pg_name (i := 3) sc_slabs_of.nd rfl (Or.inl rfl)) (pgs_cons (pg_name (i := 4) sc_slabs_of.nd rfl (Or.inl rfl)) pgs_nil)))) (fun _ _ _ _ _ => pts_nil) (fun _ _ _ _ _ => (pe_make T.mk_Box G_Box (hr.mono (by decide)) (by rfl) T.g_Box b_Box .nil passX (pa_cons (pv 3) (pa_cons (pv 4) pa_nil))))) pa_nil))))), ?_⟩
    have big : 20000 < sizeLine := by decide
    have lq := paired_len pR
    obtain ⟨kk, hB⟩ := hS.b
    refine ⟨_, rfl, a, xs, kk, rfl, hB, fun D nD => ?_⟩
    have psn : ps.Nodup := List.Pairwise.imp (S := fun a b => a ≠ b) (fun {a b} h e => lex_irr a (by rw [← e] at h; exact h)) RK.asc
    have nlD : ∀ {H' : Hp}, (∀ b o, b ≠ D → H b = some o → H' b = some o) → L2.Same H H' := fun {H'} k b o e => k b o (ne_of_none e nD) e
    refine over_seq (xs := xs) (fun i H' => (∀ b o, b ≠ D → H b = some o → H' b = some o) ∧ ∃ L, H' D = some (SetG P w D L) ∧ (∀ p ∈ L, SqT K H' p.1 (p.2.map V.int)) ∧ (∀ p, p ∈ L.map (·.2) ↔ p ∈ qs.take i) ∧ (L.map (·.2)).Nodup) ⟨fun b o nb e => by rw [upd_ne nb]; exact e, [], upd_same, (fun _ z => nomatch z), (fun p => ⟨(fun z => nomatch z), (fun z => nomatch z)⟩), List.Pairwise.nil⟩ (fun i H' _ q => hB.same (nlD q.1)) ?_ ?_
    · rintro i x H1 ex ⟨kd, L, hD, tup, mem, nd⟩
      have hi : i < qs.length := by
        have := (List.getElem?_eq_some_iff.mp ex).1
        omega
      obtain ⟨x', ex', a', rfl, ha'⟩ := paired_at (Paired.mapP pR fun _ _ z => z.same (nlD kd)) i hi
      rw [ex] at ex'
      cases ex'
      have lL : L.length ≤ 200 := by
        have := nodup_len (m := ps) nd fun p m => (me p).mp (List.mem_of_mem_take ((mem p).mp m))
        rw [List.length_map] at this
        omega
      have et : qs.take (i + 1) = qs.take i ++ [qs[i]] := List.take_succ_eq_append_getElem hi
      refine ⟨rfl, _, rfl, tupOf_of ha' fun l H4 hl s4 _ => ⟨l, qs[i], L, rfl, hl, s4 _ _ hD, fun p m => sqT_same s4 (tup p m), by omega, fun L' e1 e2 => ?_⟩⟩
      have hD4 := s4 _ _ hD
      have upT : ∀ {t : Addr} {zs : List V}, SqT K H4 t zs → SqT K (upd H4 D (SetG P w D L')) t zs := fun {t zs} h => sqT_but (D := D) (fun b o nb e => by rw [upd_ne nb]; exact e) hD4 (fun _ z => by unfold SetG at z; cases z) (fun _ _ z => by unfold SetG at z; cases z) h
      refine ⟨fun b o nb e => by rw [upd_ne nb]; exact s4 _ _ (kd b o nb e), L', upd_same, fun p m => upT ?_, fun p => ?_, ?_⟩
      · by_cases c : qs[i] ∈ L.map (·.2)
        · rw [e1 c] at m
          exact sqT_same s4 (tup p m)
        · rcases List.mem_cons.mp ((e2 c).mem_iff.mp m) with rfl | m
          · exact hl
          · exact sqT_same s4 (tup p m)
      · rw [et, List.mem_append, List.mem_singleton]
        by_cases c : qs[i] ∈ L.map (·.2)
        · rw [e1 c, mem p]
          exact ⟨.inl, fun z => z.elim id fun z => (mem p).mp (z ▸ c)⟩
        · rw [((e2 c).map (·.2)).mem_iff, List.map_cons, List.mem_cons, mem p]
          exact ⟨fun z => z.symm, fun z => z.symm⟩
      · by_cases c : qs[i] ∈ L.map (·.2)
        · rw [e1 c]
          exact nd
        · exact ((e2 c).map (·.2)).nodup_iff.mpr (List.nodup_cons.mpr ⟨c, nd⟩)
    · rintro H1 ⟨kd, L, hD, tup, mem, nd⟩
      rw [lq, List.take_length] at mem
      have sm := nlD kd
      refine sortedG_of hD tup (fun p m z => ?_) fun L' p pm asc np => ?_
      · have := RK.len _ ((me p.2).mp ((mem p.2).mp (List.mem_map_of_mem m)))
        rw [z] at this
        have : 0 = k := this
        omega
      generalize hq_ : L2.upd H1 p _ = H2
      obtain ⟨s2, o2⟩ := _root_.Q.nwS np hq_
      clear hq_
      have eL : L'.map (·.2) = ps := asc_ext lex_irr lex_asy asc RK.asc fun x => by rw [(pm.map (·.2)).mem_iff, mem x, me x]
      have pL : Paired (ptS K H2) (L'.map fun q => V.ref q.1) ps := by
        rw [← eL]
        exact paired_of (R := ptS K H2) (f := fun q : Addr × List Int => V.ref q.1) (g := fun q => q.2) fun q m => ⟨q.1, rfl, sqT_same s2 (tup q (pm.mem_iff.mp m))⟩
      refine ⟨_, rfl, k, k3, p, ps, rfl, ⟨_, SqL.of o2, pL⟩, RK, few, k3, fun l us H6 nl6 s6 hl hC => ?_⟩
      obtain ⟨okp, _⟩ := slabs_spec RK
      have fs := slabs_few RK
      refine ⟨l, rfl, ⟨_, SqL.of hl⟩, fun D2 nD2 => ?_⟩
      refine lc_each (S := fun H v c => CpAt K H v c ∧ c ∈ slabs k ps) (f := fun c => c) (R := fun H v c => BoxV K H v c) (fun _ _ _ _ k z => z.nl k) (fun _ _ _ _ k z => ⟨z.1.nl k, z.2⟩) nD2 (SqL.of hl) (paired_mem hC) (by omega) (fun x c Hx R' N sx ec k => ?_) fun H7 ys s7 hU pU => ?_
      · obtain ⟨⟨t, tl, th, rfl, h1, h2, h3⟩, mc⟩ := ec
        obtain ⟨q1, q2, q3, q4⟩ := okp c mc
        exact ⟨t, _, rfl, SqT.of h1, rfl, _, _, rfl, _, _, rfl, rfl, rfl, _, rfl, _, rfl, make_good (.inr h2) (.inr h3) (rgs_full q2 q3 q4) (by omega) fun y H3 s3 bx => k _ _ s3 ⟨y, rfl, bx⟩⟩
      rw [List.map_id'] at pU
      refine tupOfL (SqL.of hU) fun q nq => ?_
      generalize hq_ : L2.upd H7 q _ = H8
      obtain ⟨s8, o8⟩ := _root_.Q.nwS nq hq_
      clear hq_
      have sH : L2.Same H H7 := ((sm.trans s2).trans s6).trans s7
      exact kQ q ys H8 (none_same sH nq) (sH.trans s8) o8 (Paired.mapP pU fun _ _ z => z.nl (NL.same s8))

end
end K07

set_option maxRecDepth 100000
set_option maxHeartbeats 4000000
/-! Is a row among rows; what is left of rows. -/
namespace Q
open PySem PySem.Spec PyProof.Rows L2
section
variable {X : Cx} {s : Shared} {H : Hp} {sc : Scope} {ce : Env} {fp : List Addr} {k : Nat}
theorem op_inDB (hr : Room k X.A) : OpR (X.blk s H sc ce fp) (compareOp .In) (rInD X.K) := op_inD (X := X.blk s H sc ce fp) (by have := hr.un; show X.A.units + 65 < cLine; omega)
theorem op_notInDB (hr : Room k X.A) : OpR (X.blk s H sc ce fp) (compareOp .NotIn) (rNotInD X.K) := op_notInD (X := X.blk s H sc ce fp) (by have := hr.un; show X.A.units + 65 < cLine; omega)
end
theorem any_pts (p : List Int) : ∀ ps : List (List Int), ((ps.map ptD).any fun z => PyData.eqv z (ptD p)) = decide (p ∈ ps)
  | [] => by simp
  | q :: ps => by
    have h1 : PyData.eqv (ptD q) (ptD p) = decide (q = p) := eqvAll_ints q p
    rw [List.map_cons, List.any_cons, any_pts p ps, h1, Bool.eq_iff_iff, Bool.or_eq_true, decide_eq_true_eq, decide_eq_true_eq, decide_eq_true_eq, List.mem_cons]
    exact ⟨fun h => h.imp Eq.symm id, fun h => h.imp Eq.symm id⟩
theorem within_top : ∀ {ls hs : List Int}, Full ls hs → Within ls hs (hs.map (· - 1))
  | [], [], _ => .nil
  | l :: ls, h :: hs, f => .cons (by have := f.1; show l ≤ h - 1; omega) (by show h - 1 < h; omega) (within_top f.2)
  | [], _ :: _, f => f.elim
  | _ :: _, [], f => f.elim
theorem within_low : ∀ {ls hs : List Int}, Full ls hs → Within ls hs ls
  | [], [], _ => .nil
  | l :: ls, h :: hs, f => .cons (by omega) f.1 (within_low f.2)
  | [], _ :: _, f => f.elim
  | _ :: _, [], f => f.elim
theorem full_next : ∀ ls : List Int, Full ls (ls.map (· + 1))
  | [] => trivial
  | l :: ls => ⟨by show l < l + 1; omega, full_next ls⟩
theorem spots_next : ∀ ls : List Int, spots ls (ls.map (· + 1)) = [ls]
  | [] => rfl
  | l :: ls => by
    show ((upTo l (l + 1)).flatMap fun v => (spots ls (ls.map (· + 1))).map (v :: ·)) = [l :: ls]
    rw [upTo_one, List.flatMap_singleton, spots_next ls]
    rfl
theorem all_kept {α : Type} {p : α → Bool} : ∀ {l : List α}, (l.filter p).length = l.length → ∀ x ∈ l, p x = true
  | [], _, _, m => nomatch m
  | a :: l, h, x, m => by
    by_cases c : p a = true
    · rw [List.filter_cons_of_pos c, List.length_cons, List.length_cons] at h
      rcases List.mem_cons.mp m with rfl | m
      · exact c
      · exact all_kept (by omega) x m
    · rw [List.filter_cons_of_neg c, List.length_cons] at h
      have := List.length_filter_le p l
      omega
theorem perm_split {ss ls : List (List Int)} (n1 : ss.Nodup) (n2 : ls.Nodup) (h : ∀ x ∈ ss, x ∈ ls) : (ss ++ ls.filter fun r => !decide (r ∈ ss)).Perm ls := by
  refine (List.perm_ext_iff_of_nodup ?_ n2).mpr fun x => ?_
  · refine List.pairwise_append.mpr ⟨n1, List.Pairwise.filter _ n2, fun x mx y my e => ?_⟩
    have := (List.mem_filter.mp my).2
    rw [← e, decide_eq_true mx] at this
    cases this
  · rw [List.mem_append, List.mem_filter]
    constructor
    · rintro (m | m)
      · exact h x m
      · exact m.1
    · intro m
      by_cases c : x ∈ ss
      · exact .inl c
      · exact .inr ⟨m, by rw [decide_eq_false c]; rfl⟩
theorem pow3 {k : Nat} (h : k ≤ 3) : 3 ^ k ≤ 27 := by
  match k, h with
  | 0, _ => decide
  | 1, _ => decide
  | 2, _ => decide
  | 3, _ => decide
theorem cnt_three : ∀ {ls hs : List Int}, Full ls hs → (∀ i, i < ls.length → hs.getD i 0 ≤ ls.getD i 0 + 3) → cnt ls hs ≤ 3 ^ ls.length
  | [], [], _, _ => Nat.le_refl _
  | l :: ls, h :: hs, f, b => by
    have h0 := b 0 (Nat.succ_pos _)
    have h0 : h ≤ l + 3 := h0
    have ih := cnt_three f.2 fun i hi => b (i + 1) (Nat.succ_lt_succ hi)
    show (h - l).toNat * cnt ls hs ≤ 3 ^ (ls.length + 1)
    rw [Nat.pow_succ, Nat.mul_comm]
    exact Nat.mul_le_mul ih (by omega)
  | [], _ :: _, f, _ => f.elim
  | _ :: _, [], f, _ => f.elim
theorem full_of : ∀ {ls hs : List Int}, ls.length = hs.length → (∀ i, i < ls.length → ls.getD i 0 < hs.getD i 0) → Full ls hs
  | [], [], _, _ => trivial
  | l :: ls, h :: hs, e, b => ⟨b 0 (Nat.succ_pos _), full_of (by simpa using e) fun i hi => b (i + 1) (Nat.succ_lt_succ hi)⟩
  | [], _ :: _, e, _ => nomatch e
  | _ :: _, [], e, _ => nomatch e
end Q

set_option maxRecDepth 100000
set_option maxHeartbeats 4000000
namespace K07
open PySem PySem.Spec PyProof.Rows L2 Q RZ
section
variable {P : Program} {w : World} {K : PySem.W.Frag} {mg : Str → Option Value} {base : Heap} {f : Addr} {fd : FuncData}
theorem ints_ne_refs (c : List Int) {a b : Addr} : c.map V.int ≠ [V.ref a, V.ref b] := by
  cases c <;> simp
def spCut (K : PySem.W.Frag) : Sp := fun vs H Q _ => ∃ (p a : Addr) (n : Int) (rows : List (List Int)) (k : Nat), vs = [.ref p, .ref a] ∧ PoolAt H p n ∧ n < 2 ^ 59 ∧ RowsL K H a rows ∧ RowsK k rows ∧ 1 ≤ k ∧ k ≤ 3 ∧ rows.length ≤ 200 ∧
  ∀ l us cs H', H l = none → Kb p H H' → PoolAt H' p (n + 600) → H' l = some (.lst us) → Cps K H' us cs → (∀ c ∈ cs, OkP k c) → (cs.flatMap sp).Perm rows → Q (.ref l) H'
theorem C__law_cutting (T : Tx K mg) : Cal P w K mg base CX0 2 "_law_cutting" ["pool", "rows"] [] (spCut K) := by
  obtain ⟨fd, F⟩ := T.d__law_cutting
  have C__law_pull := C__law_pull (P := P) (w := w) (base := base) T
  have C__law_spots := C__law_spots (P := P) (w := w) (base := base) T
  refine ⟨_, fd, [], F.ok sc__law_cutting (fun vs H Q E h => ?_) (fun cdv A outer s H vs Q E hr h => ?_), T.g__law_cutting, F.kp, F.bindsN fun _ _ _ _ _ _ us hl => match us, hl with | [_, _], _ => rfl, .nil⟩
  · obtain ⟨p, a, n, rows, k, rfl, _⟩ := h
    rfl
  · obtain ⟨p, a, n, rows, k, rfl, B, hn, ⟨vs, hS, pR⟩, RK, k1, k3, few, kQ⟩ := h
    refine ⟨_, PSs.nox (pss_cons (ps_set (i := 2) sc__law_cutting.nd rfl (Or.inr rfl) (pe_callTy call_list_of (by rfl) T.n_list (by decide +kernel) (pa_cons (pv 1) pa_nil)))
      (pss_cons (ps_set (i := 3) sc__law_cutting.nd rfl (Or.inl rfl) (pe_lst pa_nil))
      (pss_cons (ps_while PassesOwn.never (pt_truth (pv 2) (by intro _; rfl))
        (pss_cons (ps_set (i := 4) sc__law_cutting.nd rfl (Or.inl rfl) (pe_ix ix_list (pv 2) pe_int (fun _ _ => rfl)))
        (pss_cons (ps_set (i := 6) sc__law_cutting.nd rfl (Or.inl rfl) (pe_callTy call_tupOf (by rfl) T.n_tuple (by decide +kernel) (pa_cons (pe_lc (own := [("value", 5)]) (g := gName 5) (tt := tYes) (by rfl) sc__law_cutting.nd (pi_tup (pv 4)) (blkOk_by (N := ["pool", "rows", "left", "found", "lows", "value", "highs", "spots", "spot", "row"]) (sc := defScope s__law_cutting) (by decide +kernel)) (fun _ _ _ _ _ => (pg_name (i := 5) sc__law_cutting.nd rfl (Or.inl rfl))) (fun _ _ _ _ _ => pts_nil) (fun _ _ _ _ _ => (pe_op op_add (pe_op op_add (pv 5) pe_int) (pe_cal C__law_pull (hr.mono (by decide)) pass0 (pa_cons (pv 0) (pa_cons pe_int pa_nil)))))) pa_nil)))
        (pss_cons (ps_set (i := 7) sc__law_cutting.nd rfl (Or.inr rfl) (pe_cal C__law_spots (hr.mono (by decide)) pass0 (pa_cons (pv 4) (pa_cons (pv 6) pa_nil))))
        (C8.pss_cut (ps_if (pt_cmpR op_ne (pe_callB call_len_seq (by rfl) T.n_len (by decide +kernel) (pa_cons (pe_lc (own := [("spot", 8)]) (g := gName 8) (tt := _) (by rfl) sc__law_cutting.nd (pi_list (pv 7)) (blkOk_by (N := ["pool", "rows", "left", "found", "lows", "value", "highs", "spots", "spot", "row"]) (sc := defScope s__law_cutting) (by decide +kernel)) (fun _ _ _ _ _ => (pg_name (i := 8) sc__law_cutting.nd rfl (Or.inl rfl))) (fun _ _ _ _ _ => (pts_one (pt_cmpR (op_inDB hr) (pv 8) (pv 2) rfl))) (fun _ _ _ _ _ => (pv 8))) pa_nil)) (pe_callB call_len_seq (by rfl) T.n_len (by decide +kernel) (pa_cons (pv 7) pa_nil)) (nomark _))
          (pss_cons (ps_set (i := 6) sc__law_cutting.nd rfl (Or.inl rfl) (pe_callTy call_tupOf (by rfl) T.n_tuple (by decide +kernel) (pa_cons (pe_lc (own := [("value", 5)]) (g := gName 5) (tt := tYes) (by rfl) sc__law_cutting.nd (pi_tup (pv 4)) (blkOk_by (N := ["pool", "rows", "left", "found", "lows", "value", "highs", "spots", "spot", "row"]) (sc := defScope s__law_cutting) (by decide +kernel)) (fun _ _ _ _ _ => (pg_name (i := 5) sc__law_cutting.nd rfl (Or.inl rfl))) (fun _ _ _ _ _ => pts_nil) (fun _ _ _ _ _ => (pe_op op_add (pv 5) pe_int))) pa_nil)))
          (pss_one (ps_set (i := 7) sc__law_cutting.nd rfl (Or.inr rfl) (pe_lst (pa_cons (pv 4) pa_nil)))))
          pss_nil)
        (pss_cons (ps_expr (pe_bm PySem.F.plainAttrs_list PySem.F.slot_list_append PySem.F.type_list_append mt_append (pv 3) (pa_cons (pe_tup (pa_cons (pv 4) (pa_cons (pv 6) pa_nil))) pa_nil)))
        (pss_one (ps_set (i := 2) sc__law_cutting.nd rfl (Or.inr rfl) (pe_lc (own := [("row", 9)]) (g := gName 9) (tt := _) (by rfl) sc__law_cutting.nd (pi_list (pv 2)) (blkOk_by (N := ["pool", "rows", "left", "found", "lows", "value", "highs", "spots", "spot", "row"]) (sc := defScope s__law_cutting) (by decide +kernel)) (fun _ _ _ _ _ => (pg_name (i := 9) sc__law_cutting.nd rfl (Or.inl rfl))) (fun _ _ _ _ _ => (pts_one (pt_cmpR (op_notInDB hr) (pv 9) (pv 7) rfl))) (fun _ _ _ _ _ => (pv 9)))))))))))
      (pss_one (ps_ret (pv 3)))))), ?_⟩
    have big : 20000 < sizeLine := by decide
    have lR := paired_len pR
    refine ⟨_, rfl, a, _, rfl, .inl hS, fun L0 nL0 => ?_⟩
    generalize hq_ : L2.upd H L0 _ = H1
    obtain ⟨s1, o1⟩ := _root_.Q.nwS nL0 hq_
    clear hq_
    refine ⟨Nat.zero_le _, fun F0 nF => ?_⟩
    generalize hq_ : L2.upd H1 F0 _ = H2
    obtain ⟨s2, o2⟩ := _root_.Q.nwS nF hq_
    clear hq_
    have s12 := s1.trans s2
    have Fp : F0 ≠ p := fun z => by rw [z] at nF; exact (B.same s1).new nF rfl
    have nFH : H F0 = none := none_same s1 nF
    have rn : rows.Nodup := List.Pairwise.imp (S := fun a b => a ≠ b) (fun {a b} h e => lex_irr a (by rw [← e] at h; exact h)) RK.asc
    refine ⟨fun m σ H' => ∃ (L : Addr) (us fs : List V) (ls : List (List Int)) (cs : List Part) (v4 v6 v7 : Option V), m = us.length ∧ σ = [some (.ref p), some (.ref a), some (.ref L), some (.ref F0), v4, none, v6, v7, none, none] ∧ Kb p H H' ∧ PoolAt H' p (n + 3 * cs.length) ∧ L ≠ F0 ∧ L ≠ p ∧ H' L = some (.lst us) ∧ Paired (ptS K H') us ls ∧ H' F0 = some (.lst fs) ∧ Cps K H' fs cs ∧ (∀ c ∈ cs, OkP k c) ∧ (cs.flatMap sp ++ ls).Perm rows,
      ⟨_, L0, vs, [], rows, [], none, none, none, rfl, rfl, Kb.of_same s12, (B.same s12).mono (by show n ≤ n + 3 * (0 : Nat); omega), (fun z => by rw [z] at o1; rw [o1] at nF; cases nF), B.new nL0, s2 _ _ o1, Paired.mapP pR fun _ _ z => z.nl (NL.same s12), o2, .nil, (fun _ z => nomatch z), List.Perm.refl _⟩, ?_⟩
    rintro m σ H' ⟨L, us, fs, ls, cs, v4, v6, v7, rfl, rfl, kb, BP, LF, Lp, hL, pU, hF, hC, okc, pm⟩
    have len1 := pm.length_eq
    have lens := flat_count (f := sp) (l := cs) fun c m => by rw [spots_len]; exact cnt_pos (okc c m).2.1
    rw [List.length_append] at len1
    have lU := paired_len pU
    refine ⟨_, rfl, !us.isEmpty, .inl ⟨us, SqL.of hL, rfl⟩, ?_⟩
    cases pU with
    | nil =>
      refine iteF ⟨_, rfl, kQ F0 fs cs H' nFH kb (BP.mono (by omega)) hF hC okc ?_⟩
      rw [List.append_nil] at pm
      exact pm
    | @cons v0 pt us ls hv0 pU' =>
    obtain ⟨t0, rfl, ht0⟩ := hv0
    refine iteT ⟨_, fun σ2 H2 h => h, ?_⟩
    have pU : Paired (ptS K H') (V.ref t0 :: us) (pt :: ls) := .cons ⟨t0, rfl, ht0⟩ pU'
    have memR : ∀ x ∈ pt :: ls, x ∈ rows := fun x m => pm.mem_iff.mp (List.mem_append_right _ m)
    have lp := RK.len _ (memR pt List.mem_cons_self)
    have valp := RK.val _ (memR pt List.mem_cons_self)
    refine ⟨_, rfl, L, _, _, _, rfl, rfl, SqL.of hL, atI_nat (j := 0) rfl, ?_⟩
    refine ⟨_, rfl, t0, rfl, ⟨_, ht0⟩, fun D nD => ?_⟩
    have neDp : D ≠ p := BP.new nD
    have nlp : ∀ {H2 : Hp}, Kb p H' H2 → NL H' H2 := fun k => pool_nl k BP
    refine lc_tup (xs := pt.map V.int) (fun i H2 => PoolAt H2 p (n + 3 * cs.length + (i : Int)) ∧ Kb p H' H2 ∧ ∃ hz : List Int, H2 D = some (.lst (hz.map V.int)) ∧ hz.length = i ∧ ∀ j, j < i → pt.getD j 0 < hz.getD j 0 ∧ hz.getD j 0 ≤ pt.getD j 0 + 3) ⟨(BP.upd neDp).mono (by omega), kb_new nD, [], upd_same, rfl, fun j hj => absurd hj (Nat.not_lt_zero _)⟩ (fun i H2 _ q => (nlp q.2.1).sqT ht0) ?_ ?_
    · rintro i x H3 ex ⟨B3, k3', hz, hD, hl, hb⟩
      have hi : i < pt.length := by
        have := (List.getElem?_eq_some_iff.mp ex).1
        rw [List.length_map] at this
        exact this
      obtain rfl : x = .int pt[i] := by
        rw [List.getElem?_map, List.getElem?_eq_getElem hi] at ex
        exact (Option.some.inj ex).symm
      refine ⟨rfl, _, rfl, _, _, rfl, rfl, _, rfl, p, _, 3, rfl, B3, by omega, by decide, fun r H4 q0 q3 o4 B4 => ?_⟩
      have k4 := o4.kb
      refine ⟨_, _, rfl, rfl, _, k4 _ _ neDp hD, small1000 (by ((try simp only [List.length_map, List.length_take, List.length_drop, List.length_append, List.length_cons, List.length_nil, List.length_zipWith, List.length_set, List.length_replicate, List.length_range]) <;> omega)), (B4.upd neDp).mono (by omega), fun x o nb e => by rw [upd_ne (ne_of_none e nD)]; exact (k3'.trans k4) x o nb e, hz ++ [pt[i] + 1 + r], by rw [upd_same, List.map_append]; rfl, by ((try simp only [List.length_map, List.length_take, List.length_drop, List.length_append, List.length_cons, List.length_nil, List.length_zipWith, List.length_set, List.length_replicate, List.length_range]) <;> omega), fun j hj => ?_⟩
      have eg : pt.getD i 0 = pt[i] := by rw [List.getD_eq_getElem?_getD, List.getElem?_eq_getElem hi]; rfl
      generalize pt[i] = w at eg ⊢
      by_cases z : j = i
      · have e1 : (hz ++ [w + 1 + r]).getD j 0 = w + 1 + r := by rw [List.getD_eq_getElem?_getD, z, ← hl, List.getElem?_append_right (Nat.le_refl _), Nat.sub_self]; rfl
        rw [e1, z, eg]
        omega
      · have e1 : (hz ++ [w + 1 + r]).getD j 0 = hz.getD j 0 := by rw [List.getD_eq_getElem?_getD, List.getElem?_append_left (by omega), List.getD_eq_getElem?_getD]
        rw [e1]
        exact hb j (by omega)
    rintro H3 ⟨B3, kb3, hz, hD, hl, hb⟩
    rw [List.length_map] at hl hb B3
    refine tupOfL (SqL.of hD) fun th nth => ?_
    generalize hq_ : L2.upd H3 th _ = H4
    obtain ⟨s4, o4⟩ := _root_.Q.nwS nth hq_
    clear hq_
    have nl4 := (nlp kb3).trans (NL.same s4)
    have fu : Full pt hz := full_of hl.symm fun i hi => (hb i hi).1
    have c27 : cnt pt hz ≤ 27 := by
      have h1 := cnt_three fu fun i hi => (hb i hi).2
      rw [lp] at h1
      exact Nat.le_trans h1 (pow3 k3)
    refine ⟨_, rfl, _, rfl, t0, th, pt, hz, rfl, .inr (nl4.sqT ht0), .inr (SqT.of o4), fu, by omega, (fun i hi => ?_), by omega, fun q H5 s5 hq => ?_⟩
    · have eg : pt.getD i 0 = pt[i] := by rw [List.getD_eq_getElem?_getD, List.getElem?_eq_getElem hi]; rfl
      have v := valp _ (List.getElem_mem hi)
      have b := (hb i hi).2
      rw [eg] at b ⊢
      omega
    have nl5 := nl4.trans (NL.same s5)
    have kb5 : Kb p H' H5 := kb3.trans (Kb.of_same (s4.trans s5))
    obtain ⟨vq, hq, pq⟩ := hq
    have lq := paired_len pq
    rw [spots_len] at lq
    have B5 := (B3.same s4).same s5
    have hL5 := kb5 _ _ Lp hL
    have hF5 := kb5 _ _ Fp hF
    have qF : q ≠ F0 := fun z => by
      rw [z, hF5] at hq
      obtain rfl := HO.lst.inj (Option.some.inj hq)
      have c1 := cnt_pos fu
      cases hC with
      | nil =>
        have : 0 = cnt pt hz := lq
        omega
      | cons a _ =>
        obtain ⟨t, tl, th', e, h1, _⟩ := a.nl nl5
        generalize spots pt hz = ss at pq
        cases pq with
        | cons b _ =>
          obtain ⟨t2, e2, h2⟩ := b
          rw [e] at e2
          obtain rfl := V.ref.inj e2
          rw [h1] at h2
          exact absurd (HO.tup.inj (Option.some.inj h2)).symm (ints_ne_refs _)
    refine ⟨fun σ2 H6 => ∃ (t' q' : Addr) (wq : List V) (hz' : List Int), σ2 = [some (.ref p), some (.ref a), some (.ref L), some (.ref F0), some (.ref t0), none, some (.ref t'), some (.ref q'), none, none] ∧ L2.Same H5 H6 ∧ SqT K H6 t' (hz'.map V.int) ∧ H6 q' = some (.lst wq) ∧ Paired (ptS K H6) wq (spots pt hz') ∧ q' ≠ F0 ∧ Full pt hz' ∧ cnt pt hz' ≤ 27 ∧ ∀ x ∈ spots pt hz', x ∈ pt :: ls, ?_, ?_⟩
    · refine ⟨_, rfl, q, rfl, ⟨_, SqL.of hq⟩, fun E nE => ?_⟩
      have leftAt : ∀ {H6 : Hp}, L2.Same H5 H6 → Dp K H6 (.ref L) (.list ((pt :: ls).map ptD)) := fun {H6} s => dp_pts (SqL.of (s _ _ hL5)) (Paired.mapP pU fun _ _ z => z.nl (nl5.trans (NL.same s)))
      refine lc_pick (S := fun H v c => ptRel H v c) (p := fun r => decide (r ∈ pt :: ls)) (R := fun _ _ _ => True) (fun _ _ _ _ _ _ => trivial) (fun _ _ _ _ k z => z.nl k) nE (SqL.of hq) pq (by rw [spots_len]; omega) (fun x c Hx R' N sx ec k1' k2' => ?_) fun H6 ys s6 hU pU6 => ?_
      · obtain ⟨t, rfl, ht⟩ := ec
        refine ⟨rfl, _, rfl, _, rfl, ptD c, _, dp_ints (SqT.of ht), leftAt sx, shaped_ints _, shaped_pts _, _, rfl, ?_⟩
        rw [any_pts]
        refine ite2 (fun e => ?_) (fun e => ?_)
        · exact ⟨_, rfl, k1' e _ _ (Same.refl _) trivial⟩
        · exact k2' (by simpa using e) _ (Same.refl _)
      have lk := paired_len pU6
      refine ⟨_, _, rfl, .inl (SqL.of hU), _, rfl, _, _, rfl, .inl (SqL.of (s6 _ _ hq)), rfl, _, rfl, ite2 (fun e => ?_) (fun e => ?_)⟩
      · have nl6 := nl5.trans (NL.same s6)
        refine ⟨_, rfl, t0, rfl, ⟨_, nl6.sqT ht0⟩, fun D2 nD2 => ?_⟩
        refine lc_eachT (S := fun _ v (z : Int) => v = .int z) (f := fun z : Int => z + 1) (R := fun _ v (z : Int) => v = .int z) (fun _ _ _ _ _ z => z) (fun _ _ _ _ _ z => z) nD2 (nl6.sqT ht0) (ints_paired pt) (by omega) (fun x z Hx R' N sx ez k => ?_) fun H7 ys7 s7 hU7 pU7 => ?_
        · obtain rfl := ez
          exact ⟨rfl, _, rfl, _, _, rfl, rfl, k _ _ (Same.refl _) rfl⟩
        obtain rfl := int_vals pU7
        refine tupOfL (SqL.of hU7) fun t2 nt2 => ?_
        generalize hq_ : L2.upd H7 t2 _ = H8
        obtain ⟨s8, o8⟩ := _root_.Q.nwS nt2 hq_
        clear hq_
        refine ⟨_, rfl, (by show 1 ≤ sizeLine; omega), fun q2 nq2 => ?_⟩
        generalize hq_ : L2.upd H8 q2 _ = H9
        obtain ⟨s9, o9⟩ := _root_.Q.nwS nq2 hq_
        clear hq_
        have s59 := ((s6.trans s7).trans s8).trans s9
        refine ⟨t2, q2, _, pt.map (· + 1), rfl, s59, SqT.of (s9 _ _ o8), o9, ?_, (fun z => by rw [z, s8 _ _ (s7 _ _ (s6 _ _ hF5))] at nq2; cases nq2), full_next pt, ?_, fun x m => ?_⟩
        · rw [spots_next]
          exact .cons ⟨t0, rfl, (nl5.trans (NL.same s59)).sqT ht0⟩ .nil
        · rw [← spots_len, spots_next]
          show 1 ≤ 27
          decide
        · rw [spots_next] at m
          rw [List.mem_singleton.mp m]
          exact List.mem_cons_self
      · refine ⟨th, q, vq, hz, rfl, s6, SqT.of (s6 _ _ (s5 _ _ o4)), s6 _ _ hq, Paired.mapP pq fun _ _ z => ptS_of (z.nl (NL.same s6)), qF, fu, c27, fun x m => ?_⟩
        have e : V.int (ys.length : Int) = V.int (vq.length : Int) := by simpa using e
        have e := V.int.inj e
        exact of_decide_eq_true (all_kept (p := fun r => decide (r ∈ pt :: ls)) (by rw [spots_len]; omega) x m)
    rintro σ2 H6 ⟨t', q', wq, hz', rfl, s6, ht', hq', pw, q'F, fu', cn', sub⟩
    have nl6 := nl5.trans (NL.same s6)
    refine ⟨_, rfl, .inl ⟨rfl, _, SqL.of (s6 _ _ hF5)⟩, _, rfl, _, rfl, (by show 2 ≤ sizeLine; omega), fun r3 nr3 => ?_⟩
    generalize hq_ : L2.upd H6 r3 _ = H7
    obtain ⟨s7, o7⟩ := _root_.Q.nwS nr3 hq_
    clear hq_
    have lf := paired_len hC
    have hF7 := s7 _ _ (s6 _ _ hF5)
    refine ⟨F0, _, _, rfl, rfl, hF7, by omega, ?_⟩
    generalize hq_ : L2.upd H7 F0 _ = H8
    obtain ⟨u8, o8⟩ := _root_.Q.updS hq_
    clear hq_
    have nl8 := NL.put hF7 u8
    have nlA := (nl6.trans (NL.same s7)).trans nl8
    have hL8 := u8 _ _ LF (s7 _ _ (s6 _ _ hL5))
    have pL8 : Paired (ptS K H8) (V.ref t0 :: us) (pt :: ls) := Paired.mapP pU fun _ _ z => z.nl nlA
    refine ⟨_, rfl, L, rfl, ⟨_, SqL.of hL8⟩, fun L2' nL2 => ?_⟩
    have hq8 := u8 _ _ q'F (s7 _ _ hq')
    have pw8 : Paired (ptS K H8) wq (spots pt hz') := Paired.mapP pw fun _ _ z => z.nl ((NL.same s7).trans nl8)
    refine lc_pick (S := fun H v c => ptS K H v c) (p := fun r => !decide (r ∈ spots pt hz')) (R := fun H v c => ptS K H v c) (fun _ _ _ _ k z => z.nl k) (fun _ _ _ _ k z => z.nl k) nL2 (SqL.of hL8) pL8 (by rw [← paired_len pL8]; omega) (fun x c Hx R' N sx ec k1' k2' => ?_) fun H9 ys s9 hU pU9 => ?_
    · obtain ⟨t, rfl, ht⟩ := id ec
      refine ⟨rfl, _, rfl, _, rfl, ptD c, _, dp_ints ht, dp_pts (SqL.of (sx _ _ hq8)) (Paired.mapP pw8 fun _ _ z => z.nl (NL.same sx)), shaped_ints _, shaped_pts _, _, rfl, ?_⟩
      rw [any_pts]
      refine ite2 (fun e => ?_) (fun e => ?_)
      · exact ⟨_, rfl, k1' e _ _ (Same.refl _) ec⟩
      · exact k2' (by simpa using e) _ (Same.refl _)
    have nls : (pt :: ls).Nodup := (List.nodup_append.mp (pm.nodup_iff.mpr rn)).2.1
    have pms := perm_split (spots_nodup pt hz') nls sub
    have ln := pms.length_eq
    have c1 := cnt_pos fu'
    rw [List.length_append, spots_len] at ln
    have lU9 := paired_len pU9
    have okn : OkP k (pt, hz') := by
      refine ⟨lp, fu', fun v m => (valp v m).1, fun v m => ?_⟩
      have w := memR _ (sub _ ((mem_spots fu'.len).mpr (within_top fu')))
      have := RK.val _ w (v - 1) (List.mem_map_of_mem m)
      omega
    have kb9 : Kb p H H9 := fun b o nb e => s9 _ _ (u8 _ _ (ne_of_none e nFH) (s7 _ _ (s6 _ _ (kb5 _ _ nb (kb _ _ nb e)))))
    refine ⟨ys.length, by rw [lU9, lU]; omega, L2', ys, _, _, cs ++ [(pt, hz')], _, _, _, rfl, rfl, kb9, ?_, ?_, ?_, hU, pU9, s9 _ _ o8, Cps.snoc (hC.nl (nlA.trans (NL.same s9))) ⟨r3, t0, t', rfl, ?_, ?_, ?_⟩, fun c m => ?_, ?_⟩
    · obtain ⟨x1, x2, x3, x4, h1, h2⟩ := B5
      refine ⟨x1, x2, x3, x4, s9 _ _ (u8 _ _ Fp.symm (s7 _ _ (s6 _ _ h1))), h2.1, ?_⟩
      rw [List.length_append]
      show x3 ≤ n + 3 * ((cs.length + 1 : Nat) : Int)
      omega
    · exact fun z => by rw [z, o8] at nL2; cases nL2
    · exact fun z => by
        obtain ⟨x1, x2, x3, x4, h1, h2⟩ := B5
        rw [z, u8 _ _ Fp.symm (s7 _ _ (s6 _ _ h1))] at nL2
        cases nL2
    · exact s9 _ _ (nl8.tup o7)
    · exact (nlA.trans (NL.same s9)).sqT ht0
    · exact (((NL.same s7).trans nl8).trans (NL.same s9)).sqT ht'
    · rcases List.mem_append.mp m with m | m
      · exact okc c m
      · rw [List.mem_singleton.mp m]
        exact okn
    · refine List.Perm.trans ?_ pm
      rw [List.flatMap_append, List.flatMap_singleton, List.append_assoc]
      exact List.Perm.append_left _ pms

end
end K07


set_option maxRecDepth 100000
set_option maxHeartbeats 4000000
namespace K07
open PySem PySem.Spec PyProof.Rows L2 Q RZ RT
section
variable {P : Program} {w : World} {K : PySem.W.Frag} {mg : Str → Option Value} {base : Heap} {f : Addr} {fd : FuncData}
/-! ### copies of rows -/
theorem dp_lints {H : Hp} {l : Addr} {ns : List Int} (h : SqL K H l (ns.map V.int)) : Dp K H (.ref l) (.list (ns.map PyData.int)) := .lst h (dpAll_ints ns)
abbrev lsD (p : List Int) : PyData := .list (p.map PyData.int)
theorem lsD_lay (p : List Int) : PyData.canLay0 (lsD p) = true := by
  have := lay_ints p
  simp only [lsD, PyData.canLay0, this]
theorem lsD_depth (p : List Int) : (lsD p).depth = 1 := by
  show PyData.depthAll (p.map PyData.int) + 1 = 1
  rw [Q.depth_ints]
theorem lay_rows : ∀ ps : List (List Int), PyData.canLayAll0 (ps.map lsD) = true
  | [] => rfl
  | p :: ps => by
    rw [List.map_cons]
    simp only [PyData.canLayAll0, lsD_lay, lay_rows ps, Bool.and_self]
theorem depth_rows : ∀ ps : List (List Int), PyData.depthAll (ps.map lsD) ≤ 1
  | [] => by simp [PyData.depthAll]
  | p :: ps => by
    have h1 := lsD_depth p
    have h2 := depth_rows ps
    rw [List.map_cons]
    simp only [PyData.depthAll]
    omega
theorem shaped_rows (ps : List (List Int)) : SeqAt.shaped (.list (ps.map lsD)) = true := by
  show (PyData.canLayAll0 (ps.map lsD) && decide (PyData.depthAll (ps.map lsD) + 1 ≤ 64)) = true
  have := depth_rows ps
  rw [lay_rows, decide_eq_true (by omega)]
  rfl
theorem eqv_rows : ∀ ps : List (List Int), PyData.eqv (.list (ps.map lsD)) (.list (ps.map lsD)) = true := fun ps => by
  show PyData.eqvAll (ps.map lsD) (ps.map lsD) = true
  induction ps with
  | nil => simp [PyData.eqvAll]
  | cons p ps ih =>
    have h1 : PyData.eqv (lsD p) (lsD p) = true := (eqvAll_ints p p).trans (decide_eq_true rfl)
    rw [List.map_cons]
    simp only [PyData.eqvAll, h1, ih, Bool.and_self]
/-- a copy of a row, a list -/
def copS (D : Addr) (H : Hp) (v : V) (p : List Int) : Prop := ∃ l, v = .ref l ∧ l ≠ D ∧ H l = some (.lst (p.map V.int))
theorem dp_cops {D : Addr} {H : Hp} {l : Addr} {vs : List V} {ps : List (List Int)} (hl : SqL K H l vs) (h : Paired (copS D H) vs ps) : Dp K H (.ref l) (.list (ps.map lsD)) := by
  refine .lst hl ?_
  clear hl
  induction h with
  | nil => exact .nil
  | cons a _ ih =>
    obtain ⟨l, rfl, _, h⟩ := a
    exact .cons (dp_lints (SqL.of h)) ih
theorem lc_rows {a : Addr} {xs : List V} {qs : List (List Int)} {g : TG} {te : TE} {vs : List Nat} {σ : L2.St} {H : Hp} {D : Addr} {Qd : Hp → Prop} (nD : H D = none) (hl : SqL K H a xs) (hp : Paired (rowS K H) xs qs) (len : qs.length < sizeLine)
    (hs : ∀ (x : V) (c : List Int) (H1 : Hp) (R' : V → Hp → Prop) (N : Hp → Prop), L2.Same H H1 → rowS K H1 x c → (∀ l H3, H1 l = none → L2.Same H1 H3 → H3 l = some (.lst (c.map V.int)) → R' (.ref l) H3) →
      g x (wipe σ vs) H1 fun σ2 H3 => wipe σ2 vs = wipe σ vs ∧ tYes σ2 H3 fun b H4 => if b = true then te σ2 H4 R' else N H4)
    (hd : ∀ H' ys, L2.Same H H' → H' D = some (.lst ys) → Paired (copS D H') ys qs → Qd H') :
    ∃ W : Nat → Nat → Hp → Prop, (∃ m, W 0 m (upd H D (.lst []))) ∧ ∀ i m H, W i m H →
      ((Itl K a).stop i H ∧ Qd H) ∨ ((Itl K a).go i H ∧ ∃ Nx : Hp → Prop, (∀ H', Nx H' → ∃ m', m' < m ∧ W (i + 1) m' H') ∧ ∀ x H', (Itl K a).yld i H x H' → g x (wipe σ vs) H' fun σ2 H2 => wipe σ2 vs = wipe σ vs ∧ tYes σ2 H2 fun b H3 =>
        if b = true then te σ2 H3 fun y H4 => ∃ acc, H4 D = some (.lst acc) ∧ acc.length < sizeLine ∧ Nx (upd H4 D (.lst (acc ++ [y]))) else Nx H3) := by
  have lq := paired_len hp
  refine over_list (xs := xs) (fun i H' => (∀ b o, b ≠ D → H b = some o → H' b = some o) ∧ ∃ ys, H' D = some (.lst ys) ∧ Paired (copS D H') ys (qs.take i)) ⟨fun b o nb e => by rw [upd_ne nb]; exact e, [], upd_same, .nil⟩ (fun i H' _ q => sqL_same (fun b o e => q.1 b o (ne_of_none e nD) e) hl) ?_ ?_
  · rintro i x H1 ex ⟨kd, ys, hD, pY⟩
    have sm : L2.Same H H1 := fun b o e => kd b o (ne_of_none e nD) e
    have hi : i < qs.length := by
      have := (List.getElem?_eq_some_iff.mp ex).1
      omega
    obtain ⟨x', ex', row⟩ := paired_at (Paired.mapP hp fun _ _ z => z.same sm) i hi
    rw [ex] at ex'
    cases ex'
    have ly := paired_len pY
    rw [List.length_take] at ly
    refine hs x qs[i] H1 _ _ sm row fun l H3 nl s3 hl3 => ⟨ys, s3 _ _ hD, by omega, fun b o nb e => by rw [upd_ne nb]; exact s3 _ _ (kd b o nb e), ys ++ [.ref l], upd_same, ?_⟩
    have lD : l ≠ D := fun z => by rw [z, hD] at nl; cases nl
    rw [List.take_succ_eq_append_getElem hi]
    refine Paired.snoc (Paired.mapP pY fun _ _ z => ?_) ⟨l, rfl, lD, by rw [upd_ne lD]; exact hl3⟩
    obtain ⟨l2, e2, n2, h2⟩ := z
    exact ⟨l2, e2, n2, by rw [upd_ne n2]; exact s3 _ _ h2⟩
  · rintro H1 ⟨kd, ys, hD, pY⟩
    rw [lq, List.take_length] at pY
    exact hd H1 ys (fun b o e => kd b o (ne_of_none e nD) e) hD pY

theorem getD_in {l : List Int} {j : Nat} (h : j < l.length) : l.getD j 0 ∈ l := by
  rw [List.getD_eq_getElem?_getD, List.getElem?_eq_getElem h]
  exact List.getElem_mem h
def spForm (K : PySem.W.Frag) : Sp := fun vs H Q _ => ∃ (a b : Addr) (xs : List V) (qs ps : List (List Int)) (k : Nat), vs = [.ref a, .ref b] ∧ RowsL K H a ps ∧ SqL K H b xs ∧ Paired (rowS K H) xs qs ∧ (∀ p, p ∈ qs ↔ p ∈ ps) ∧ RowsK k ps ∧ 1 ≤ k ∧ k ≤ 3 ∧ ps.length ≤ 200 ∧ qs.length ≤ 1000 ∧ ∀ H', L2.Same H H' → Q (.bl true) H'
theorem C__law_form_holds (T : Tx K mg) : Cal P w K mg base CX0 6 "_law_form_holds" ["rows", "given"] [] (spForm K) := by
  obtain ⟨fd, F⟩ := T.d__law_form_holds
  have C__law_told := C__law_told (P := P) (w := w) (base := base) T
  have C_slabs_of := C_slabs_of (P := P) (w := w) (base := base) T
  have C__law_slabs := C__law_slabs (P := P) (w := w) (base := base) T
  have C__law_spots := C__law_spots (P := P) (w := w) (base := base) T
  refine ⟨_, fd, [], F.ok sc__law_form_holds (fun vs H Q E h => ?_) (fun cdv A outer s H vs Q E hr h => ?_), T.g__law_form_holds, F.kp, F.bindsN fun _ _ _ _ _ _ us hl => match us, hl with | [_, _], _ => rfl, .nil⟩
  · obtain ⟨a, b, xs, qs, ps, k, rfl, _⟩ := h
    rfl
  · obtain ⟨a, b, xs, qs, ps, k, rfl, hR, hS, pX, me, RK, k1, k3, few, fewq, kQ⟩ := h
    refine ⟨_, PSs.nox (pss_cons (ps_setLc (i := 3) (own := [("row", 2)]) (g := gName 2) (tt := tYes) (by rfl) sc__law_form_holds.nd rfl rfl (sw_true rfl rfl rfl (by decide +kernel)) (pi_list (pv 1)) (blkOk_by (N := ["rows", "given", "row", "copies", "told", "points", "lows", "highs"]) (sc := defScope s__law_form_holds) (by decide +kernel)) (fun _ _ _ _ _ => (pg_name (i := 2) sc__law_form_holds.nd rfl (Or.inl rfl))) (fun _ _ _ _ _ => pts_nil) (fun _ _ _ _ _ => (pe_callTy call_list_ofB (by rfl) T.n_list (by decide +kernel) (pa_cons (pv 2) pa_nil))))
      (pss_cons (ps_set (i := 4) sc__law_form_holds.nd rfl (Or.inl rfl) (pe_cal C__law_told (hr.mono (by decide)) pass0 (pa_cons (pe_cal C_slabs_of (hr.mono (by decide)) pass0 (pa_cons (pv 1) pa_nil)) pa_nil)))
      (pss_cons (ps_if (PW.pt (pw_or (pt_cmpR op_isN (pv 4) pe_non (nomark _)) (pw_or (pt_cmpR (op_neD hr.units) (pe_lc (own := [("row", 2)]) (g := gName 2) (tt := tYes) (by rfl) sc__law_form_holds.nd (pi_list (pv 1)) (blkOk_by (N := ["rows", "given", "row", "copies", "told", "points", "lows", "highs"]) (sc := defScope s__law_form_holds) (by decide +kernel)) (fun _ _ _ _ _ => (pg_name (i := 2) sc__law_form_holds.nd rfl (Or.inl rfl))) (fun _ _ _ _ _ => pts_nil) (fun _ _ _ _ _ => (pe_callTy call_list_ofB (by rfl) T.n_list (by decide +kernel) (pa_cons (pv 2) pa_nil)))) (pv 3) (nomark _)) (pw_or1 (pt_cmpR (op_neD hr.units) (pv 4) (pe_cal C__law_slabs (hr.mono (by decide)) pass0 (pa_cons (pv 0) pa_nil)) (nomark _))))))
        (pss_one (ps_ret pe_bl))
        pss_nil)
      (pss_cons (ps_set (i := 5) sc__law_form_holds.nd rfl (Or.inl rfl) (pe_lst pa_nil))
      (pss_cons (ps_for PassesOwn.never rfl (pi_list (pv 4)) (pg_tup rfl (pgs_cons (pg_name (i := 6) sc__law_form_holds.nd rfl (Or.inl rfl)) (pgs_cons (pg_name (i := 7) sc__law_form_holds.nd rfl (Or.inl rfl)) pgs_nil)))
        (pss_one (ps_set (i := 5) sc__law_form_holds.nd rfl (Or.inl rfl) (pe_op op_cat (pv 5) (pe_cal C__law_spots (hr.mono (by decide)) pass0 (pa_cons (pv 6) (pa_cons (pv 7) pa_nil)))))))
      (pss_one (ps_ret (pe_and (pe_cmpR (op_eqD hr.units) (pe_callB (cr_sortedR hr) (by rfl) T.n_sorted (by decide +kernel) (pa_cons (pv 5) pa_nil)) (pv 0) (nomark _)) (pe_one (pe_cmpR (op_eqD hr.units) (pe_cal C__law_told (hr.mono (by decide)) pass0 (pa_cons (pe_cal C_slabs_of (hr.mono (by decide)) pass0 (pa_cons (pe_tupRev rfl (by rfl) T.n_tuple (by rfl) T.n_reversed (pv 0)) pa_nil)) pa_nil)) (pv 4) (nomark _))))))))))), ?_⟩
    have big : 20000 < sizeLine := by decide
    refine ⟨_, rfl, b, rfl, ⟨_, hS⟩, fun D nD => ?_⟩
    refine lc_rows nD hS pX (by omega) (fun x c Hx R' N sx row k => ?_) fun H1 cs s1 hD pD => ?_
    · obtain ⟨a', rfl, ha'⟩ := row
      exact ⟨rfl, _, rfl, a', _, rfl, ha', fun l nl => k l _ nl (same_new nl) upd_same⟩
    have same_row : ∀ {H' : Hp}, L2.Same H H' → Paired (rowS K H') xs qs := fun s => Paired.mapP pX fun _ _ z => z.same s
    refine ⟨_, rfl, b, xs, qs, ps, k, rfl, .inl (sqL_same s1 hS), same_row s1, me, RK, k1, k3, few, fun q ys H2 nq s2 hq pb => ?_⟩
    have fs := slabs_few RK
    obtain ⟨okp, pmS⟩ := slabs_spec RK
    refine ⟨q, ys, slabs k ps, rfl, SqT.of hq, pb, by omega, fun l us H3 nl s3 hl hC => ?_⟩
    have s13 := (s1.trans s2).trans s3
    have s23 := s2.trans s3
    have rows_at : ∀ {H' : Hp}, L2.Same H H' → RowsL K H' a ps := fun s => by
      obtain ⟨vs, h1, h2⟩ := hR
      exact ⟨vs, sqL_same s h1, Paired.mapP h2 fun _ _ z => z.nl (NL.same s)⟩
    have cop_at : ∀ {H' : Hp}, L2.Same H1 H' → Paired (copS D H') cs qs := fun s => Paired.mapP pD fun _ _ z => by
      obtain ⟨l, e, n, h⟩ := z
      exact ⟨l, e, n, s _ _ h⟩
    refine ⟨_, rfl, rfl, _, rfl, ite2 (fun e => absurd (of_decide_eq_true e) (by simp)) (fun _ => ?_)⟩
    refine ⟨_, rfl, b, rfl, ⟨_, sqL_same s13 hS⟩, fun D2 nD2 => ?_⟩
    refine lc_rows nD2 (sqL_same s13 hS) (same_row s13) (by omega) (fun x c Hx R' N sx row k => ?_) fun H4 cs2 s4 hD2 pD2 => ?_
    · obtain ⟨a', rfl, ha'⟩ := row
      exact ⟨rfl, _, rfl, a', _, rfl, ha', fun l nl => k l _ nl (same_new nl) upd_same⟩
    refine ⟨_, rfl, _, _, dp_cops (SqL.of hD2) pD2, dp_cops (SqL.of (s4 _ _ (s23 _ _ hD))) (cop_at (s23.trans s4)), shaped_rows _, shaped_rows _, _, rfl, ?_⟩
    rw [eqv_rows]
    refine iteF ⟨_, rfl, _, rfl, k, k3, a, ps, rfl, rows_at (s13.trans s4), RK, few, k3, fun l2 us2 H5 nl5 s5 hl2 hC2 => ⟨_, _, dp_cuts (SqL.of (s5 _ _ (s4 _ _ hl))) (hC.nl (NL.same (s4.trans s5))), dp_cuts (SqL.of hl2) hC2, shaped_cuts _, shaped_cuts _, _, rfl, ?_⟩⟩
    rw [eqv_cuts, decide_eq_true rfl]
    refine iteF ⟨Nat.zero_le _, fun P0 nP => ?_⟩
    generalize hq_ : L2.upd H5 P0 _ = H6
    obtain ⟨s6, o6⟩ := _root_.Q.nwS nP hq_
    clear hq_
    have s36 := (s4.trans s5).trans s6
    have hl6 := s36 _ _ hl
    have hC6 := hC.nl (NL.same s36)
    have lc6 := paired_len hC6
    have fewp := pmS.length_eq
    have okc := okp
    generalize hcs : slabs k ps = cuts at hC hC6 lc6 fewp pmS okc fs
    refine ⟨_, rfl, l, rfl, ⟨_, SqL.of hl6⟩, ?_⟩
    refine for_list (xs := us) (fun i σ H' => (∃ (pl : Addr) (zs : List V) (v6 v7 : Option V), σ = [some (.ref a), some (.ref b), none, some (.ref D), some (.ref l), some (.ref pl), v6, v7] ∧ H' pl = some (.lst zs) ∧ Paired (ptS K H') zs ((cuts.take i).flatMap sp)) ∧ L2.Same H6 H') ⟨⟨P0, [], none, none, rfl, o6, .nil⟩, Same.refl _⟩ (fun i σ H' _ q => SqL.of (q.2 _ _ hl6)) ?_ ?_
    · rintro i x σ H' ex ⟨⟨pl, zs, v6, v7, rfl, hp, pz⟩, sm⟩
      have hi : i < cuts.length := by
        have := (List.getElem?_eq_some_iff.mp ex).1
        omega
      obtain ⟨x', ex', t, tl, th, rfl, g1, g2, g3⟩ := paired_at (hC6.nl (NL.same sm)) i hi
      rw [ex] at ex'
      cases ex'
      obtain ⟨q1, q2, q3, q4⟩ := okc _ (List.getElem_mem hi)
      have ft : (cuts.take (i + 1)).flatMap sp = (cuts.take i).flatMap sp ++ sp cuts[i] := by
        rw [List.take_succ_eq_append_getElem hi, List.flatMap_append, List.flatMap_singleton]
      have lt : ((cuts.take (i + 1)).flatMap sp).length ≤ ps.length := by
        rw [← fewp]
        conv => rhs; rw [← List.take_append_drop (i + 1) cuts]
        rw [List.flatMap_append, List.length_append]
        exact Nat.le_add_right _ _
      rw [ft, List.length_append, spots_len] at lt
      have lz := paired_len pz
      refine ⟨t, _, rfl, SqT.of g1, rfl, _, _, rfl, _, _, rfl, rfl, _, rfl, _, rfl, _, rfl, tl, th, _, _, rfl, .inr g2, .inr g3, q2, by omega, (fun j hj => ?_), by omega, fun q Hb sb hq => ?_⟩
      · have z1 := q2.len
        have a1 := q3 _ (getD_in (l := cuts[i].1) hj)
        have a2 := q4 _ (getD_in (l := cuts[i].2) (j := j) (by omega))
        omega
      · obtain ⟨vq, hq, pq⟩ := hq
        have lq := paired_len pq
        rw [spots_len] at lq
        refine ⟨pl, q, _, _, rfl, rfl, sb _ _ hp, hq, by omega, fun G nG => ?_⟩
        generalize hq_ : L2.upd Hb G _ = Hc
        obtain ⟨sc, oc⟩ := _root_.Q.nwS nG hq_
        clear hq_
        refine ⟨⟨G, _, _, _, rfl, oc, ?_⟩, (sm.trans sb).trans sc⟩
        rw [ft]
        exact _root_.Q.paired_app (Paired.mapP pz fun _ _ z => z.nl (NL.same (sb.trans sc))) (Paired.mapP pq fun _ _ z => ptS_of (z.nl (NL.same sc)))
    · rintro σ H' ⟨⟨pl, zs, v6, v7, rfl, hp, pz⟩, sm⟩
      rw [lc6, List.take_length] at pz
      have mp : ∀ {x}, x ∈ cuts.flatMap sp ↔ x ∈ ps := fun {x} => pmS.mem_iff
      have s0 := (s13.trans s36).trans sm
      have nd : (cuts.flatMap sp).Nodup := pmS.nodup_iff.mpr (List.Pairwise.imp (S := fun a b => a ≠ b) (fun {a b} h e => lex_irr a (by rw [← e] at h; exact h)) RK.asc)
      refine ⟨_, rfl, ?_⟩
      refine sortedD_of (R := ptS K H') (enc := fun p : List Int => PyData.tuple (p.map PyData.int)) (SqL.of hp) pz (fun v c _ ⟨t, e, h⟩ => by rw [e]; exact dp_ints h) (.inl ⟨PySem.W.AllAlike.of fun c c' => by
        simp only [PySem.W.alike]
        exact PySem.W.alike_ints _ _, .inl fun d hd => ?_⟩) (fun c _ => by
        have := ptD_depth c
        show (ptD c).depth ≤ 60
        omega) fun l3 zs3 nl3 pz3 => ?_
      · obtain ⟨r, mr, rfl⟩ := List.mem_map.mp hd
        have := RK.len r (mp.mp mr)
        cases r with
        | nil => have : 0 = k := this; omega
        | cons x r => exact ⟨_, _, rfl⟩
      rw [sort_pts nd RK.asc fun x => mp] at pz3
      generalize hq_ : L2.upd H' l3 _ = H7
      obtain ⟨s7, o7⟩ := _root_.Q.nwS nl3 hq_
      clear hq_
      obtain ⟨vr, hr1, hr2⟩ := rows_at (s0.trans s7)
      refine ⟨_, rfl, _, _, dp_pts (SqL.of o7) (Paired.mapP pz3 fun _ _ z => z.nl (NL.same s7)), dp_pts hr1 hr2, shaped_pts _, shaped_pts _, _, rfl, ?_⟩
      rw [eqv_pts, decide_eq_true rfl]
      refine iteT ⟨_, rfl, a, vr, rfl, hr1, fun q4 nq4 => ?_⟩
      generalize hq_ : L2.upd H7 q4 _ = H8
      obtain ⟨s8, o8⟩ := _root_.Q.nwS nq4 hq_
      clear hq_
      refine ⟨q4, vr.reverse, ps.reverse, ps, k, rfl, .inr (SqT.of o8), ?_, fun x => List.mem_reverse, RK, k1, k3, few, fun q ys5 H9 nq9 s9 hq9 pb9 => ?_⟩
      · have go : ∀ {as : List V} {bs : List (List Int)}, Paired (rowS K H8) as bs → Paired (rowS K H8) as.reverse bs.reverse := fun h => by
          induction h with
          | nil => exact .nil
          | cons a _ ih =>
            rw [List.reverse_cons, List.reverse_cons]
            exact Paired.snoc ih a
        exact go (Paired.mapP hr2 fun _ _ z => by
          obtain ⟨t, e, h⟩ := z
          exact ⟨t, e, .inr (sqT_same s8 h)⟩)
      rw [hcs] at pb9
      refine ⟨q, ys5, cuts, rfl, SqT.of hq9, pb9, by omega, fun l6 us6 H10 nl10 s10 hl10 hC10 => ?_⟩
      have sE := ((sm.trans s7).trans s8).trans (s9.trans s10)
      refine ⟨_, rfl, _, _, dp_cuts (SqL.of hl10) hC10, dp_cuts (SqL.of (sE _ _ hl6)) (hC6.nl (NL.same sE)), shaped_cuts _, shaped_cuts _, ?_⟩
      rw [eqv_cuts, decide_eq_true rfl]
      exact kQ H10 ((s13.trans s36).trans sE)

end
end K07

set_option maxRecDepth 100000
set_option maxHeartbeats 8000000
/-! Dicts whose keys are rows: sorted(d), {row: .. for row in ..}; len of a set of rows. -/
namespace Q
open PySem PySem.Spec PyProof.Rows L2
section
variable {P : Program} {w : World} {A : Around} {E : Value → Shared → Prop} {s : Shared}
/-- what an iterable of the library's yields, gathered -/
theorem collect_src {T : String} {r d : Addr} {n : Nat} {Pi : Nat → Value → Prop} {OK : Heap → Prop} {R : List Value → Shared → Prop} (S : PySem.W.KdlSrc P w T r d n Pi OK) (hh : A.handled = none) (hok : OK s.heap) (hn : n ≤ sizeLine)
    (todo : ∀ (h' : Heap) (tk : Nat) (acc : Array Value), (∀ b o, s.heap.get? b = some o → h'.get? b = some o) → s.heap.objs.size < h'.objs.size → ItemsOf Pi acc n → R acc.toList { s with heap := h', toks := tk }) : wpAny (model P w) A (collect (.ref r)) R E s := by
  obtain ⟨rl, dl⟩ := S.there _ hok
  obtain ⟨l, el⟩ : ∃ l, l = s.heap.objs.size := ⟨_, rfl⟩
  unfold collect
  refine wpAny_bind (wpAny_runValue (codeAny_builtin PyProof.Rows.entry_proto_collect' ?_))
  rw [Around.under_plainId PySem.F.plain_proto_collect _]
  show wpAny _ A.in1 (newList [] >>= fun z => again (.builtin "list.__iadd__" ⟨[z, .ref r], []⟩)) _ _ s
  refine wpAny_bind (wpAny_newObj_type (wpAny_pure ⟨plainId_quiet PySem.F.plain_list_iadd _, codeAny_builtin PyProof.Rows.entry_list_iadd' ?_⟩))
  rw [Around.under_plainId PySem.F.plain_list_iadd _, ← el]
  show wpAny _ A.in1 (Builtin.List.listExtendWith (.ref l) (.ref r) (.ref l)) _ _ _
  have at0 : (s.heap.push { cls := .type "list", data := .seq ([] : List Value).toArray }).get? l = some { cls := .type "list", data := .seq #[] } := by
    rw [el]
    exact Heap.get?_push_size _ rfl
  have old : ∀ b o, s.heap.get? b = some o → (s.heap.push { cls := .type "list", data := .seq ([] : List Value).toArray }).get? b = some o := fun b o e => Heap.get?_push_of_some _ e
  have ext := PySem.W.kdl_extend (A := A) (s := { s with heap := s.heap.push { cls := .type "list", data := .seq ([] : List Value).toArray } }) (R := fun (f : Result) (s' : Shared) => ∃ (h' : Heap) (tk : Nat) (acc : Array Value) (c : Nat), f = .ok (.ret (.ref l)) ∧ s' = { s with heap := h', toks := tk } ∧
      (∀ b o, s.heap.get? b = some o → h'.get? b = some o) ∧ h'.get? l = some { cls := .type "list", dict := none, data := .seq acc c, slots := #[] } ∧ ItemsOf Pi acc n) S hh (S.keep _ _ hok fun b _ o e => old b o e) l (by rw [el]; exact Nat.ne_of_gt rl) (by rw [el]; exact Nat.ne_of_gt dl) (.ref l) 0 at0
    (fun h' tk acc c k at1 its => ⟨h', tk, acc, c, rfl, rfl, fun b o e => k b o (by rw [el]; exact Nat.ne_of_lt (Heap.lt_size e)) (old b o e), at1, its⟩) hn
  have last : ∀ (f : Result) (s' : Shared), (∃ (h' : Heap) (tk : Nat) (acc : Array Value) (c : Nat), f = .ok (.ret (.ref l)) ∧ s' = { s with heap := h', toks := tk } ∧ (∀ b o, s.heap.get? b = some o → h'.get? b = some o) ∧ h'.get? l = some { cls := .type "list", dict := none, data := .seq acc c, slots := #[] } ∧ ItemsOf Pi acc n) →
      ∃ v, f = .ok (.ret v) ∧ v = .ref l ∧ wpAny (model P w) A (load l >>= fun o => match o.data with
        | .seq xs _ => pure xs.toList
        | _ => unsupported "internal:collect") R E s' := fun f s' ⟨h', tk, acc, c, e1, e2, k, at1, its⟩ => by
    subst e2
    exact ⟨_, e1, rfl, wpAny_bind (wpAny_load at1 (wpAny_pure (todo h' tk acc k (by rw [← el]; exact Heap.lt_size at1) its)))⟩
  refine wpAny_mono ext (fun fin s' x => ?_) fun e s' ⟨_, _, _, _, z, _⟩ => nomatch z
  cases fin with
  | done f =>
    obtain ⟨v, e1, rfl, h1⟩ := last _ _ x
    cases e1
    exact h1
  | again c1 =>
    refine ⟨x.1, codeAny_mono x.2 fun q s2 y => ?_⟩
    obtain ⟨v, rfl, rfl, h1⟩ := last _ _ y
    exact h1
/-- sorted of what is gathered: tuples of whole numbers -/
theorem sorted_of_rows {r : Addr} {L : List (Addr × List Int)} {Q : Value → Shared → Prop} (hu : A.units + 4 < cLine) (few : L.length ≤ sizeLine) (ne : ∀ p ∈ L, p.2 ≠ [])
    (col : ∀ R : List Value → Shared → Prop, (∀ s1 : Shared, (∀ b o, s.heap.get? b = some o → s1.heap.get? b = some o) → s.heap.objs.size ≤ s1.heap.objs.size → s1.gens = s.gens → s1.os = s.os → R (L.map fun p => Value.ref p.1) s1) → wpAny (model P w) A.in1 (collect (.ref r)) R E s)
    (tup : ∀ p ∈ L, IsT P w s.heap p.2 p.1)
    (hQ : ∀ s' b (out : List Value) (c : Nat), (∀ b o, s.heap.get? b = some o → s'.heap.get? b = some o) → s'.gens = s.gens → s'.os = s.os → s.heap.objs.size ≤ b → s'.heap.get? b = some (seqObj "list" out.toArray c) →
      PySem.W.EachIs (fun (v : Value) (p : Addr × List Int) => v = Value.ref p.1) out (L.mergeSort (PySem.W.dataLe false fun p : Addr × List Int => ptD p.2)) → Q (.ref b) s') :
    wpAny (model P w) A (call (.builtin "sorted") [.ref r]) Q E s := by
  refine Calls.call_function_entry kind_sorted plain_sorted entry_sorted (args_sorted1 _) ?_
  unfold Builtin.«sorted»
  refine wpAny_bind (m := checkCount "sorted" 1 1 _) (wpAny_pure (wpAny_bind (col _ fun s1 k1 hz g1 o1 => ?_)))
  refine wpAny_bind (wpAny_newList ?_ (by rw [List.length_map]; exact few))
  generalize hvs : L.map (fun p : Addr × List Int => Value.ref p.1) = vs
  have atL : (s1.heap.push (seqObj "list" vs.toArray 0)).get? s1.heap.objs.size = some (seqObj "list" vs.toArray 0) := Heap.get?_push_size _ rfl
  have each : ∀ {l : List (Addr × List Int)}, (∀ p ∈ l, p ∈ L) → PySem.W.EachIs (fun (v : Value) (p : Addr × List Int) => v = Value.ref p.1) (l.map fun p => Value.ref p.1) l ∧
      PySem.W.EachIs (fun (v : Value) (p : Addr × List Int) => ∃ as, Reads (s1.heap.push (seqObj "list" vs.toArray 0)) v (ptD p.2) as ∧ s1.heap.objs.size ∉ as) (l.map fun p => Value.ref p.1) l := fun {l} => by
    induction l with
    | nil => exact fun _ => ⟨.nil, .nil⟩
    | cons p l ih =>
      intro hl
      obtain ⟨i1, i2⟩ := ih fun q mq => hl q (List.mem_cons_of_mem _ mq)
      exact ⟨.cons rfl i1, .cons ⟨[], isT_reads (isT_keep (tup p (hl p List.mem_cons_self)) fun c u e => Heap.get?_push_of_some _ (k1 c u e)), List.not_mem_nil⟩ i2⟩
  obtain ⟨e1, e2⟩ := each fun p mp => mp
  rw [hvs] at e1 e2
  refine wpAny_bind (wpAny_holding (PySem.W.list_sort_data (s := { s1 with heap := s1.heap.push (seqObj "list" vs.toArray 0) }) atL e1 e2 (PySem.W.AllAlike.of fun p q => ?_) (.inl fun d md => ?_) few (fun p _ => ?_) fun out lo eo => ?_))
  · simp only [ptD, PySem.W.alike]
    exact PySem.W.alike_ints _ _
  · obtain ⟨p, mp, rfl⟩ := List.mem_map.mp md
    have np := ne p mp
    cases hk : p.2 with
    | nil => exact absurd hk np
    | cons z k => exact ⟨.int z, k.map PyData.int, rfl⟩
  · rw [ptD_depth]
    show A.units + 1 + 1 + 1 < cLine
    omega
  · obtain ⟨c, hc⟩ := sortedHeap_at (vs := vs) (out := out.toArray) atL
    refine wpAny_pure ⟨_, rfl, hQ _ s1.heap.objs.size out c (fun b u e => ?_) g1 o1 hz hc eo⟩
    have q := k1 b u e
    have lt := Heap.lt_size q
    have fin := sortedHeap_old (vs := vs) (out := out.toArray) (Nat.ne_of_lt lt) (show b < (s1.heap.push (seqObj "list" vs.toArray 0)).objs.size by rw [size_push']; exact Nat.lt_succ_of_lt lt)
    exact fin.trans (Heap.get?_push_of_some _ q)
end
section
variable {X : Cx}
abbrev rowKeys (ps : List (List Int)) (v : V) : List (List Key × V) := ps.map fun p => (ptKey p, v)
/-- sorted(d), d's keys rows -/
@[irreducible] def rSortedDT : List V → Hp → VK → Prop := fun vs H Q => ∃ (d : Addr) (kvs : List (List Key × V)) (ps : List (List Int)), vs = [V.ref d] ∧ H d = some (.dT kvs) ∧ kvs.map Prod.fst = ps.map ptKey ∧ ps.Nodup ∧ (∀ p ∈ ps, p ≠ []) ∧
  ∀ l zs, H l = none → Paired (ptRel H) zs (ps.mergeSort (PySem.W.dataLe false fun p : List Int => PyData.tuple (p.map PyData.int))) → Q (.ref l) (upd H l (.lst zs))
theorem cr_sortedDT (hc : X.calm = true) (hu : X.A.units + 8 < cLine) : CallR X (.builtin "sorted") rSortedDT := by
  intro pins s σ H vs us Q I r h
  unfold rSortedDT at h
  obtain ⟨d, kvs, ps, rfl, hd, ek, nd, ne, q⟩ := h
  rw [Vals.ref1 r]
  obtain ⟨z, _⟩ := dt_of I.hok hd
  obtain ⟨od, I1⟩ := I.lock hd trivial
  obtain ⟨hs, hgd, hx, es, ep, hdt, hsz, ent⟩ := I1.frzT upd_same
  have lk : kvs.length = ps.length := by
    have := congrArg List.length ek
    rwa [List.length_map, List.length_map] at this
  have keyOf : ∀ (i : Nat) (p : List Int), ps[i]? = some p → ∃ (en : DictEntry) (b : Addr), es[i]? = some en ∧ en.key = .ref b ∧ H b = some (.tup (p.map V.int)) := fun i p e => by
    have e2 : (kvs.map Prod.fst)[i]? = some (ptKey p) := by rw [ek, List.getElem?_map, e]; rfl
    rw [List.getElem?_map] at e2
    obtain ⟨⟨k, v⟩, e3, e4⟩ := Option.map_eq_some_iff.mp e2
    have e4 : k = ptKey p := e4
    obtain ⟨en, b, h1, h2, h3⟩ := ent i k v e3
    rw [e4, ptKey_kV] at h3
    have bd : b ≠ d := fun w => by
      rw [w, upd_same] at h3
      cases h3
    rw [upd_ne bd] at h3
    exact ⟨en, b, h1, h2, h3⟩
  obtain ⟨bs, lb, hb⟩ : ∃ bs : List Addr, bs.length = ps.length ∧ ∀ (i : Nat) (p : List Int) (b : Addr), ps[i]? = some p → bs[i]? = some b → (∃ en : DictEntry, es[i]? = some en ∧ en.key = .ref b) ∧ H b = some (.tup (p.map V.int)) := by
    have go : ∀ n, n ≤ ps.length → ∃ bs : List Addr, bs.length = n ∧ ∀ (i : Nat) (p : List Int) (b : Addr), ps[i]? = some p → bs[i]? = some b → (∃ en : DictEntry, es[i]? = some en ∧ en.key = .ref b) ∧ H b = some (.tup (p.map V.int)) := fun n => by
      induction n with
      | zero => exact fun _ => ⟨[], rfl, fun i p b _ e => by simp at e⟩
      | succ n ih =>
        intro hn
        obtain ⟨bs, lb, hb⟩ := ih (Nat.le_of_succ_le hn)
        obtain ⟨en, b, h1, h2, h3⟩ := keyOf n ps[n] (List.getElem?_eq_getElem hn)
        refine ⟨bs ++ [b], by rw [List.length_append, lb]; rfl, fun i p b' e1 e2 => ?_⟩
        by_cases c : i < n
        · rw [List.getElem?_append_left (by omega)] at e2
          exact hb i p b' e1 e2
        · have : i < (bs ++ [b]).length := (List.getElem?_eq_some_iff.mp e2).1
          rw [List.length_append, lb] at this
          have : i < n + 1 := this
          obtain rfl : i = n := by omega
          rw [List.getElem?_append_right (by omega), lb, Nat.sub_self] at e2
          cases e2
          rw [List.getElem?_eq_getElem hn] at e1
          cases e1
          exact ⟨⟨en, h1, h2⟩, h3⟩
    exact go ps.length (Nat.le_refl _)
  have lz : (bs.zip ps).length = ps.length := by rw [List.length_zip, lb, Nat.min_self]
  have atz : ∀ {i : Nat} {x : Addr × List Int}, (bs.zip ps)[i]? = some x → bs[i]? = some x.1 ∧ ps[i]? = some x.2 := fun {i x} e => by
    obtain ⟨b, p⟩ := x
    rw [List.getElem?_zip_eq_some] at e
    exact e
  have inz : ∀ x ∈ bs.zip ps, H x.1 = some (.tup (x.2.map V.int)) ∧ x.2 ∈ ps := fun x m => by
    obtain ⟨i, e⟩ := List.getElem?_of_mem m
    obtain ⟨e1, e2⟩ := atz e
    exact ⟨(hb i _ _ e2 e1).2, List.mem_of_getElem? e2⟩
  have snd : (bs.zip ps).map (·.2) = ps := List.map_snd_zip (by omega)
  refine sorted_of_rows (L := bs.zip ps) (by omega) (by omega) (fun x m => ne _ (inz x m).2) (fun R hR => ?_) (fun x m => Inv.isT I (SqT.of (inz x m).1)) fun s' b out c k g o hb' hg eo => ?_
  · refine collect_src (A := X.A.in1) (L2.kdl_raw hs hx hdt) (by simpa using I.ok.hd hc) hgd (by omega) fun h' tk acc kp lt its => ?_
    have e : acc.toList = (bs.zip ps).map fun p => Value.ref p.1 := by
      refine List.ext_getElem? fun i => ?_
      by_cases c : i < ps.length
      · have hz : (bs.zip ps)[i]? = some ((bs.zip ps)[i]'(by omega)) := List.getElem?_eq_getElem (by omega)
        obtain ⟨e1, e2⟩ := atz hz
        obtain ⟨⟨en, h1, h2⟩, _⟩ := hb i _ _ e2 e1
        have ha : acc[i]? = some (acc[i]'(by rw [its.1]; omega)) := Array.getElem?_eq_getElem (by rw [its.1]; omega)
        obtain ⟨en', h3, h4⟩ := its.2 i _ ha
        rw [h1] at h3
        cases h3
        rw [Array.getElem?_toList, ha, h4, h2, List.getElem?_map, hz]
        rfl
      · rw [List.getElem?_eq_none (by rw [Array.length_toList, its.1]; omega), List.getElem?_eq_none (by rw [List.length_map]; omega)]
    rw [e]
    exact hR _ kp (Nat.le_of_lt lt) rfl rfl
  have ps' := (bs.zip ps).mergeSort_perm (PySem.W.dataLe false fun p : Addr × List Int => ptD p.2)
  have e2 : ((bs.zip ps).mergeSort (PySem.W.dataLe false fun p : Addr × List Int => ptD p.2)).map (·.2) = ((bs.zip ps).map (·.2)).mergeSort (PySem.W.dataLe false fun p : List Int => PyData.tuple (p.map PyData.int)) := List.map_mergeSort (fun _ _ _ _ => rfl)
  rw [snd] at e2
  generalize (bs.zip ps).mergeSort (PySem.W.dataLe false fun p : Addr × List Int => ptD p.2) = M at eo ps' e2
  have hn : H b = none := I.hok.fresh hb'
  have J : Inv X pins σ (upd H b (.lst (M.map fun q => V.ref q.1))) { s with heap := s'.heap, gens := s'.gens, drawn := s'.drawn, toks := s'.toks } :=
    I.call (ch := []) (Un.laid k hb' hn) (I.hok.laid k hb' ⟨by rw [List.length_map, ps'.length_eq]; omega, out, c, each_out eo, hg⟩) (by rw [g]; exact I.bare) (fun _ z => nomatch z)
  have e : s' = { s with heap := s'.heap, gens := s'.gens, drawn := s'.drawn, toks := s'.toks } := by
    cases s'; cases s; cases o; rfl
  rw [e]
  refine ⟨.ref b, _, J, rfl, q b _ hn ?_⟩
  rw [← e2]
  exact paired_of (R := ptRel H) (f := fun q : Addr × List Int => V.ref q.1) (g := fun q => q.2) fun x m => ⟨x.1, rfl, (inz x (ps'.mem_iff.mp m)).1⟩
theorem cr_sortedDR {k : Nat} (hr : Room k X.A) (hc : X.calm = true) : CallR X (.builtin "sorted") rSortedDT := cr_sortedDT hc (by have := hr.un; omega)
theorem sortedDT_of {H : Hp} {d : Addr} {ps : List (List Int)} {v : V} {Q : VK} (h : H d = some (.dT (rowKeys ps v))) (nd : ps.Nodup) (ne : ∀ p ∈ ps, p ≠ []) (q : ∀ l zs, H l = none → Paired (ptRel H) zs (ps.mergeSort (PySem.W.dataLe false fun p : List Int => PyData.tuple (p.map PyData.int))) → Q (.ref l) (upd H l (.lst zs))) : rSortedDT [.ref d] H Q := by
  unfold rSortedDT
  exact ⟨d, _, ps, rfl, h, by rw [List.map_map]; rfl, nd, ne, q⟩
/-- len of a set of rows -/
def rLenG (P : Program) (w : World) : List V → Hp → VK → Prop := fun vs H Q => ∃ (a : Addr) (L : List (Addr × List Int)), vs = [V.ref a] ∧ H a = some (SetG P w a L) ∧ Q (.int L.length) H
theorem call_lenG : CallR X (.builtin "len") (rLenG X.prog X.w) := by
  intro pins s σ H vs us Q I r h
  obtain ⟨a, L, rfl, ha, q⟩ := h
  rw [Vals.ref1 r]
  obtain ⟨es, ep, t, R⟩ := (I.hok a _ ha).1
  obtain ⟨o, ho, hex, hd⟩ := id R.here
  have sz := rows_size R.rows
  have fr := R.free
  have ml := R.tab.wide.le
  refine call_len_set ho hex hd R.fits (by omega) ⟨.int L.length, H, I.tok _, ⟨_, by rw [sz]⟩, q⟩
end
end Q

set_option maxRecDepth 100000
set_option maxHeartbeats 8000000
/-! {row: .. for row in ..}. -/
namespace Q
open PySem PySem.Spec PyProof.Rows L2
section
variable {X : Cx}
theorem d_dictSetT {pins : List (Addr × Obj)} {σ : L2.St} {H : Hp} {s : Shared} {A : Around} {E : Value → Shared → Prop} {D b : Addr} {kvs : List (List Key × V)} {k : List Key} {v : V} {r : Value} {Q : Unit → Shared → Prop} (hu : A.units < cLine) (I : Inv X pins σ H s) (hD : H D = some (.dT kvs)) (hz : kvs.length < sizeLine)
    (hb : H b = some (.tup (k.map kV))) (rv : RelV v r) (h : ∀ s', Inv X pins σ (upd H D (.dT (putK kvs k v))) s' → Q () s') : wpAny (model X.prog X.w) A (dictSet D (.ref b) r) Q E s := by
  obtain ⟨z, lo, xs, rel, dd⟩ := dt_of I.hok hD
  have lx : xs.length ≤ sizeLine := by rw [← Paired.length rel]; exact z
  have lp : (putK kvs k v).length ≤ sizeLine := Nat.le_trans (length_putK kvs k v) hz
  refine PySem.wpAny_dictSet_heap (hsz := lx) hu (key_of I.hok hb) dd fun h' dd' sb => h _ ?_
  obtain ⟨o, es, ep, ho, g1, g2, g3, _, g4⟩ := dd'
  refine d_write I (by rw [hD]; trivial) sb ⟨o, ho⟩ ⟨lp, lo, _, (rel.put k hb rv).keeps fun c ys ec => ?_, o, es, ep, ho, g1, g2, g3, g4⟩
  rw [upd_ne fun w => by rw [w, hD] at ec; cases ec]
  exact ec
def tDcT (wi : TI) (g : TG) (tt : TT) (tk tv : TE) (vs : List Nat) : TE := fun σ H Q => wi σ H fun J H1 => ∀ D, H1 D = none → ∃ W : Nat → Nat → Hp → Prop, (∃ m, W 0 m (upd H1 D (.dT []))) ∧ ∀ i m H, W i m H →
  (J.stop i H ∧ Q (.ref D) H) ∨ (J.go i H ∧ ∃ Nx : Hp → Prop, (∀ H', Nx H' → ∃ m', m' < m ∧ W (i + 1) m' H') ∧ ∀ x H', J.yld i H x H' → g x (wipe σ vs) H' fun σ2 H2 => wipe σ2 vs = wipe σ vs ∧ tt σ2 H2 fun b H3 =>
    if b = true then tk σ2 H3 fun y H4 => tv σ2 H4 fun z H5 => ∃ (kvs : List (List Key × V)) (k : List Key) (bk : Addr), y = .ref bk ∧ H5 bk = some (.tup (k.map kV)) ∧ H5 D = some (.dT kvs) ∧ kvs.length < sizeLine ∧ Nx (upd H5 D (.dT (putK kvs k z))) else Nx H3)
theorem pe_dcT {kx vx tg iter : Expr} {ifs : List Expr} {scope : Scope} {own : List (PySem.Str × Nat)} {pos : Pos} {wi : TI} {g : TG} {tt : TT} {tk tv : TE} (hu : X.A.units + 12 < cLine) (hc : X.calm = true) (hN : X.N.Nodup) (hi : PI X tg iter wi) (ok : BlkOk X.N X.env.scope scope own)
    (hg : ∀ (s : Shared) (H : Hp) (C : Addr) (cl : List (PySem.Str × Addr)) (fp : List Addr), PG (X.blk s H scope (compEnvC scope cl C X.env) fp) tg g) (ht : ∀ (s : Shared) (H : Hp) (C : Addr) (cl : List (PySem.Str × Addr)) (fp : List Addr), PTs (X.blk s H scope (compEnvC scope cl C X.env) fp) ifs tt)
    (hk : ∀ (s : Shared) (H : Hp) (C : Addr) (cl : List (PySem.Str × Addr)) (fp : List Addr), PE (X.blk s H scope (compEnvC scope cl C X.env) fp) kx tk)
    (he : ∀ (s : Shared) (H : Hp) (C : Addr) (cl : List (PySem.Str × Addr)) (fp : List Addr), PE (X.blk s H scope (compEnvC scope cl C X.env) fp) vx tv) (hs : ∀ x, foldedSetIterable iter X.env x = pure x := by intro _; rfl) :
    PE X (.DictComp kx vx [⟨tg, iter, ifs, 0⟩] scope pos) (tDcT wi g tt tk tv (own.map (·.2))) := by
  refine ⟨fun pins s0 σ H0 Q I0 h0 => ?_⟩
  rw [arm_eval_DictComp]
  have cells : ∀ y ∈ scope.names, y.2 = .free → ∃ c, X.env.cells.lookup y.1 = some c := fun y my fy => (ok.free y my fy).elim (fun z => I0.ok.has _ (.inl z)) fun z => I0.ok.has _ (.inr z)
  refine wpAny_comprehension_free (use := none) rfl hs (closure_ok cells) ok.kind (fun y my ey => by rw [ok.uniq y my, ey]) (thn (hi.run pins s0 σ H0 _ I0 h0) fun xv s1 k1 => thn k1 fun itv s2 k2 => ?_)
  obtain ⟨it, fp, tn, J, H2, rfl, I2, T, at2, old2, q2⟩ := k2
  refine wpAny_newObj_type (newEnv_comp ?_)
  obtain ⟨D, eD⟩ : ∃ D, D = s2.heap.objs.size := ⟨_, rfl⟩
  obtain ⟨s3, es3⟩ : ∃ s3 : Shared, s3 = { s2 with heap := s2.heap.push { cls := .type "dict", data := .dict #[] } } := ⟨_, rfl⟩
  rw [← eD, ← es3]
  have nD : H2 D = none := I2.hok.fresh (Nat.le_of_eq eD.symm)
  obtain ⟨W, ⟨m0, w0⟩, turn⟩ := q2 D nD
  have push3 : ∀ b o, s2.heap.get? b = some o → s3.heap.get? b = some o := fun b o e => by rw [es3]; exact Heap.get?_push_of_some _ e
  have I3 : Inv X pins σ (upd H2 D (.dT [])) s3 := by
    rw [es3]
    refine I2.laid (t' := s2.toks) (fun b o e => Heap.get?_push_of_some _ e) (Nat.le_of_eq eD.symm) ?_
    rw [eD]
    exact dt_empty s2.heap I2.big
  have big3 : s3.heap.objs.size = s2.heap.objs.size + 1 := by rw [es3]; exact Heap.size_push ..
  have low : ∀ b ∈ fp, b < s2.heap.objs.size := fun b mb => let ⟨_, e, _⟩ := T.obj _ _ at2 b mb; Heap.lt_size e
  have old3 : ∀ b ∈ fp, FpOk X pins (upd H2 D (.dT [])) b ∧ b < s3.heap.objs.size := fun b mb => by
    have lb := low b mb
    exact ⟨⟨by rw [upd_ne (by rw [eD]; exact Nat.ne_of_lt lb)]; exact (old2 b mb).1, (old2 b mb).2⟩, by rw [big3]; exact Nat.lt_succ_of_lt lb⟩
  have at3 : tn 0 s3.heap := T.keep _ _ _ at2 fun b _ o e => push3 b o e
  generalize eH3 : upd H2 D (.dT []) = H3 at I3 old3 w0
  have I4 := block_start I3 ok hN old3
  obtain ⟨C, eC⟩ : ∃ C, C = s3.heap.objs.size := ⟨_, rfl⟩
  rw [← eC] at I4 ⊢
  obtain ⟨cl, ecl⟩ : ∃ cl, cl = cellsFrom (C + 1) scope.names (cloFrom X.env.cells scope.names []) := ⟨_, rfl⟩
  rw [← ecl] at I4 ⊢
  have pg := hg s3 H3 C cl fp
  have pt := ht s3 H3 C cl fp
  have pk := hk s3 H3 C cl fp
  have pe := he s3 H3 C cl fp
  show codeAny _ _ (.compStart (.DictComp kx vx [⟨tg, iter, ifs, 0⟩] scope pos) 0 (.ref it) (.ref D) (compEnvC scope cl C X.env)) (compPost (model X.prog X.w) X.A X.xe none (EP X pins σ Q) (.ref D) C) { s3 with heap := pushCells (s3.heap.push { cls := .type "dict", data := .dict #[] }) scope.names }
  have cL : (compEnvC scope cl C X.env).locals = C := rfl
  generalize compEnvC scope cl C X.env = ce at I4 pg pt pk pe cL ⊢
  obtain ⟨s4, es4⟩ : ∃ s4 : Shared, s4 = { s3 with heap := pushCells (s3.heap.push { cls := .type "dict", data := .dict #[] }) scope.names } := ⟨_, rfl⟩
  rw [← es4] at I4 ⊢
  have at4 : tn 0 s4.heap := T.keep _ _ _ at3 fun b _ o e => by rw [es4]; exact pushCells_keeps _ _ _ _ (Heap.get?_push_of_some _ e)
  have still : ∀ {σ' : L2.St} {H' : Hp} {s' : Shared}, Inv (X.blk s3 H3 scope ce fp) [] σ' H' s' → (∀ b ∈ fp, H' b = none) → ∀ b ∈ fp, FpOk (X.blk s3 H3 scope ce fp) [] H' b := fun {σ' H' s'} I' n b mb =>
    ⟨n b mb, (I'.ok.exf b mb).1, I'.ok.exfs b mb, .inl mb, fun x c e => (I'.ok.exf b mb).2 x c e, fun _ z => absurd z (by simp)⟩
  have runs : codeAny (model X.prog X.w) X.A (.compLoop (.DictComp kx vx [⟨tg, iter, ifs, 0⟩] scope pos) 0 (.ref it) (.ref D) ce) (compPost (model X.prog X.w) X.A X.xe none (EP X pins σ Q) (.ref D) C) s4 := by
    refine compLoop_anyD (fun n z => ∃ i H', Inv (X.blk s3 H3 scope ce fp) [] (wipe σ (own.map (·.2))) H' z ∧ tn i z.heap ∧ (∀ b ∈ fp, H' b = none) ∧ W i n H') ?_ m0 ⟨0, H3, I4, at4, fun b mb => (old3 b mb).1.1, w0⟩
    rintro n s5 ⟨i, H5, I5, at5, n5, w5⟩
    rcases turn i n H5 w5 with ⟨halt, qq⟩ | ⟨go, Nx, hNx, step⟩
    · refine thnF (T.done (X.blk s3 H3 scope ce fp) rfl rfl rfl hc i [] s5 _ H5 (fun _ _ => False) I5 (still I5 n5) at5 halt) fun r s6 ⟨hr, I6⟩ => ?_
      subst hr
      have I7 : Inv X pins σ H5 s6 := I3.call' (ch := fp) I6.os I6.base I6.hok I6.bare fun b mb =>
        have z := (old3 b mb).1.2
        ⟨z.2.2.1, z.1, z.2.2.2.1, z.2.2.2.2⟩
      have nC : H5 C = none := by
        have z : H5 ce.locals = none := I6.free
        rwa [cL] at z
      obtain ⟨m, hn, _⟩ := I6.loc
      have hn : s6.heap.Ns ce.locals m := hn
      rw [cL] at hn
      refine ⟨m, hn, fun h'' sb => ?_⟩
      obtain ⟨f0, f1, f2, f3, f4, f5⟩ := I3.fpOk (Nat.le_of_eq eC.symm) nC
      exact ⟨.ref D, H5, I7.turned (t' := s6.toks) (fun b o nb e => (sb.2 b nb).trans e) f0 f1 f3 f4 f5, rfl, qq⟩
    · refine thnF (T.item (X.blk s3 H3 scope ce fp) rfl rfl rfl hc i [] s5 _ H5 (fun _ _ => False) I5 (still I5 n5) at5 go) fun r s6 ⟨u, hr, h6⟩ => ?_
      subst hr
      refine thnF h6 fun _ s7 ⟨x, H7, I7, r7, y7, at7, n7⟩ => ?_
      refine thnF (pg.run _ s7 _ H7 x u _ (I7.pinned (still I7 n7) (T.obj _ _ at7)) r7 (step x H7 y7)) fun _ s8 ⟨σ8, H8, I8, w8, q8⟩ => ?_
      refine thnF (pt.run _ s8 σ8 H8 _ I8 q8) fun b s9 ⟨H9, I9, q9⟩ => ?_
      have ends : ∀ {s' : Shared} {H' : Hp}, Inv (X.blk s3 H3 scope ce fp) ([] ++ pinsAt fp s7.heap) σ8 H' s' → Nx H' → ∃ m, m < n ∧ ∃ i H', Inv (X.blk s3 H3 scope ce fp) [] (wipe σ (own.map (·.2))) H' s' ∧ tn i s'.heap ∧ (∀ b ∈ fp, H' b = none) ∧ W i m H' := fun {s' H'} I' nx => by
        obtain ⟨m', lt, w'⟩ := hNx H' nx
        have pin : ∀ b ∈ fp, ∀ o, s7.heap.get? b = some o → s'.heap.get? b = some o ∧ H' b = none := fun b mb o e =>
          let z := I'.pin (b, o) (List.mem_append_right _ (List.mem_append_right _ (mem_pinsAt mb e)))
          ⟨z.1, z.2.1⟩
        have len : (wipe σ (own.map (·.2))).length = σ8.length := by rw [← w8, wipe_length]
        refine ⟨m', lt, i + 1, H', (I'.unpinned (pins := [])).weak len (fun j v e => (wipe_some (by rw [← w8] at e; exact e)).1), T.keep _ _ _ at7 fun b mb o e => (pin b mb o e).1, fun b mb => ?_, w'⟩
        obtain ⟨o, e, _⟩ := T.obj _ _ at7 b mb
        exact (pin b mb o e).2
      cases b with
      | false =>
        simp only [Bool.false_eq_true, if_false] at q9 ⊢
        exact ends I9 q9
      | true =>
        simp only [if_true] at q9 ⊢
        refine thnF (pk.run _ s9 σ8 H9 _ I9 q9) fun z s10 ⟨yk, H10, I10, r10, q10⟩ => ?_
        refine thnF (pe.run _ s10 σ8 H10 _ I10 q10) fun z2 s11 ⟨yv, H11, I11, r11, kvs, k, bk, ek, hb, hD, hz, nx⟩ => ?_
        subst ek
        obtain rfl : z = Value.ref bk := r10
        exact d_dictSetT (X := X.blk s3 H3 scope ce fp) (show X.A.units < cLine by omega) I11 hD hz hb r11 fun s12 I12 => ends I12 nx
  exact codeAny_compStart_dict runs (T.self X.A 0 _ _ _ at4 runs)
theorem pe_dcR {k : Nat} (hr : Room k X.A) {kx vx tg iter : Expr} {ifs : List Expr} {scope : Scope} {own : List (PySem.Str × Nat)} {pos : Pos} {wi : TI} {g : TG} {tt : TT} {tk tv : TE} (hc : X.calm = true) (hN : X.N.Nodup) (hi : PI X tg iter wi) (ok : BlkOk X.N X.env.scope scope own)
    (hg : ∀ (s : Shared) (H : Hp) (C : Addr) (cl : List (PySem.Str × Addr)) (fp : List Addr), PG (X.blk s H scope (compEnvC scope cl C X.env) fp) tg g) (ht : ∀ (s : Shared) (H : Hp) (C : Addr) (cl : List (PySem.Str × Addr)) (fp : List Addr), PTs (X.blk s H scope (compEnvC scope cl C X.env) fp) ifs tt)
    (hk : ∀ (s : Shared) (H : Hp) (C : Addr) (cl : List (PySem.Str × Addr)) (fp : List Addr), PE (X.blk s H scope (compEnvC scope cl C X.env) fp) kx tk)
    (he : ∀ (s : Shared) (H : Hp) (C : Addr) (cl : List (PySem.Str × Addr)) (fp : List Addr), PE (X.blk s H scope (compEnvC scope cl C X.env) fp) vx tv) (hs : ∀ x, foldedSetIterable iter X.env x = pure x := by intro _; rfl) :
    PE X (.DictComp kx vx [⟨tg, iter, ifs, 0⟩] scope pos) (tDcT wi g tt tk tv (own.map (·.2))) := pe_dcT (by have := hr.un; omega) hc hN hi ok hg ht hk he hs
end
section
variable {X : Cx} {s : Shared} {H : Hp} {sc : Scope} {ce : Env} {fp : List Addr}
theorem pe_fldB {e : Expr} {f : Str} {pos : Pos} {ta : TE} (he : PE (X.blk s H sc ce fp) e ta) (hb : attributeBase e f (X.blk s H sc ce fp).env (eval e (X.blk s H sc ce fp).env) = eval e (X.blk s H sc ce fp).env) : PE (X.blk s H sc ce fp) (.Attribute e f pos) (tFld X.K ta f) := pe_fld he hb
theorem op_eqNB : OpR (X.blk s H sc ce fp) (compareOp .Eq) rEq := op_eq (X := X.blk s H sc ce fp)
end
theorem row_is (ps : List (List Int)) (v : V) (q : List Int) : (valV (rowKeys ps v) (ptKey q)).isSome = decide (q ∈ ps) := by
  unfold valV
  rw [Option.isSome_map, Bool.eq_iff_iff, decide_eq_true_eq, List.find?_isSome]
  constructor
  · rintro ⟨kv, m, e⟩
    obtain ⟨p, mp, rfl⟩ := List.mem_map.mp m
    rw [← ptKey_inj (of_decide_eq_true e)]
    exact mp
  · exact fun m => ⟨_, List.mem_map_of_mem m, decide_eq_true rfl⟩
theorem row_put {ps : List (List Int)} {v : V} {q : List Int} (n : q ∉ ps) : putK (rowKeys ps v) (ptKey q) v = rowKeys (ps ++ [q]) v := by
  unfold putK
  rw [if_neg]
  · show _ = List.map _ _
    rw [List.map_append]
    rfl
  · intro h
    obtain ⟨kv, m, e⟩ := List.any_eq_true.mp h
    obtain ⟨p, mp, rfl⟩ := List.mem_map.mp m
    exact n (by rw [← ptKey_inj (of_decide_eq_true e)]; exact mp)
end Q

set_option maxRecDepth 100000
set_option maxHeartbeats 4000000
namespace K07
open PySem PySem.Spec PyProof.Rows L2 Q RZ
section
variable {P : Program} {w : World} {K : PySem.W.Frag} {mg : Str → Option Value} {base : Heap} {f : Addr} {fd : FuncData}
def spPlace (K : PySem.W.Frag) : Sp := fun vs H Q _ => ∃ (a : Addr) (ys : List V) (cs : List Part) (k : Nat), vs = [.ref a] ∧ Sq K H a ys ∧ Paired (BoxV K H) ys cs ∧ cs ≠ [] ∧ (∀ c ∈ cs, OkP k c) ∧ 1 ≤ k ∧ k ≤ 3 ∧ (cs.flatMap sp).Nodup ∧ (cs.flatMap sp).length ≤ 1000 ∧
  ∀ l zs H', H l = none → L2.Same H H' → H' l = some (.lst zs) → Paired (ptRel H') zs ((cs.flatMap sp).mergeSort (PySem.W.dataLe false fun p : List Int => PyData.tuple (p.map PyData.int))) → Q (.ref l) H'
theorem C_place_rows (T : Tx K mg) : Cal P w K mg base CX0 3 "place_rows" ["place"] [] (spPlace K) := by
  obtain ⟨fd, F⟩ := T.d_place_rows
  have C_points_of := C_points_of (P := P) (w := w) (base := base) T
  refine ⟨_, fd, [], F.ok sc_place_rows (fun vs H Q E h => ?_) (fun cdv A outer s H vs Q E hr h => ?_), T.g_place_rows, F.kp, F.bindsN fun _ _ _ _ _ _ us hl => match us, hl with | [_], _ => rfl, .nil⟩
  · obtain ⟨a, ys, cs, k, rfl, _⟩ := h
    rfl
  · obtain ⟨a, ys, cs, k, rfl, hS, pB, ne, ok, k1, k3, nd, few, kQ⟩ := h
    refine ⟨_, PSs.nox (pss_cons (ps_if (PW.pt (pw_or (pt_not (pt_val (pe_callB call_isiT (by rfl) T.n_isinstance (by decide +kernel) (pa_cons (pv 0) (pa_cons (pe_tup (pa_cons (pe_bltn (v := .ty "list") (u := .type "list") (by rfl) T.n_list (by decide +kernel) rfl) (pa_cons (pe_bltn (v := .ty "tuple") (u := .type "tuple") (by rfl) T.n_tuple (by decide +kernel) rfl) pa_nil))) pa_nil))))) (pw_or1 (pt_cmpR op_eq (pe_callB call_len_seq (by rfl) T.n_len (by decide +kernel) (pa_cons (pv 0) pa_nil)) pe_int (nomark _)))))
        (pss_one L2.ps_never)
        pss_nil)
      (pss_cons (ps_if (pt_not (pt_val (pe_callB (cr_all rfl) (by rfl) T.n_all (by decide +kernel) (pa_cons (pe_lc (own := [("box", 1)]) (g := gName 1) (tt := tYes) (by rfl) sc_place_rows.nd (pi_seq (pv 0)) (blkOk_by (N := ["place", "box", "many", "found", "point"]) (sc := defScope s_place_rows) (by decide +kernel)) (fun _ _ _ _ _ => (pg_name (i := 1) sc_place_rows.nd rfl (Or.inl rfl))) (fun _ _ _ _ _ => pts_nil) (fun _ _ _ _ _ => (pe_callB call_isiB (by rfl) T.n_isinstance (by decide +kernel) (pa_cons (pv 1) (pa_cons (pe_glob (v := .ref (He.ga K "Box")) rfl T.g_Box rfl) pa_nil))))) pa_nil))))
        (pss_one L2.ps_never)
        pss_nil)
      (pss_cons (ps_set (i := 2) sc_place_rows.nd rfl (Or.inr rfl) (pe_callB call_len_seq (by rfl) T.n_len (by decide +kernel) (pa_cons (pe_fld (pe_ix ix_seq (pv 0) pe_int (fun _ _ => rfl)) rfl) pa_nil)))
      (pss_cons (ps_if (PW.pt (pw_or (pt_not (pt_chain op_le op_le pe_int (pv 2) pe_int)) (pw_or1 (pt_not (pt_val (pe_callB (cr_all rfl) (by rfl) T.n_all (by decide +kernel) (pa_cons (pe_lc (own := [("box", 1)]) (g := gName 1) (tt := tYes) (by rfl) sc_place_rows.nd (pi_seq (pv 0)) (blkOk_by (N := ["place", "box", "many", "found", "point"]) (sc := defScope s_place_rows) (by decide +kernel)) (fun _ _ _ _ _ => (pg_name (i := 1) sc_place_rows.nd rfl (Or.inl rfl))) (fun _ _ _ _ _ => pts_nil) (fun _ _ _ _ _ => (pe_cmpR op_eq (pe_callB call_len_seqB (by rfl) T.n_len (by decide +kernel) (pa_cons (pe_fldB (pv 1) rfl) pa_nil)) (pv 2) (nomark _)))) pa_nil)))))))
        (pss_one L2.ps_never)
        pss_nil)
      (pss_cons (ps_set (i := 3) sc_place_rows.nd rfl (Or.inl rfl) pe_dnewT)
      (pss_cons (ps_for PassesOwn.never rfl (pi_seq (pv 0)) (pg_name (i := 1) sc_place_rows.nd rfl (Or.inl rfl))
        (pss_one (ps_forG PassesOwn.never rfl (fun _ _ _ _ z => z) (hr.mono (by decide)) (pgn_cal C_points_of (hr.mono (by decide)) (pa_cons (pv 1) pa_nil)) (pg_name (i := 4) sc_place_rows.nd rfl (Or.inl rfl))
          (pss_cons (ps_if (pt_cmp (pc_din (hu_of hr) (pv 4) (pv 3)))
            (pss_one L2.ps_never)
            pss_nil)
          (pss_one (ps_asg pe_bl (pg_sub (pv 3) (pv 4) (set_dict (hu_of hr)))))))))
      (pss_one (ps_ret (pe_callB (cr_sortedDR hr rfl) (by rfl) T.n_sorted (by decide +kernel) (pa_cons (pv 3) pa_nil)))))))))), ?_⟩
    have big : 20000 < sizeLine := by decide
    have ly := paired_len pB
    have lcs := flat_count (f := sp) (l := cs) fun c m => by rw [spots_len]; exact cnt_pos (ok c m).2.1
    refine ⟨_, rfl, (by show 2 ≤ sizeLine; decide), fun p1 np1 => ?_⟩
    generalize hq_ : L2.upd H p1 _ = H1
    obtain ⟨s1, o1⟩ := _root_.Q.nwS np1 hq_
    clear hq_
    obtain ⟨T1, ty1, z1⟩ := sq_ty (hS.same s1)
    refine ⟨_, p1, _, _, _, _, rfl, o1, .cons (.ty _) (.cons (.ty _) .nil), ty1, z1, _, rfl, iteF ?_⟩
    refine ⟨_, rfl, _, _, rfl, hS.same s1, rfl, _, rfl, ite2 (fun c => ?_) (fun _ => ?_)⟩
    · have c := V.int.inj (of_decide_eq_true c)
      cases cs with
      | nil => exact absurd rfl ne
      | cons c cs => rw [List.length_cons] at ly; omega
    obtain ⟨kk, hB⟩ := hS.b
    -- every one a box
    refine ⟨_, rfl, a, ys, kk, rfl, hB.same s1, fun D nD => ?_⟩
    have sq_D : ∀ {Hd H' : Hp}, L2.Same H Hd → Hd D = none → (∀ b o, b ≠ D → Hd b = some o → H' b = some o) → L2.Same H H' := fun {Hd H'} s n k b o e => k b o (ne_of_none (s _ _ e) n) (s _ _ e)
    refine over_seq (xs := ys) (fun i H' => (∀ b o, b ≠ D → H1 b = some o → H' b = some o) ∧ H' D = some (.lst ((List.replicate i true).map V.bl))) ⟨fun b o nb e => by rw [upd_ne nb]; exact e, upd_same⟩ (fun i H' _ q => hB.same (fun b o e => q.1 b o (ne_of_none (s1 _ _ e) nD) (s1 _ _ e))) ?_ ?_
    · rintro i x H' ex ⟨kd, hD⟩
      have hi : i < cs.length := by
        have := (List.getElem?_eq_some_iff.mp ex).1
        omega
      have sm : L2.Same H H' := fun b o e => kd b o (ne_of_none (s1 _ _ e) nD) (s1 _ _ e)
      obtain ⟨x', ex', y, rfl, bx⟩ := paired_at pB i hi
      rw [ex] at ex'
      cases ex'
      obtain ⟨dy, tl, th, tt, fs, g1, g2, g3, g4, g5, g6, g7, g8, g9⟩ := bx.same sm
      refine ⟨rfl, _, rfl, _, _, _, _, _, rfl, .own _, T.is_Box.ty T.cls_Box g1, T.kit_Box_Box, _, hD, by ((try simp only [List.length_map, List.length_take, List.length_drop, List.length_append, List.length_cons, List.length_nil, List.length_zipWith, List.length_set, List.length_replicate, List.length_range]) <;> omega), fun b o nb e => by rw [upd_ne nb]; exact kd b o nb e, ?_⟩
      rw [upd_same, List.replicate_succ', List.map_append]
      rfl
    rintro H2 ⟨kd, hD⟩
    have s2 : L2.Same H H2 := fun b o e => kd b o (ne_of_none (s1 _ _ e) nD) (s1 _ _ e)
    refine ⟨D, List.replicate ys.length true, rfl, SqL.of hD, _, rfl, ?_⟩
    rw [show (List.replicate ys.length true).all id = true by simp]
    obtain ⟨c0, cr, ecs⟩ : ∃ c0 cr, cs = c0 :: cr := by
      cases cs with
      | nil => exact absurd rfl ne
      | cons c0 cr => exact ⟨c0, cr, rfl⟩
    have p0 : 0 < cs.length := by rw [ecs]; exact Nat.succ_pos _
    obtain ⟨x0, ex0, y0, rfl, bx0⟩ := paired_at pB 0 p0
    obtain ⟨dy, tl, th, tt, fs, g1, g2, g3, g4, g5, g6, g7, g8, g9⟩ := bx0.same s2
    have len_of : ∀ c ∈ cs, c.1.length = k := fun c m => (ok c m).1
    refine iteF ⟨_, rfl, rIx_sq (i := 0) (hS.same s2) ex0 ⟨y0, _, dy, _, _, rfl, g1, T.cls_Box, T.noat_Box_lows, g3, _, _, rfl, .inr g7, ?_⟩⟩
    have mk : (cs[0].1.map V.int).length = k := by rw [List.length_map]; exact len_of _ (List.getElem_mem p0)
    rw [mk]
    refine ⟨_, rfl, _, _, rfl, rfl, _, rfl, ite2 (fun _ => ?_) (fun e1 => absurd (decide_eq_true (by omega)) e1)⟩
    refine ⟨_, _, rfl, rfl, _, rfl, ?_⟩
    rw [show decide ((k : Int) ≤ 3) = true from decide_eq_true (by omega)]
    refine iteF ?_
    refine ⟨_, rfl, a, ys, kk, rfl, hB.same s2, fun D2 nD2 => ?_⟩
    refine over_seq (xs := ys) (fun i H' => (∀ b o, b ≠ D2 → H2 b = some o → H' b = some o) ∧ H' D2 = some (.lst ((List.replicate i true).map V.bl))) ⟨fun b o nb e => by rw [upd_ne nb]; exact e, upd_same⟩ (fun i H' _ q => hB.same (fun b o e => q.1 b o (ne_of_none (s2 _ _ e) nD2) (s2 _ _ e))) ?_ ?_
    · rintro i x H' ex ⟨kd2, hD2⟩
      have hi : i < cs.length := by
        have := (List.getElem?_eq_some_iff.mp ex).1
        omega
      have sm : L2.Same H H' := fun b o e => kd2 b o (ne_of_none (s2 _ _ e) nD2) (s2 _ _ e)
      obtain ⟨x', ex', y, rfl, bx⟩ := paired_at pB i hi
      rw [ex] at ex'
      cases ex'
      obtain ⟨dy, tl, th, tt, fs, g1, g2, g3, g4, g5, g6, g7, g8, g9⟩ := bx.same sm
      refine ⟨rfl, _, rfl, y, _, dy, _, _, rfl, g1, T.cls_Box, T.noat_Box_lows, g3, _, _, rfl, .inr g7, _, rfl, rfl, _, hD2, by ((try simp only [List.length_map, List.length_take, List.length_drop, List.length_append, List.length_cons, List.length_nil, List.length_zipWith, List.length_set, List.length_replicate, List.length_range]) <;> omega), fun b o nb e => by rw [upd_ne nb]; exact kd2 b o nb e, ?_⟩
      rw [upd_same, List.length_map, len_of _ (List.getElem_mem hi), decide_eq_true rfl, List.replicate_succ', List.map_append]
      rfl
    rintro H3 ⟨kd3, hD3⟩
    have s3 : L2.Same H H3 := fun b o e => kd3 b o (ne_of_none (s2 _ _ e) nD2) (s2 _ _ e)
    refine ⟨D2, List.replicate ys.length true, rfl, SqL.of hD3, _, rfl, ?_⟩
    rw [show (List.replicate ys.length true).all id = true by simp]
    refine iteF fun F0 nF => ?_
    generalize hq_ : L2.upd H3 F0 _ = H4
    obtain ⟨s4, o4⟩ := _root_.Q.nwS nF hq_
    clear hq_
    have s34 := s3.trans s4
    refine ⟨_, rfl, a, ys, kk, rfl, hB.same s34, ?_⟩
    have keepB : ∀ {H' : Hp}, (∀ b o, b ≠ F0 → H4 b = some o → H' b = some o) → L2.Same H H' := fun {H'} k b o e => k b o (ne_of_none (s3 _ _ e) nF) (s34 _ _ e)
    refine for_seq (xs := ys) (fun i σ H' => (∃ v1 v4, σ = [some (.ref a), v1, some (.int k), some (.ref F0), v4]) ∧ (∀ b o, b ≠ F0 → H4 b = some o → H' b = some o) ∧ H' F0 = some (.dT (rowKeys ((cs.take i).flatMap sp) (.bl true)))) ⟨⟨_, _, rfl⟩, fun _ _ _ e => e, o4⟩ (fun i σ H' _ q => hB.same (keepB q.2.1)) ?_ ?_
    · rintro i x σ H' ex ⟨⟨v1, v4, rfl⟩, kf, hF⟩
      have hi : i < cs.length := by
        have := (List.getElem?_eq_some_iff.mp ex).1
        omega
      obtain ⟨x', ex', y, rfl, bx⟩ := paired_at pB i hi
      rw [ex] at ex'
      cases ex'
      obtain ⟨q1, q2, q3, q4⟩ := ok _ (List.getElem_mem hi)
      have ft : (cs.take (i + 1)).flatMap sp = (cs.take i).flatMap sp ++ sp cs[i] := by
        rw [List.take_succ_eq_append_getElem hi, List.flatMap_append, List.flatMap_singleton]
      have ndt : ((cs.take i).flatMap sp ++ sp cs[i]).Nodup := by
        rw [← ft]
        refine List.Nodup.sublist ?_ nd
        conv => rhs; rw [← List.take_append_drop (i + 1) cs]
        rw [List.flatMap_append]
        exact List.sublist_append_left _ _
      have lnt : ((cs.take i).flatMap sp ++ sp cs[i]).length ≤ 1000 := by
        rw [← ft]
        refine Nat.le_trans ?_ few
        conv => rhs; rw [← List.take_append_drop (i + 1) cs]
        rw [List.flatMap_append, List.length_append]
        exact Nat.le_add_right _ _
      rw [List.length_append] at lnt
      generalize (cs.take i).flatMap sp = pre at hF ft ndt lnt
      refine ⟨_, rfl, _, _, ⟨y, cs[i].1, cs[i].2, rfl, within_low q2, by omega, rfl, rfl⟩, fun j σ H'' => (∃ v4, σ = [some (.ref a), some (.ref y), some (.int k), some (.ref F0), v4]) ∧ (∀ b o, b ≠ F0 → H4 b = some o → H'' b = some o) ∧ H'' F0 = some (.dT (rowKeys (pre ++ (sp cs[i]).take j) (.bl true))), ⟨⟨_, rfl⟩, kf, by rw [List.take_zero, List.append_nil]; exact hF⟩, ?_, ?_⟩
      · rintro j it σ H'' ej ⟨⟨v4, rfl⟩, kg, hG⟩
        refine ⟨bx.same (keepB kg), fun x H5 s5 hx => ?_⟩
        rw [List.getElem?_map] at ej
        obtain ⟨p, ep, rfl⟩ := Option.map_eq_some_iff.mp ej
        obtain ⟨t, rfl, ht⟩ := hx
        have hj : j < (sp cs[i]).length := (List.getElem?_eq_some_iff.mp ep).1
        have ep' : p = (sp cs[i])[j] := by
          rw [List.getElem?_eq_getElem hj] at ep
          exact (Option.some.inj ep).symm
        have et : (sp cs[i]).take (j + 1) = (sp cs[i]).take j ++ [p] := by rw [ep']; exact List.take_succ_eq_append_getElem hj
        have np : p ∉ pre ++ (sp cs[i]).take j := fun m => by
          have n2 : (pre ++ (sp cs[i]).take (j + 1)).Nodup := List.Nodup.sublist (List.Sublist.append (List.Sublist.refl _) (List.take_sublist _ _)) ndt
          rw [et, ← List.append_assoc] at n2
          exact (List.nodup_append.mp n2).2.2 p m p (List.mem_singleton.mpr rfl) rfl
        have hG5 := s5 _ _ hG
        have hk : H5 t = some (.tup ((ptKey p).map kV)) := by rw [ht, ptKey_kV]
        refine ⟨_, rfl, _, rfl, F0, _, rfl, DGet.t hG5 hk, _, rfl, ?_⟩
        rw [row_is, decide_eq_false np]
        have lt : (pre ++ (sp cs[i]).take j).length ≤ 1000 := by
          rw [List.length_append, List.length_take]
          omega
        refine iteF ⟨_, rfl, _, rfl, F0, _, rfl, .inr ⟨_, ptKey p, t, hG5, rfl, hk, by rw [List.length_map]; omega, rfl⟩, ?_⟩
        rw [row_put np]
        refine ⟨⟨_, rfl⟩, fun b o nb e => by rw [upd_ne nb]; exact s5 _ _ (kg b o nb e), ?_⟩
        rw [upd_same, et, List.append_assoc]
      · rintro σ H'' ⟨⟨v4, rfl⟩, kg, hG⟩
        refine ⟨bx.same (keepB kg), fun H5 s5 => ⟨⟨_, _, rfl⟩, fun b o nb e => s5 _ _ (kg b o nb e), ?_⟩⟩
        rw [List.length_map, List.take_length] at hG
        rw [ft]
        exact s5 _ _ hG
    · rintro σ H' ⟨⟨v1, v4, rfl⟩, kf, hF⟩
      rw [ly, List.take_length] at hF
      refine ⟨_, rfl, sortedDT_of hF nd (fun p m z => ?_) fun l zs nl pz => ?_⟩
      · obtain ⟨c, mc, mp⟩ := List.mem_flatMap.mp m
        have := ((mem_spots (ok c mc).2.1.len).mp mp).length.2
        rw [z, len_of c mc] at this
        have : 0 = k := this
        omega
      generalize hq_ : L2.upd H' l _ = H6
      obtain ⟨s6, o6⟩ := _root_.Q.nwS nl hq_
      clear hq_
      have sK := keepB kf
      exact kQ l zs H6 (none_same sK nl) (sK.trans s6) o6 (Paired.mapP pz fun _ _ z => z.nl (NL.same s6))

end
end K07

set_option maxRecDepth 100000
set_option maxHeartbeats 4000000
namespace K07
open PySem PySem.Spec PyProof.Rows L2 Q RZ
section
variable {P : Program} {w : World} {K : PySem.W.Frag} {mg : Str → Option Value} {base : Heap} {f : Addr} {fd : FuncData}
/-! ### is_whole, its bounds given or not -/
theorem ok_wholeG (T : Tx K mg) : ∃ fd, FnOk P w K mg base CX0 1 (He.ga K "is_whole") fd ["thing", "low", "high"] spWholeG ∧ FnP K "is_whole" "is_whole" s_is_whole [.non, .non] (He.ga K "is_whole") fd := by
  obtain ⟨fd, F⟩ := T.d_is_whole
  refine ⟨fd, F.ok sc_is_whole (fun vs H Q E h => ?_) (fun cdv A outer s H vs Q E hr h => ?_), F⟩
  · obtain ⟨v, lo, hi, t, rfl, _⟩ := h
    rfl
  · obtain ⟨v, lo, hi, t, rfl, kn, bl, bh, q⟩ := h
    refine ⟨_, PSs.nox (pss_cons (ps_if (PW.pt (pw_or (pt_not (pt_val (pe_callB call_isi (by rfl) T.n_isinstance (by decide +kernel) (pa_cons (pv 0) (pa_cons (pe_bltn (v := .ty "int") (u := .type "int") (by rfl) T.n_int (by decide +kernel) rfl) pa_nil))))) (pw_or1 (pt_val (pe_callB call_isi (by rfl) T.n_isinstance (by decide +kernel) (pa_cons (pv 0) (pa_cons (pe_bltn (v := .ty "bool") (u := .type "bool") (by rfl) T.n_bool (by decide +kernel) rfl) pa_nil)))))))
        (pss_one (ps_ret pe_bl))
        pss_nil)
      (pss_cons (ps_if (PW.pt (pw_and (pt_cmpR op_notN (pv 1) pe_non (nomark _)) (pw_and1 (pt_cmpR op_lt (pv 0) (pv 1) (nomark _)))))
        (pss_one (ps_ret pe_bl))
        pss_nil)
      (pss_one (ps_ret (pe_or (pe_cmpR op_isN (pv 2) pe_non (nomark _)) (pe_one (pe_cmpR op_le (pv 0) (pv 2) (nomark _)))))))), ?_⟩
    rcases kn.whole (K := K) with ⟨i, rfl, a1, a2⟩ | ⟨a, nv, no⟩
    · refine ⟨_, rfl, _, _, _, _, _, rfl, .ty _, kn.ty, a1, _, rfl, iteF ⟨_, rfl, _, _, _, _, _, rfl, .ty _, kn.ty, a2, _, rfl, iteF ?_⟩⟩
      have q' : Q (.bl (loB lo i && hiB hi i)) H := q
      rcases bl with rfl | ⟨l, rfl⟩
      · refine ⟨_, rfl, rfl, _, rfl, iteF ?_⟩
        rcases bh with rfl | ⟨h, rfl⟩
        · exact ⟨_, rfl, rfl, _, rfl, iteT q'⟩
        · exact ⟨_, rfl, rfl, _, rfl, iteF ⟨_, rfl, _, rfl, _, _, rfl, rfl, q'⟩⟩
      · refine ⟨_, rfl, rfl, _, rfl, iteT ⟨_, rfl, _, rfl, _, _, rfl, rfl, _, rfl, ite2 (fun c => ?_) (fun c => ?_)⟩⟩
        · have z := of_decide_eq_true c
          have e : loB (.int l) i = false := decide_eq_false (by omega)
          rw [e, Bool.false_and] at q'
          exact q'
        · have z : ¬ i < l := fun z => c (decide_eq_true z)
          have e : loB (.int l) i = true := decide_eq_true (by omega)
          rw [e, Bool.true_and] at q'
          rcases bh with rfl | ⟨h, rfl⟩
          · exact ⟨_, rfl, rfl, _, rfl, iteT q'⟩
          · exact ⟨_, rfl, rfl, _, rfl, iteF ⟨_, rfl, _, rfl, _, _, rfl, rfl, q'⟩⟩
    · rw [wholeG_no nv] at q
      rcases a with ⟨a1, a2⟩ | a1
      · exact ⟨_, rfl, _, _, _, _, _, rfl, .ty _, kn.ty, a1, _, rfl, iteF ⟨_, rfl, _, _, _, _, _, rfl, .ty _, kn.ty, a2, _, rfl, iteT q⟩⟩
      · exact ⟨_, rfl, _, _, _, _, _, rfl, .ty _, kn.ty, a1, _, rfl, iteT (iteT q)⟩
theorem C_is_wholeG (T : Tx K mg) : Cal P w K mg base CX0 1 "is_whole" ["thing", "low", "high"] [] spWholeG := by
  obtain ⟨fd, G, F⟩ := ok_wholeG (P := P) (w := w) (base := base) T
  obtain ⟨ds, v, b⟩ := F.binds1 (ps := ["thing", "low", "high"]) 3 2 (List.cons_ne_nil _ _) rfl fun _ _ _ _ _ _ _ us its hu hi => match us, hu, its, hi with | [_, _, _], _, [_, _], _ => ⟨_, rfl, rfl⟩
  exact ⟨_, fd, ds, G, T.g_is_whole, F.kp, b, v⟩
theorem C_is_whole2 (T : Tx K mg) : Cal P w K mg base CX0 1 "is_whole" ["thing", "low", "high"] [.non] spWholeG := by
  obtain ⟨fd, G, F⟩ := ok_wholeG (P := P) (w := w) (base := base) T
  obtain ⟨ds, v, b⟩ := F.binds1 (ps := ["thing", "low", "high"]) 2 1 (List.cons_ne_nil _ _) rfl fun _ _ _ _ _ _ _ us its hu hi => match us, hu, its, hi with | [_, _], _, [_, _], _ => ⟨_, rfl, rfl⟩
  exact ⟨_, fd, ds, G, T.g_is_whole, F.kp, b, v⟩
theorem C_is_whole1 (T : Tx K mg) : Cal P w K mg base CX0 1 "is_whole" ["thing", "low", "high"] [.non, .non] spWholeG := by
  obtain ⟨fd, G, F⟩ := ok_wholeG (P := P) (w := w) (base := base) T
  obtain ⟨ds, v, b⟩ := F.binds1 (ps := ["thing", "low", "high"]) 1 0 (List.cons_ne_nil _ _) rfl fun _ _ _ _ _ _ _ us its hu hi => match us, hu, its, hi with | [_], _, [_, _], _ => ⟨_, rfl, rfl⟩
  exact ⟨_, fd, ds, G, T.g_is_whole, F.kp, b, v⟩

/-- a mark handed in: a tuple of a row and a sign -/
abbrev Mark := List Int × Str
def rowX (K : PySem.W.Frag) (H : Hp) (s : Addr) (p : List Int) : Prop := SqL K H s (p.map V.int) ∨ H s = some (.tup (p.map V.int))
def entS (K : PySem.W.Frag) (H : Hp) (v : V) (c : Mark) : Prop := ∃ t s, v = .ref t ∧ SqT K H t [.ref s, .str c.2] ∧ rowX K H s c.1
def Signed (c : Mark) : Prop := c.2 = ("put" : Str) ∨ c.2 = ("gone" : Str)
/-- a mark as the page keeps it -/
def mkS (H : Hp) (v : V) (c : Mark) : Prop := ∃ t s, v = .ref t ∧ H t = some (.tup [.ref s, .str c.2]) ∧ H s = some (.tup (c.1.map V.int))
theorem rowX.same {H H' : Hp} {s : Addr} {p : List Int} (k : L2.Same H H') (h : rowX K H s p) : rowX K H' s p := h.imp (sqL_same k) (k _ _)
theorem rowX.sq {H : Hp} {s : Addr} {p : List Int} (h : rowX K H s p) : Sq K H s (p.map V.int) := h.imp id SqT.of
theorem entS.same {H H' : Hp} {v : V} {c : Mark} (k : L2.Same H H') (h : entS K H v c) : entS K H' v c := by
  obtain ⟨t, s, e, h1, h2⟩ := h
  exact ⟨t, s, e, sqT_same k h1, h2.same k⟩
theorem mkS.nl {H H' : Hp} {v : V} {c : Mark} (k : NL H H') (h : mkS H v c) : mkS H' v c := by
  obtain ⟨t, s, e, h1, h2⟩ := h
  exact ⟨t, s, e, k.tup h1, k.tup h2⟩
theorem tupX_of {H : Hp} {s : Addr} {p : List Int} {R : VK} (h : rowX K H s p) (q : ∀ l H', L2.Same H H' → H' l = some (.tup (p.map V.int)) → R (.ref l) H') : rTupOf K [.ref s] H R := by
  unfold rTupOf
  exact ⟨s, _, rfl, h.elim (fun z => .inl ⟨z, fun l nl => q l _ (same_new nl) upd_same⟩) (fun z => .inr ⟨SqT.of z, q s H (Same.refl _) z⟩)⟩
def spCouples (K : PySem.W.Frag) : Sp := fun vs H Q _ => ∃ (a : Addr) (es : List V) (cs : List Mark), vs = [.ref a, .ref (He.ga K "SIGNS")] ∧ Sq K H a es ∧ Paired (entS K H) es cs ∧ (∀ c ∈ cs, Signed c ∧ c.1.length ≤ 1000) ∧ cs.length ≤ 1000 ∧
  ∀ l us H', H l = none → L2.Same H H' → H' l = some (.lst us) → Paired (mkS H') us cs → Q (.ref l) H'
theorem C_checked_couples (T : Tx K mg) : Cal P w K mg base CX0 2 "checked_couples" ["entries", "signs"] [] (spCouples K) := by
  obtain ⟨fd, F⟩ := T.d_checked_couples
  have C_is_whole1 := C_is_whole1 (P := P) (w := w) (base := base) T
  refine ⟨_, fd, [], F.ok sc_checked_couples (fun vs H Q E h => ?_) (fun cdv A outer s H vs Q E hr h => ?_), T.g_checked_couples, F.kp, F.bindsN fun _ _ _ _ _ _ us hl => match us, hl with | [_, _], _ => rfl, .nil⟩
  · obtain ⟨a, es, cs, rfl, _⟩ := h
    rfl
  · obtain ⟨a, es, cs, rfl, hS, pE, sg, few, kQ⟩ := h
    refine ⟨_, PSs.nox (pss_cons (ps_if (pt_not (pt_val (pe_callB call_isiT (by rfl) T.n_isinstance (by decide +kernel) (pa_cons (pv 0) (pa_cons (pe_tup (pa_cons (pe_bltn (v := .ty "list") (u := .type "list") (by rfl) T.n_list (by decide +kernel) rfl) (pa_cons (pe_bltn (v := .ty "tuple") (u := .type "tuple") (by rfl) T.n_tuple (by decide +kernel) rfl) pa_nil))) pa_nil)))))
        (pss_one L2.ps_never)
        pss_nil)
      (pss_cons (ps_set (i := 2) sc_checked_couples.nd rfl (Or.inl rfl) (pe_lst pa_nil))
      (pss_cons (ps_for PassesOwn.never rfl (pi_seq (pv 0)) (pg_name (i := 3) sc_checked_couples.nd rfl (Or.inl rfl))
        (pss_cons (ps_if (PW.pt (pw_or (pt_not (pt_val (pe_callB call_isiT (by rfl) T.n_isinstance (by decide +kernel) (pa_cons (pv 3) (pa_cons (pe_tup (pa_cons (pe_bltn (v := .ty "list") (u := .type "list") (by rfl) T.n_list (by decide +kernel) rfl) (pa_cons (pe_bltn (v := .ty "tuple") (u := .type "tuple") (by rfl) T.n_tuple (by decide +kernel) rfl) pa_nil))) pa_nil))))) (pw_or1 (pt_cmpR op_ne (pe_callB call_len_seq (by rfl) T.n_len (by decide +kernel) (pa_cons (pv 3) pa_nil)) pe_int (nomark _)))))
          (pss_one L2.ps_never)
          pss_nil)
        (pss_cons (ps_asg (pv 3) (pg_tup rfl (pgs_cons (pg_name (i := 4) sc_checked_couples.nd rfl (Or.inl rfl)) (pgs_cons (pg_name (i := 5) sc_checked_couples.nd rfl (Or.inl rfl)) pgs_nil))))
        (pss_cons (ps_if (PW.pt (pw_or (pt_not (pt_val (pe_callB call_isiT (by rfl) T.n_isinstance (by decide +kernel) (pa_cons (pv 4) (pa_cons (pe_tup (pa_cons (pe_bltn (v := .ty "list") (u := .type "list") (by rfl) T.n_list (by decide +kernel) rfl) (pa_cons (pe_bltn (v := .ty "tuple") (u := .type "tuple") (by rfl) T.n_tuple (by decide +kernel) rfl) pa_nil))) pa_nil))))) (pw_or1 (pt_not (pt_val (pe_callB (cr_all rfl) (by rfl) T.n_all (by decide +kernel) (pa_cons (pe_lc (own := [("value", 6)]) (g := gName 6) (tt := tYes) (by rfl) sc_checked_couples.nd (pi_seq (pv 4)) (blkOk_by (N := ["entries", "signs", "found", "entry", "spot", "sign", "value"]) (sc := defScope s_checked_couples) (by decide +kernel)) (fun _ _ _ _ _ => (pg_name (i := 6) sc_checked_couples.nd rfl (Or.inl rfl))) (fun _ _ _ _ _ => pts_nil) (fun _ _ _ _ _ => (pe_cal C_is_whole1 (hr.mono (by decide)) pass0 (pa_cons (pv 6) pa_nil)))) pa_nil)))))))
          (pss_one L2.ps_never)
          pss_nil)
        (pss_cons (ps_if (pt_cmpR op_notIn_seq (pv 5) (pv 1) rfl)
          (pss_one L2.ps_never)
          pss_nil)
        (pss_one (ps_expr (pe_bm PySem.F.plainAttrs_list PySem.F.slot_list_append PySem.F.type_list_append mt_append (pv 2) (pa_cons (pe_tup (pa_cons (pe_callTy call_tupOf (by rfl) T.n_tuple (by decide +kernel) (pa_cons (pv 4) pa_nil)) (pa_cons (pv 5) pa_nil))) pa_nil)))))))))
      (pss_one (ps_ret (pv 2)))))), ?_⟩
    have big : 20000 < sizeLine := by decide
    have le := paired_len pE
    have hsg := T.t_SIGNS
    refine ⟨_, rfl, (by show 2 ≤ sizeLine; decide), fun p1 np1 => ?_⟩
    generalize hq_ : L2.upd H p1 _ = H1
    obtain ⟨s1, o1⟩ := _root_.Q.nwS np1 hq_
    clear hq_
    obtain ⟨T1, ty1, z1⟩ := sq_ty (hS.same s1)
    refine ⟨_, p1, _, _, _, _, rfl, o1, .cons (.ty _) (.cons (.ty _) .nil), ty1, z1, _, rfl, iteF ?_⟩
    refine ⟨Nat.zero_le _, fun F0 nF => ?_⟩
    generalize hq_ : L2.upd H1 F0 _ = H2
    obtain ⟨s2, o2⟩ := _root_.Q.nwS nF hq_
    clear hq_
    have s12 := s1.trans s2
    obtain ⟨kk, hB⟩ := hS.b
    have nFH := none_same s1 nF
    refine ⟨_, rfl, a, es, kk, rfl, hB.same s12, ?_⟩
    refine for_seq (xs := es) (fun i σ H' => (∃ v3 v4 v5, σ = [some (.ref a), some (.ref (He.ga K "SIGNS")), some (.ref F0), v3, v4, v5, none]) ∧ L2.Same H H' ∧ ∃ us, H' F0 = some (.lst us) ∧ Paired (mkS H') us (cs.take i)) ⟨⟨none, none, none, rfl⟩, s12, [], o2, .nil⟩ (fun i σ H' _ q => hB.same q.2.1) ?_ ?_
    · rintro i x σ H' ex ⟨⟨v3, v4, v5, rfl⟩, sm, us, hF, hU⟩
      have hi : i < cs.length := by
        have := (List.getElem?_eq_some_iff.mp ex).1
        omega
      obtain ⟨x', ex', t, s, rfl, ht, hs⟩ := paired_at (Paired.mapP pE fun _ _ z => z.same sm) i hi
      rw [ex] at ex'
      cases ex'
      refine ⟨_, rfl, (by show 2 ≤ sizeLine; decide), fun p2 np2 => ?_⟩
      generalize hq_ : L2.upd H' p2 _ = H3
      obtain ⟨s3, o3⟩ := _root_.Q.nwS np2 hq_
      clear hq_
      obtain ⟨T2, ty2, z2⟩ := sq_ty (K := K) (.inr (sqT_same s3 ht))
      refine ⟨_, p2, _, _, _, _, rfl, o3, .cons (.ty _) (.cons (.ty _) .nil), ty2, z2, _, rfl, iteF ?_⟩
      refine ⟨_, rfl, _, _, rfl, .inr (sqT_same s3 ht), rfl, _, rfl, iteF ?_⟩
      refine ⟨_, rfl, t, _, rfl, sqT_same s3 ht, rfl, _, _, rfl, _, _, rfl, rfl, ?_⟩
      refine ⟨_, rfl, (by show 2 ≤ sizeLine; decide), fun p3 np3 => ?_⟩
      generalize hq_ : L2.upd H3 p3 _ = H4
      obtain ⟨s4, o4⟩ := _root_.Q.nwS np3 hq_
      clear hq_
      have s34 := s3.trans s4
      have hs4 := hs.same s34
      obtain ⟨T3, ty3, z3⟩ := sq_ty hs4.sq
      refine ⟨_, p3, _, _, _, _, rfl, o4, .cons (.ty _) (.cons (.ty _) .nil), ty3, z3, _, rfl, iteF ?_⟩
      obtain ⟨k4, hB4⟩ := hs4.sq.b
      have lc := (sg _ (List.getElem_mem hi)).2
      refine ⟨_, rfl, s, _, k4, rfl, hB4, fun D nD => ?_⟩
      refine over_seq (xs := cs[i].1.map V.int) (fun j Hx => (∀ b o, b ≠ D → H4 b = some o → Hx b = some o) ∧ Hx D = some (.lst ((List.replicate j true).map V.bl))) ⟨fun b o nb e => by rw [upd_ne nb]; exact e, upd_same⟩ (fun j Hx _ q => hB4.same (fun b o e => q.1 b o (ne_of_none e nD) e)) ?_ ?_
      · rintro j x Hx ex2 ⟨kd, hD⟩
        have hj : j < cs[i].1.length := by
          have := (List.getElem?_eq_some_iff.mp ex2).1
          rw [List.length_map] at this
          exact this
        obtain ⟨z, rfl⟩ : ∃ z, x = .int z := by
          rw [List.getElem?_map, List.getElem?_eq_getElem hj] at ex2
          exact ⟨_, (Option.some.inj ex2).symm⟩
        refine ⟨rfl, _, rfl, .int z, .non, .non, "int", rfl, .int _, .inl rfl, .inl rfl, _, hD, by ((try simp only [List.length_map, List.length_take, List.length_drop, List.length_append, List.length_cons, List.length_nil, List.length_zipWith, List.length_set, List.length_replicate, List.length_range]) <;> omega), fun b o nb e => by rw [upd_ne nb]; exact kd b o nb e, ?_⟩
        rw [upd_same, List.replicate_succ', List.map_append]
        rfl
      rintro H5 ⟨kd, hD⟩
      have s5 : L2.Same H4 H5 := fun b o e => kd b o (ne_of_none e nD) e
      refine ⟨D, List.replicate _ true, rfl, SqL.of hD, _, rfl, ?_⟩
      rw [show (List.replicate (cs[i].1.map V.int).length true).all id = true by simp]
      refine iteF ?_
      have s35 := s34.trans s5
      have hs5 := hs4.same s5
      have inS : inV (.str cs[i].2) [V.str ("put" : Str), V.str ("gone" : Str)] = true := by
        rcases (sg _ (List.getElem_mem hi)).1 with h | h <;> rw [h] <;> decide +kernel
      refine ⟨_, rfl, _, rfl, _, _, rfl, .inr (hsg _), rfl, rfl, _, rfl, ite2 (fun e => ?_) (fun _ => ?_)⟩
      · have e : (!inV (.str cs[i].2) [V.str ("put" : Str), V.str ("gone" : Str)]) = true := e
        rw [inS] at e
        cases e
      have lu := paired_len hU
      rw [List.length_take] at lu
      refine ⟨_, rfl, .inl ⟨rfl, _, SqL.of (s35 _ _ hF)⟩, _, rfl, tupX_of hs5 fun q H6 s6 hq => ⟨_, rfl, (by show 2 ≤ sizeLine; omega), fun q2 nq2 => ?_⟩⟩
      generalize hq_ : L2.upd H6 q2 _ = H7
      obtain ⟨s7, o7⟩ := _root_.Q.nwS nq2 hq_
      clear hq_
      have s37 := (s35.trans s6).trans s7
      have hF7 := s37 _ _ hF
      refine ⟨F0, _, _, rfl, rfl, hF7, by omega, ?_⟩
      generalize hq_ : L2.upd H7 F0 _ = H8
      obtain ⟨u8, o8⟩ := _root_.Q.updS hq_
      clear hq_
      have nl8 := NL.put hF7 u8
      refine ⟨⟨_, _, _, rfl⟩, Same.put (sm.trans s37) nFH u8, _, o8, ?_⟩
      rw [List.take_succ_eq_append_getElem hi]
      exact Paired.snoc (Paired.mapP hU fun _ _ z => z.nl ((NL.same s37).trans nl8)) ⟨q2, q, rfl, nl8.tup o7, nl8.tup (s7 _ _ hq)⟩
    · rintro σ H' ⟨⟨v3, v4, v5, rfl⟩, sm, us, hF, hU⟩
      rw [le, List.take_length] at hU
      exact ⟨_, rfl, kQ F0 us H' nFH sm hF hU⟩

end
end K07

set_option maxRecDepth 100000
set_option maxHeartbeats 4000000
namespace K07
open PySem PySem.Spec PyProof.Rows L2 Q RZ
section
variable {P : Program} {w : World} {K : PySem.W.Frag} {mg : Str → Option Value} {base : Heap} {f : Addr} {fd : FuncData}
def markD (c : Mark) : PyData := .tuple [.tuple (c.1.map PyData.int), .str c.2]
theorem markD_two (c : Mark) : (markD c).depth = 2 := by
  unfold markD
  simp [PyData.depth, PyData.depthAll, PySem.W.depth_ints]
theorem mkS.dp {H : Hp} {v : V} {c : Mark} (h : mkS H v c) : Dp K H v (markD c) := by
  obtain ⟨t, s, rfl, h1, h2⟩ := h
  exact .tup (SqT.of h1) (.cons (dp_ints (SqT.of h2)) (.cons (.str _) .nil))
abbrev sortM (cs : List Mark) : List Mark := cs.mergeSort (PySem.W.dataLe false markD)
def spMarks (K : PySem.W.Frag) : Sp := fun vs H Q _ => ∃ (a : Addr) (es : List V) (cs : List Mark), vs = [.ref a] ∧ Sq K H a es ∧ Paired (entS K H) es cs ∧ (∀ c ∈ cs, Signed c ∧ c.1.length ≤ 1000) ∧ cs.length ≤ 300 ∧ (cs.map Prod.fst).Nodup ∧
  ∀ q us H', H q = none → L2.Same H H' → H' q = some (.tup us) → Paired (mkS H') us (sortM cs) → Q (.ref q) H'
theorem C_check_marks (T : Tx K mg) : Cal P w K mg base CX0 3 "check_marks" ["marks"] [] (spMarks K) := by
  obtain ⟨fd, F⟩ := T.d_check_marks
  have C_checked_couples := C_checked_couples (P := P) (w := w) (base := base) T
  refine ⟨_, fd, [], F.ok sc_check_marks (fun vs H Q E h => ?_) (fun cdv A outer s H vs Q E hr h => ?_), T.g_check_marks, F.kp, F.bindsN fun _ _ _ _ _ _ us hl => match us, hl with | [_], _ => rfl, .nil⟩
  · obtain ⟨a, es, cs, rfl, _⟩ := h
    rfl
  · obtain ⟨a, es, cs, rfl, hS, pE, sg, few, nd, kQ⟩ := h
    refine ⟨_, PSs.nox (pss_cons (ps_set (i := 1) sc_check_marks.nd rfl (Or.inl rfl) (pe_cal C_checked_couples (hr.mono (by decide)) pass0 (pa_cons (pv 0) (pa_cons (pe_glob (v := .ref (He.ga K "SIGNS")) rfl T.g_SIGNS rfl) pa_nil))))
      (pss_cons (ps_if (pt_cmpR op_ne (pe_callB call_lenG (by rfl) T.n_len (by decide +kernel) (pa_cons (pe_scR hr (own := [("spot", 2), ("sign", 3)]) (g := gTup K 2 (gCons (gName 2) (gCons (gName 3) gNil))) (tt := tYes) (by rfl) sc_check_marks.nd (pi_list (pv 1)) (blkOk_by (N := ["marks", "found", "spot", "sign"]) (sc := defScope s_check_marks) (by decide +kernel)) (fun _ _ _ _ _ => (pg_tup rfl (pgs_cons (pg_name (i := 2) sc_check_marks.nd rfl (Or.inl rfl)) (pgs_cons (pg_name (i := 3) sc_check_marks.nd rfl (Or.inl rfl)) pgs_nil)))) (fun _ _ _ _ _ => pts_nil) (fun _ _ _ _ _ => (pv 2))) pa_nil)) (pe_callB call_len_seq (by rfl) T.n_len (by decide +kernel) (pa_cons (pv 1) pa_nil)) (nomark _))
        (pss_one L2.ps_never)
        pss_nil)
      (pss_one (ps_ret (pe_callTy call_tupOf (by rfl) T.n_tuple (by decide +kernel) (pa_cons (pe_callB (cr_sortedR hr) (by rfl) T.n_sorted (by decide +kernel) (pa_cons (pv 1) pa_nil)) pa_nil)))))), ?_⟩
    have big : 20000 < sizeLine := by decide
    refine ⟨_, rfl, a, es, cs, rfl, hS, pE, sg, by omega, fun l us H1 nl s1 hl hU => ?_⟩
    have lu := paired_len hU
    refine ⟨_, rfl, l, rfl, ⟨_, SqL.of hl⟩, fun D nD => ?_⟩
    refine over_list (xs := us) (fun i H' => (∀ b o, b ≠ D → H1 b = some o → H' b = some o) ∧ ∃ L, H' D = some (SetG P w D L) ∧ (∀ p ∈ L, SqT K H' p.1 (p.2.map V.int)) ∧ (∀ p, p ∈ L.map (·.2) ↔ p ∈ (cs.take i).map Prod.fst) ∧ L.length = i) ⟨fun b o nb e => by rw [upd_ne nb]; exact e, [], upd_same, (fun _ z => nomatch z), (fun p => ⟨(fun z => nomatch z), (fun z => nomatch z)⟩), rfl⟩ (fun i H' _ q => SqL.of (q.1 _ _ (ne_of_none hl nD) hl)) ?_ ?_
    · rintro i x H' ex ⟨kd, L, hD, tup, mem, ln⟩
      have hi : i < cs.length := by
        have := (List.getElem?_eq_some_iff.mp ex).1
        omega
      have sm : L2.Same H1 H' := fun b o e => kd b o (ne_of_none e nD) e
      obtain ⟨x', ex', t, s, rfl, h1, h2⟩ := paired_at (Paired.mapP hU fun _ _ z => z.nl (NL.same sm)) i hi
      rw [ex] at ex'
      cases ex'
      have et : (cs.take (i + 1)).map Prod.fst = (cs.take i).map Prod.fst ++ [cs[i].1] := by
        rw [List.take_succ_eq_append_getElem hi, List.map_append]
        rfl
      have np : cs[i].1 ∉ L.map (·.2) := fun m => by
        have n2 : ((cs.take (i + 1)).map Prod.fst).Nodup := List.Nodup.sublist ((List.take_sublist _ _).map _) nd
        rw [et] at n2
        exact (List.nodup_append.mp n2).2.2 _ ((mem _).mp m) _ (List.mem_singleton.mpr rfl) rfl
      refine ⟨t, _, rfl, SqT.of h1, rfl, _, _, rfl, _, _, rfl, rfl, rfl, _, rfl, s, cs[i].1, L, rfl, SqT.of h2, hD, tup, by omega, fun L' _ e2 => ?_⟩
      have e2 := e2 np
      have upT : ∀ {t : Addr} {zs : List V}, SqT K H' t zs → SqT K (upd H' D (SetG P w D L')) t zs := fun {t zs} h => sqT_but (D := D) (fun b o nb e => by rw [upd_ne nb]; exact e) hD (fun _ z => by unfold SetG at z; cases z) (fun _ _ z => by unfold SetG at z; cases z) h
      refine ⟨fun b o nb e => by rw [upd_ne nb]; exact kd b o nb e, L', upd_same, fun p m => upT ?_, fun p => ?_, ?_⟩
      · rcases List.mem_cons.mp (e2.mem_iff.mp m) with rfl | m
        · exact SqT.of h2
        · exact tup p m
      · rw [et, List.mem_append, List.mem_singleton, (e2.map (·.2)).mem_iff, List.map_cons, List.mem_cons, mem p]
        exact ⟨fun z => z.symm, fun z => z.symm⟩
      · rw [e2.length_eq, List.length_cons, ln]
    rintro H2 ⟨kd, L, hD, tup, mem, ln⟩
    have s2 : L2.Same H1 H2 := fun b o e => kd b o (ne_of_none e nD) e
    have hl2 := s2 _ _ hl
    have hU2 := Paired.mapP hU fun _ _ z => z.nl (NL.same s2)
    refine ⟨D, L, rfl, hD, _, rfl, _, _, rfl, .inl (SqL.of hl2), rfl, _, rfl, ite2 (fun e => ?_) (fun _ => ?_)⟩
    · rw [ln, decide_eq_true rfl] at e
      cases e
    refine ⟨_, rfl, ?_⟩
    refine sortedD_of (R := mkS H2) (enc := markD) (SqL.of hl2) hU2 (fun v c _ z => z.dp) (.inl ⟨PySem.W.AllAlike.of fun c c' => ?_, .inl fun d hd => ?_⟩) (fun c _ => by rw [markD_two]; decide) fun l2 zs nl2 pz => ?_
    · unfold markD
      simp only [PySem.W.alike, PySem.W.alikeAll, PySem.W.alike_ints, Bool.and_self]
    · obtain ⟨c, _, rfl⟩ := List.mem_map.mp hd
      exact ⟨_, _, rfl⟩
    generalize hq_ : L2.upd H2 l2 _ = H3
    obtain ⟨s3, o3⟩ := _root_.Q.nwS nl2 hq_
    clear hq_
    refine tupOfL (SqL.of o3) fun q nq => ?_
    generalize hq_ : L2.upd H3 q _ = H4
    obtain ⟨s4, o4⟩ := _root_.Q.nwS nq hq_
    clear hq_
    have sE := (s1.trans s2).trans s3
    exact kQ q zs H4 (none_same sE nq) (sE.trans s4) o4 (Paired.mapP pz fun _ _ z => z.nl (NL.same (s3.trans s4)))

end
end K07

set_option maxRecDepth 100000
set_option maxHeartbeats 4000000
namespace K07
open PySem PySem.Spec PyProof.Rows L2 Q RZ
section
variable {P : Program} {w : World} {K : PySem.W.Frag} {mg : Str → Option Value} {base : Heap} {f : Addr} {fd : FuncData}
/-- the fields of a page as they are filled -/
theorem pf1_rows {tr : Addr} : (putF "rows" (V.ref tr) []).lookup ("rows" : Str) = some (V.ref tr) := by rw [lookup_putF, if_pos rfl]
theorem pf1_len {tr : Addr} : (putF "rows" (V.ref tr) []).length ≤ 1 := Nat.le_trans (length_putF _ _ _) (Nat.succ_le_succ (Nat.le_refl _))
theorem pf1_lows_no {tr : Addr} : (putF "rows" (V.ref tr) []).lookup ("lows" : Str) = none := by rw [lookup_putF, if_neg (by decide +kernel)]; rfl
theorem pf2_rows {tr tm : Addr} : (putF "marks" (V.ref tm) (putF "rows" (V.ref tr) [])).lookup ("rows" : Str) = some (V.ref tr) := by rw [lookup_putF, if_neg (by decide +kernel), lookup_putF, if_pos rfl]
theorem pf2_marks {tr tm : Addr} : (putF "marks" (V.ref tm) (putF "rows" (V.ref tr) [])).lookup ("marks" : Str) = some (V.ref tm) := by rw [lookup_putF, if_pos rfl]
theorem pf2_len {tr tm : Addr} : (putF "marks" (V.ref tm) (putF "rows" (V.ref tr) [])).length ≤ 2 := Nat.le_trans (length_putF _ _ _) (Nat.succ_le_succ pf1_len)
theorem pf2_lows_no {tr tm : Addr} : (putF "marks" (V.ref tm) (putF "rows" (V.ref tr) [])).lookup ("lows" : Str) = none := by rw [lookup_putF, if_neg (by decide +kernel), lookup_putF, if_neg (by decide +kernel)]; rfl
theorem pf3_rows {tr tm td : Addr} : (putF "signs" (V.ref td) (putF "marks" (V.ref tm) (putF "rows" (V.ref tr) []))).lookup ("rows" : Str) = some (V.ref tr) := by rw [lookup_putF, if_neg (by decide +kernel), lookup_putF, if_neg (by decide +kernel), lookup_putF, if_pos rfl]
theorem pf3_marks {tr tm td : Addr} : (putF "signs" (V.ref td) (putF "marks" (V.ref tm) (putF "rows" (V.ref tr) []))).lookup ("marks" : Str) = some (V.ref tm) := by rw [lookup_putF, if_neg (by decide +kernel), lookup_putF, if_pos rfl]
theorem pf3_signs {tr tm td : Addr} : (putF "signs" (V.ref td) (putF "marks" (V.ref tm) (putF "rows" (V.ref tr) []))).lookup ("signs" : Str) = some (V.ref td) := by rw [lookup_putF, if_pos rfl]
theorem pf3_len {tr tm td : Addr} : (putF "signs" (V.ref td) (putF "marks" (V.ref tm) (putF "rows" (V.ref tr) []))).length ≤ 3 := Nat.le_trans (length_putF _ _ _) (Nat.succ_le_succ pf2_len)
theorem pf3_lows_no {tr tm td : Addr} : (putF "signs" (V.ref td) (putF "marks" (V.ref tm) (putF "rows" (V.ref tr) []))).lookup ("lows" : Str) = none := by rw [lookup_putF, if_neg (by decide +kernel), lookup_putF, if_neg (by decide +kernel), lookup_putF, if_neg (by decide +kernel)]; rfl
theorem pf4_rows {tr tm td tp : Addr} : (putF "place" (V.ref tp) (putF "signs" (V.ref td) (putF "marks" (V.ref tm) (putF "rows" (V.ref tr) [])))).lookup ("rows" : Str) = some (V.ref tr) := by rw [lookup_putF, if_neg (by decide +kernel), lookup_putF, if_neg (by decide +kernel), lookup_putF, if_neg (by decide +kernel), lookup_putF, if_pos rfl]
theorem pf4_marks {tr tm td tp : Addr} : (putF "place" (V.ref tp) (putF "signs" (V.ref td) (putF "marks" (V.ref tm) (putF "rows" (V.ref tr) [])))).lookup ("marks" : Str) = some (V.ref tm) := by rw [lookup_putF, if_neg (by decide +kernel), lookup_putF, if_neg (by decide +kernel), lookup_putF, if_pos rfl]
theorem pf4_signs {tr tm td tp : Addr} : (putF "place" (V.ref tp) (putF "signs" (V.ref td) (putF "marks" (V.ref tm) (putF "rows" (V.ref tr) [])))).lookup ("signs" : Str) = some (V.ref td) := by rw [lookup_putF, if_neg (by decide +kernel), lookup_putF, if_pos rfl]
theorem pf4_place {tr tm td tp : Addr} : (putF "place" (V.ref tp) (putF "signs" (V.ref td) (putF "marks" (V.ref tm) (putF "rows" (V.ref tr) [])))).lookup ("place" : Str) = some (V.ref tp) := by rw [lookup_putF, if_pos rfl]
theorem pf4_len {tr tm td tp : Addr} : (putF "place" (V.ref tp) (putF "signs" (V.ref td) (putF "marks" (V.ref tm) (putF "rows" (V.ref tr) [])))).length ≤ 4 := Nat.le_trans (length_putF _ _ _) (Nat.succ_le_succ pf3_len)
theorem pf4_lows_no {tr tm td tp : Addr} : (putF "place" (V.ref tp) (putF "signs" (V.ref td) (putF "marks" (V.ref tm) (putF "rows" (V.ref tr) [])))).lookup ("lows" : Str) = none := by rw [lookup_putF, if_neg (by decide +kernel), lookup_putF, if_neg (by decide +kernel), lookup_putF, if_neg (by decide +kernel), lookup_putF, if_neg (by decide +kernel)]; rfl
theorem pf5_rows {tr tm td tp t0 : Addr} : (putF "first" (V.ref t0) (putF "place" (V.ref tp) (putF "signs" (V.ref td) (putF "marks" (V.ref tm) (putF "rows" (V.ref tr) []))))).lookup ("rows" : Str) = some (V.ref tr) := by rw [lookup_putF, if_neg (by decide +kernel), lookup_putF, if_neg (by decide +kernel), lookup_putF, if_neg (by decide +kernel), lookup_putF, if_neg (by decide +kernel), lookup_putF, if_pos rfl]
theorem pf5_marks {tr tm td tp t0 : Addr} : (putF "first" (V.ref t0) (putF "place" (V.ref tp) (putF "signs" (V.ref td) (putF "marks" (V.ref tm) (putF "rows" (V.ref tr) []))))).lookup ("marks" : Str) = some (V.ref tm) := by rw [lookup_putF, if_neg (by decide +kernel), lookup_putF, if_neg (by decide +kernel), lookup_putF, if_neg (by decide +kernel), lookup_putF, if_pos rfl]
theorem pf5_signs {tr tm td tp t0 : Addr} : (putF "first" (V.ref t0) (putF "place" (V.ref tp) (putF "signs" (V.ref td) (putF "marks" (V.ref tm) (putF "rows" (V.ref tr) []))))).lookup ("signs" : Str) = some (V.ref td) := by rw [lookup_putF, if_neg (by decide +kernel), lookup_putF, if_neg (by decide +kernel), lookup_putF, if_pos rfl]
theorem pf5_place {tr tm td tp t0 : Addr} : (putF "first" (V.ref t0) (putF "place" (V.ref tp) (putF "signs" (V.ref td) (putF "marks" (V.ref tm) (putF "rows" (V.ref tr) []))))).lookup ("place" : Str) = some (V.ref tp) := by rw [lookup_putF, if_neg (by decide +kernel), lookup_putF, if_pos rfl]
theorem pf5_first {tr tm td tp t0 : Addr} : (putF "first" (V.ref t0) (putF "place" (V.ref tp) (putF "signs" (V.ref td) (putF "marks" (V.ref tm) (putF "rows" (V.ref tr) []))))).lookup ("first" : Str) = some (V.ref t0) := by rw [lookup_putF, if_pos rfl]
theorem pf5_len {tr tm td tp t0 : Addr} : (putF "first" (V.ref t0) (putF "place" (V.ref tp) (putF "signs" (V.ref td) (putF "marks" (V.ref tm) (putF "rows" (V.ref tr) []))))).length ≤ 5 := Nat.le_trans (length_putF _ _ _) (Nat.succ_le_succ pf4_len)
theorem pf5_lows_no {tr tm td tp t0 : Addr} : (putF "first" (V.ref t0) (putF "place" (V.ref tp) (putF "signs" (V.ref td) (putF "marks" (V.ref tm) (putF "rows" (V.ref tr) []))))).lookup ("lows" : Str) = none := by rw [lookup_putF, if_neg (by decide +kernel), lookup_putF, if_neg (by decide +kernel), lookup_putF, if_neg (by decide +kernel), lookup_putF, if_neg (by decide +kernel), lookup_putF, if_neg (by decide +kernel)]; rfl
theorem pf6_rows {tr tm td tp t0 tt : Addr} : (putF "told" (V.ref tt) (putF "first" (V.ref t0) (putF "place" (V.ref tp) (putF "signs" (V.ref td) (putF "marks" (V.ref tm) (putF "rows" (V.ref tr) [])))))).lookup ("rows" : Str) = some (V.ref tr) := by rw [lookup_putF, if_neg (by decide +kernel), lookup_putF, if_neg (by decide +kernel), lookup_putF, if_neg (by decide +kernel), lookup_putF, if_neg (by decide +kernel), lookup_putF, if_neg (by decide +kernel), lookup_putF, if_pos rfl]
theorem pf6_marks {tr tm td tp t0 tt : Addr} : (putF "told" (V.ref tt) (putF "first" (V.ref t0) (putF "place" (V.ref tp) (putF "signs" (V.ref td) (putF "marks" (V.ref tm) (putF "rows" (V.ref tr) [])))))).lookup ("marks" : Str) = some (V.ref tm) := by rw [lookup_putF, if_neg (by decide +kernel), lookup_putF, if_neg (by decide +kernel), lookup_putF, if_neg (by decide +kernel), lookup_putF, if_neg (by decide +kernel), lookup_putF, if_pos rfl]
theorem pf6_signs {tr tm td tp t0 tt : Addr} : (putF "told" (V.ref tt) (putF "first" (V.ref t0) (putF "place" (V.ref tp) (putF "signs" (V.ref td) (putF "marks" (V.ref tm) (putF "rows" (V.ref tr) [])))))).lookup ("signs" : Str) = some (V.ref td) := by rw [lookup_putF, if_neg (by decide +kernel), lookup_putF, if_neg (by decide +kernel), lookup_putF, if_neg (by decide +kernel), lookup_putF, if_pos rfl]
theorem pf6_place {tr tm td tp t0 tt : Addr} : (putF "told" (V.ref tt) (putF "first" (V.ref t0) (putF "place" (V.ref tp) (putF "signs" (V.ref td) (putF "marks" (V.ref tm) (putF "rows" (V.ref tr) [])))))).lookup ("place" : Str) = some (V.ref tp) := by rw [lookup_putF, if_neg (by decide +kernel), lookup_putF, if_neg (by decide +kernel), lookup_putF, if_pos rfl]
theorem pf6_first {tr tm td tp t0 tt : Addr} : (putF "told" (V.ref tt) (putF "first" (V.ref t0) (putF "place" (V.ref tp) (putF "signs" (V.ref td) (putF "marks" (V.ref tm) (putF "rows" (V.ref tr) [])))))).lookup ("first" : Str) = some (V.ref t0) := by rw [lookup_putF, if_neg (by decide +kernel), lookup_putF, if_pos rfl]
theorem pf6_told {tr tm td tp t0 tt : Addr} : (putF "told" (V.ref tt) (putF "first" (V.ref t0) (putF "place" (V.ref tp) (putF "signs" (V.ref td) (putF "marks" (V.ref tm) (putF "rows" (V.ref tr) [])))))).lookup ("told" : Str) = some (V.ref tt) := by rw [lookup_putF, if_pos rfl]
theorem pf6_len {tr tm td tp t0 tt : Addr} : (putF "told" (V.ref tt) (putF "first" (V.ref t0) (putF "place" (V.ref tp) (putF "signs" (V.ref td) (putF "marks" (V.ref tm) (putF "rows" (V.ref tr) [])))))).length ≤ 6 := Nat.le_trans (length_putF _ _ _) (Nat.succ_le_succ pf5_len)
theorem pf6_lows_no {tr tm td tp t0 tt : Addr} : (putF "told" (V.ref tt) (putF "first" (V.ref t0) (putF "place" (V.ref tp) (putF "signs" (V.ref td) (putF "marks" (V.ref tm) (putF "rows" (V.ref tr) [])))))).lookup ("lows" : Str) = none := by rw [lookup_putF, if_neg (by decide +kernel), lookup_putF, if_neg (by decide +kernel), lookup_putF, if_neg (by decide +kernel), lookup_putF, if_neg (by decide +kernel), lookup_putF, if_neg (by decide +kernel), lookup_putF, if_neg (by decide +kernel)]; rfl
theorem pf6_holds_no {tr tm td tp t0 tt : Addr} : (putF "told" (V.ref tt) (putF "first" (V.ref t0) (putF "place" (V.ref tp) (putF "signs" (V.ref td) (putF "marks" (V.ref tm) (putF "rows" (V.ref tr) [])))))).lookup ("holds" : Str) = none := by rw [lookup_putF, if_neg (by decide +kernel), lookup_putF, if_neg (by decide +kernel), lookup_putF, if_neg (by decide +kernel), lookup_putF, if_neg (by decide +kernel), lookup_putF, if_neg (by decide +kernel), lookup_putF, if_neg (by decide +kernel)]; rfl
theorem pf6_mark_no {tr tm td tp t0 tt : Addr} : (putF "told" (V.ref tt) (putF "first" (V.ref t0) (putF "place" (V.ref tp) (putF "signs" (V.ref td) (putF "marks" (V.ref tm) (putF "rows" (V.ref tr) [])))))).lookup ("mark" : Str) = none := by rw [lookup_putF, if_neg (by decide +kernel), lookup_putF, if_neg (by decide +kernel), lookup_putF, if_neg (by decide +kernel), lookup_putF, if_neg (by decide +kernel), lookup_putF, if_neg (by decide +kernel), lookup_putF, if_neg (by decide +kernel)]; rfl
theorem pf6_with_marks_no {tr tm td tp t0 tt : Addr} : (putF "told" (V.ref tt) (putF "first" (V.ref t0) (putF "place" (V.ref tp) (putF "signs" (V.ref td) (putF "marks" (V.ref tm) (putF "rows" (V.ref tr) [])))))).lookup ("with_marks" : Str) = none := by rw [lookup_putF, if_neg (by decide +kernel), lookup_putF, if_neg (by decide +kernel), lookup_putF, if_neg (by decide +kernel), lookup_putF, if_neg (by decide +kernel), lookup_putF, if_neg (by decide +kernel), lookup_putF, if_neg (by decide +kernel)]; rfl

/-! ### what stands while an instance is filled -/
section
variable {H H' : Hp} {y C dy : Addr} {fs : List (Str × V)}
theorem ptRel.ny {v : V} {p : List Int} (k : ∀ b o, b ≠ y → H b = some o → H' b = some o) (hy : H y = some (.ins C dy fs)) (h : ptRel H v p) : ptRel H' v p := by
  obtain ⟨t, e, h⟩ := h
  exact ⟨t, e, k _ _ (fun z => by rw [z, hy] at h; cases h) h⟩
theorem sqT_ny {t : Addr} {xs : List V} (k : ∀ b o, b ≠ y → H b = some o → H' b = some o) (hy : H y = some (.ins C dy fs)) (h : SqT K H t xs) : SqT K H' t xs := sqT_but k hy (fun _ z => nomatch z) (fun _ _ z => nomatch z) h
theorem sqL_ny {t : Addr} {xs : List V} (k : ∀ b o, b ≠ y → H b = some o → H' b = some o) (hy : H y = some (.ins C dy fs)) (h : SqL K H t xs) : SqL K H' t xs := by
  rcases h with (h | ⟨o, h⟩) | h
  · exact .inl (.inl (k _ _ (fun z => by rw [z, hy] at h; cases h) h))
  · exact .inl (.inr ⟨o, k _ _ (fun z => by rw [z, hy] at h; cases h) h⟩)
  · exact .inr h
theorem sq_ny {t : Addr} {xs : List V} (k : ∀ b o, b ≠ y → H b = some o → H' b = some o) (hy : H y = some (.ins C dy fs)) (h : Sq K H t xs) : Sq K H' t xs := h.imp (sqL_ny k hy) (sqT_ny k hy)
theorem rowX.ny {s : Addr} {p : List Int} (k : ∀ b o, b ≠ y → H b = some o → H' b = some o) (hy : H y = some (.ins C dy fs)) (h : rowX K H s p) : rowX K H' s p := h.imp (sqL_ny k hy) fun h => k _ _ (fun z => by rw [z, hy] at h; cases h) h
theorem entS.ny {v : V} {c : Mark} (k : ∀ b o, b ≠ y → H b = some o → H' b = some o) (hy : H y = some (.ins C dy fs)) (h : entS K H v c) : entS K H' v c := by
  obtain ⟨t, s, e, h1, h2⟩ := h
  exact ⟨t, s, e, sqT_ny k hy h1, h2.ny k hy⟩
theorem mkS.ny {v : V} {c : Mark} (k : ∀ b o, b ≠ y → H b = some o → H' b = some o) (hy : H y = some (.ins C dy fs)) (h : mkS H v c) : mkS H' v c := by
  obtain ⟨t, s, e, h1, h2⟩ := h
  exact ⟨t, s, e, k _ _ (fun z => by rw [z, hy] at h1; cases h1) h1, k _ _ (fun z => by rw [z, hy] at h2; cases h2) h2⟩
theorem BoxV.ny {v : V} {c : Part} (k : ∀ b o, b ≠ y → H b = some o → H' b = some o) (hy : H y = some (.ins C dy fs)) (nl : fs.lookup ("lows" : Str) = none) (h : BoxV K H v c) : BoxV K H' v c := by
  obtain ⟨y', e, dy', tl, th, tt, fs', g1, g2, g3, g4, g5, g6, g7, g8, g9⟩ := h
  refine ⟨y', e, dy', tl, th, tt, fs', k _ _ (fun z => ?_) g1, g2, g3, g4, g5, g6, sqT_ny k hy g7, sqT_ny k hy g8, sqT_ny k hy g9⟩
  rw [z, hy] at g1
  cases g1
  rw [nl] at g3
  cases g3
end
/-- a couple of rows, anywhere -/
def CpS (K : PySem.W.Frag) (H : Hp) (v : V) (c : Part) : Prop := ∃ t tl th, v = .ref t ∧ SqT K H t [.ref tl, .ref th] ∧ SqT K H tl (c.1.map V.int) ∧ SqT K H th (c.2.map V.int)
theorem CpS.nl {H H' : Hp} {v : V} {c : Part} (k : NL H H') (h : CpS K H v c) : CpS K H' v c := by
  obtain ⟨t, tl, th, e, h1, h2, h3⟩ := h
  exact ⟨t, tl, th, e, k.sqT h1, k.sqT h2, k.sqT h3⟩
theorem CpS.ny {H H' : Hp} {y C dy : Addr} {fs : List (Str × V)} {v : V} {c : Part} (k : ∀ b o, b ≠ y → H b = some o → H' b = some o) (hy : H y = some (.ins C dy fs)) (h : CpS K H v c) : CpS K H' v c := by
  obtain ⟨t, tl, th, e, h1, h2, h3⟩ := h
  exact ⟨t, tl, th, e, sqT_ny k hy h1, sqT_ny k hy h2, sqT_ny k hy h3⟩
theorem CpS.dp {H : Hp} {v : V} {c : Part} (h : CpS K H v c) : Dp K H v (cutD c) := by
  obtain ⟨t, tl, th, rfl, h1, h2, h3⟩ := h
  exact .tup h1 (.cons (dp_ints h2) (.cons (dp_ints h3) .nil))
/-- a row's sign -/
def signV (ms : List Mark) (p : List Int) : V := match ms.find? fun c => decide (c.1 = p) with
  | some c => .str c.2
  | none => .non
def signsOf (ps : List (List Int)) (ms : List Mark) : List (List Key × V) := ps.map fun p => (ptKey p, signV ms p)
/-- a page at y: its rows and marks -/
def PageAt (K : PySem.W.Frag) (H : Hp) (y : Addr) (k : Nat) (ps : List (List Int)) (ms : List Mark) : Prop := ∃ (dy tr tm td tp t0 tt tq : Addr) (fs : List (Str × V)) (vr um ys uq : List V), H y = some (.ins (He.ga K "Page") dy fs) ∧
  (fs.length ≤ 20 ∧ fs.lookup ("holds" : Str) = none ∧ fs.lookup ("mark" : Str) = none ∧ fs.lookup ("with_marks" : Str) = none) ∧
  (fs.lookup ("rows" : Str) = some (.ref tr) ∧ fs.lookup ("marks" : Str) = some (.ref tm) ∧ fs.lookup ("signs" : Str) = some (.ref td) ∧ fs.lookup ("place" : Str) = some (.ref tp) ∧ fs.lookup ("first" : Str) = some (.ref t0) ∧ fs.lookup ("told" : Str) = some (.ref tt)) ∧
  (H tr = some (.tup vr) ∧ Paired (ptRel H) vr ps) ∧ (H tm = some (.tup um) ∧ Paired (mkS H) um ms) ∧ H td = some (.dT (signsOf ps ms)) ∧ (H tp = some (.tup ys) ∧ Paired (BoxV K H) ys (slabs k ps)) ∧ H t0 = some (.tup ((ps.getD 0 []).map V.int)) ∧ (H tt = some (.tup [.ref tq, .ref tm]) ∧ H tq = some (.tup uq) ∧ Paired (CpS K H) uq (slabs k ps))
theorem sign_none (p : List Int) : signV [] p = .non := rfl
theorem signs_none (ps : List (List Int)) : signsOf ps [] = rowKeys ps .non := rfl
theorem sign_put {ps : List (List Int)} {ms : List Mark} {c : Mark} (m : c.1 ∈ ps) (n : c.1 ∉ ms.map Prod.fst) : putK (signsOf ps ms) (ptKey c.1) (.str c.2) = signsOf ps (ms ++ [c]) := by
  unfold putK
  rw [if_pos]
  · unfold signsOf
    rw [List.map_map]
    refine List.map_congr_left fun p _ => ?_
    show (if ptKey p = ptKey c.1 then (ptKey p, V.str c.2) else (ptKey p, signV ms p)) = (ptKey p, signV (ms ++ [c]) p)
    unfold signV
    rw [List.find?_append]
    by_cases e : c.1 = p
    · subst e
      rw [if_pos rfl]
      have z : ms.find? (fun x => decide (x.1 = c.1)) = none := List.find?_eq_none.mpr fun x mx w => n (List.mem_map.mpr ⟨x, mx, of_decide_eq_true w⟩)
      rw [z, List.find?_cons_of_pos (p := fun x : Mark => decide (x.1 = c.1)) (decide_eq_true rfl)]
      rfl
    · rw [if_neg fun w => e (ptKey_inj w).symm, List.find?_cons_of_neg (p := fun x : Mark => decide (x.1 = p)) (fun w => e (of_decide_eq_true w)), List.find?_nil, Option.or_none]
  · exact List.any_eq_true.mpr ⟨(ptKey c.1, signV ms c.1), List.mem_map.mpr ⟨c.1, m, rfl⟩, decide_eq_true rfl⟩
theorem sign_is {ps : List (List Int)} {ms : List Mark} {q : List Int} (m : q ∈ ps) : (valV (signsOf ps ms) (ptKey q)).isSome = true := by
  unfold valV
  rw [Option.isSome_map, List.find?_isSome]
  exact ⟨_, List.mem_map.mpr ⟨q, m, rfl⟩, decide_eq_true rfl⟩

def spPageInit (K : PySem.W.Frag) : Sp := fun vs H Q _ => ∃ (y dy a m : Addr) (ys es : List V) (cs : List Part) (ms : List Mark) (ps : List (List Int)) (k : Nat), vs = [.ref y, .ref a, .ref m] ∧ H y = some (.ins (He.ga K "Page") dy []) ∧ Sq K H a ys ∧ Paired (BoxV K H) ys cs ∧ (∀ c ∈ cs, OkP k c) ∧
  Sq K H m es ∧ Paired (entS K H) es ms ∧ (∀ c ∈ ms, Signed c ∧ c.1 ∈ ps) ∧ ms.length ≤ 300 ∧ (ms.map Prod.fst).Nodup ∧ RowsK k ps ∧ 1 ≤ k ∧ k ≤ 3 ∧ ps ≠ [] ∧ ps.length ≤ 200 ∧ (cs.flatMap sp).Perm ps ∧
  ∀ H', (∀ b o, b ≠ y → H b = some o → H' b = some o) → PageAt K H' y k ps (sortM ms) → Q .non H'
theorem ok_pageinit (T : Tx K mg) : ∃ fd, FnOk P w K mg base (L2.CX P w) 6 (He.ma K (He.ga K "Page") "__init__") fd ["self", "place", "marks"] (spPageInit K) ∧ FnP K "__init__" "Page.__init__" s_Page___init__ [.ref (He.dflAt ("Page", some "__init__") 0 K)] (He.ma K (He.ga K "Page") "__init__") fd := by
  obtain ⟨fd, F⟩ := T.d_Page___init__
  have C_place_rows := C_place_rows (P := P) (w := w) (base := base) T
  have C_check_marks := C_check_marks (P := P) (w := w) (base := base) T
  have C_slabs_of := C_slabs_of (P := P) (w := w) (base := base) T
  refine ⟨fd, F.ok sc_Page___init__ (fun vs H Q E h => ?_) (fun cdv A outer s H vs Q E hr h => ?_), F⟩
  · obtain ⟨y, dy, a, m, ys, es, cs, ms, ps, k, rfl, _⟩ := h
    rfl
  · obtain ⟨y, dy, a, m, ys, es, cs, ms, ps, k, rfl, hy, hS, pB, ok, hM, pE, sg, fewm, ndm, RK, k1, k3, ne, few, pm, kQ⟩ := h
    refine ⟨_, PSs.nox (pss_cons (ps_fld (pv 0) (pe_callTy call_tupOf (by rfl) T.n_tuple (by decide +kernel) (pa_cons (pe_cal C_place_rows (hr.mono (by decide)) pass0 (pa_cons (pv 1) pa_nil)) pa_nil)) rfl)
      (pss_cons (ps_fld (pv 0) (pe_cal C_check_marks (hr.mono (by decide)) pass0 (pa_cons (pv 2) pa_nil)) rfl)
      (pss_cons (ps_fld (pv 0) (pe_dcR hr (own := [("row", 3)]) (g := gName 3) (tt := tYes) (by rfl) sc_Page___init__.nd (pi_tup (pe_fld (pv 0) rfl)) (blkOk_by (N := ["self", "place", "marks", "row", "sign", "box"]) (sc := defScope s_Page___init__) (by decide +kernel)) (fun _ _ _ _ _ => (pg_name (i := 3) sc_Page___init__.nd rfl (Or.inl rfl))) (fun _ _ _ _ _ => pts_nil) (fun _ _ _ _ _ => (pv 3)) (fun _ _ _ _ _ => pe_non)) rfl)
      (pss_cons (ps_for PassesOwn.never rfl (pi_tup (pe_fld (pv 0) rfl)) (pg_tup rfl (pgs_cons (pg_name (i := 3) sc_Page___init__.nd rfl (Or.inl rfl)) (pgs_cons (pg_name (i := 4) sc_Page___init__.nd rfl (Or.inl rfl)) pgs_nil)))
        (pss_cons (ps_if (pt_cmp (pc_dnotin (hu_of hr) (pv 3) (pe_fld (pv 0) rfl)))
          (pss_one L2.ps_never)
          pss_nil)
        (pss_one (ps_asg (pv 4) (pg_sub (pe_fld (pv 0) rfl) (pv 3) (set_dict (hu_of hr)))))))
      (pss_cons (ps_fld (pv 0) (pe_cal C_slabs_of (hr.mono (by decide)) pass0 (pa_cons (pe_fld (pv 0) rfl) pa_nil)) rfl)
      (pss_cons (ps_fld (pv 0) (pe_ix ix_tup (pe_fld (pv 0) rfl) pe_int (fun _ _ => rfl)) rfl)
      (pss_one (ps_fld (pv 0) (pe_tup (pa_cons (pe_callTy call_tupOf (by rfl) T.n_tuple (by decide +kernel) (pa_cons (pe_lc (own := [("box", 5)]) (g := gName 5) (tt := tYes) (by rfl) sc_Page___init__.nd (pi_tup (pe_fld (pv 0) rfl)) (blkOk_by (N := ["self", "place", "marks", "row", "sign", "box"]) (sc := defScope s_Page___init__) (by decide +kernel)) (fun _ _ _ _ _ => (pg_name (i := 5) sc_Page___init__.nd rfl (Or.inl rfl))) (fun _ _ _ _ _ => pts_nil) (fun _ _ _ _ _ => (pe_fldB (pv 5) rfl))) pa_nil)) (pa_cons (pe_fld (pv 0) rfl) pa_nil))) rfl)))))))), ?_⟩
    have big : 20000 < sizeLine := by decide
    have psn : ps.Nodup := List.Pairwise.imp (S := fun a b => a ≠ b) (fun {a b} h e => lex_irr a (by rw [← e] at h; exact h)) RK.asc
    have ndf : (cs.flatMap sp).Nodup := pm.nodup_iff.mpr psn
    have cne : cs ≠ [] := fun z => by
      rw [z] at pm
      exact ne (List.Perm.nil_eq pm).symm
    have lps := pm.length_eq
    -- self.rows
    refine ⟨_, rfl, a, ys, cs, k, rfl, hS, pB, cne, ok, k1, k3, ndf, by omega, fun l zs H1 nl s1 hl hz => tupOfL (SqL.of hl) fun tr ntr => ?_⟩
    rw [sort_pts ndf RK.asc fun x => pm.mem_iff] at hz
    generalize hq_ : L2.upd H1 tr _ = H2
    obtain ⟨s2, o2⟩ := _root_.Q.nwS ntr hq_
    clear hq_
    have s12 := s1.trans s2
    refine ⟨_, rfl, y, _, dy, _, rfl, s12 _ _ hy, T.cls_Page, T.noat_Page_rows, by decide, ?_⟩
    generalize hq_ : L2.upd H2 y _ = H3
    obtain ⟨u3, o3⟩ := _root_.Q.updS hq_
    clear hq_
    have hy2 := s12 _ _ hy
    have vr3 : H3 tr = some (.tup zs) := u3 _ _ (fun z => by rw [z, hy2] at o2; cases o2) o2
    have pr3 : Paired (ptRel H3) zs ps := Paired.mapP hz fun _ _ z => ptRel.ny u3 hy2 (z.nl (NL.same s2))
    have k3' : ∀ b o, b ≠ y → H b = some o → H3 b = some o := fun b o nb e => u3 _ _ nb (s12 _ _ e)
    have lz := paired_len pr3
    -- self.marks
    refine ⟨_, rfl, m, es, ms, rfl, sq_ny k3' hy hM, Paired.mapP pE fun _ _ z => z.ny k3' hy, fun c mc => ⟨(sg c mc).1, by rw [RK.len _ (sg c mc).2]; omega⟩, fewm, ndm, fun tm um H4 ntm s4 htm hum => ?_⟩
    have hy4 := s4 _ _ o3
    refine ⟨_, rfl, y, _, dy, _, rfl, hy4, T.cls_Page, T.noat_Page_marks, Nat.lt_of_le_of_lt pf1_len (by decide), ?_⟩
    generalize hq_ : L2.upd H4 y _ = H5
    obtain ⟨u5, o5⟩ := _root_.Q.updS hq_
    clear hq_
    have vr5 : H5 tr = some (.tup zs) := u5 _ _ (fun z => by rw [z, o3] at vr3; cases vr3) (s4 _ _ vr3)
    have pr5 : Paired (ptRel H5) zs ps := Paired.mapP pr3 fun _ _ z => ptRel.ny u5 hy4 (z.nl (NL.same s4))
    have vm5 : H5 tm = some (.tup um) := u5 _ _ (fun z => by rw [z, hy4] at htm; cases htm) htm
    have pm5 : Paired (mkS H5) um (sortM ms) := Paired.mapP hum fun _ _ z => z.ny u5 hy4
    have k5 : ∀ b o, b ≠ y → H b = some o → H5 b = some o := fun b o nb e => u5 _ _ nb (s4 _ _ (k3' b o nb e))
    -- self.signs
    refine ⟨_, rfl, y, _, dy, _, _, rfl, o5, T.cls_Page, T.noat_Page_rows, pf2_rows, tr, rfl, ⟨_, SqT.of vr5⟩, fun D nD => ?_⟩
    have nDH : H D = none := by
      cases z : H D with
      | none => rfl
      | some o =>
        by_cases e : D = y
        · rw [e, o5] at nD
          cases nD
        · rw [k5 _ _ e z] at nD
          cases nD
    have sD : ∀ {H' : Hp}, (∀ b o, b ≠ D → H5 b = some o → H' b = some o) → L2.Same H5 H' := fun {H'} q b o e => q b o (ne_of_none e nD) e
    refine over_it (walk_tup (K := K) (a := tr) (xs := zs)) (fun i H' => (∀ b o, b ≠ D → H5 b = some o → H' b = some o) ∧ H' D = some (.dT (rowKeys (ps.take i) .non))) ⟨fun b o nb e => by rw [upd_ne nb]; exact e, upd_same⟩ (fun i H' _ q => SqT.of (sD q.1 _ _ vr5)) ?_ ?_
    · rintro i x H' ex ⟨kd, hD⟩
      have hi : i < ps.length := by
        have := (List.getElem?_eq_some_iff.mp ex).1
        omega
      obtain ⟨x', ex', t, rfl, ht⟩ := paired_at (Paired.mapP pr5 fun _ _ z => z.nl (NL.same (sD kd))) i hi
      rw [ex] at ex'
      cases ex'
      have et : ps.take (i + 1) = ps.take i ++ [ps[i]] := List.take_succ_eq_append_getElem hi
      have np : ps[i] ∉ ps.take i := fun w => by
        have n2 : (ps.take (i + 1)).Nodup := List.Nodup.sublist (List.take_sublist _ _) psn
        rw [et] at n2
        exact (List.nodup_append.mp n2).2.2 _ w _ (List.mem_singleton.mpr rfl) rfl
      refine ⟨rfl, _, rfl, _, ptKey ps[i], t, rfl, by rw [ht, ptKey_kV], hD, by ((try simp only [List.length_map, List.length_take, List.length_drop, List.length_append, List.length_cons, List.length_nil, List.length_zipWith, List.length_set, List.length_replicate, List.length_range]) <;> omega), fun b o nb e => by rw [upd_ne nb]; exact kd b o nb e, ?_⟩
      rw [upd_same, row_put np, et]
    rintro H6 ⟨kd6, hD6⟩
    rw [lz, List.take_length] at hD6
    have s6 := sD kd6
    have hy6 := s6 _ _ o5
    refine ⟨_, rfl, y, _, dy, _, rfl, hy6, T.cls_Page, T.noat_Page_signs, Nat.lt_of_le_of_lt pf2_len (by decide), ?_⟩
    generalize hq_ : L2.upd H6 y _ = H7
    obtain ⟨u7, o7⟩ := _root_.Q.updS hq_
    clear hq_
    have vr7 : H7 tr = some (.tup zs) := u7 _ _ (fun z => by rw [z, o5] at vr5; cases vr5) (s6 _ _ vr5)
    have pr7 : Paired (ptRel H7) zs ps := Paired.mapP pr5 fun _ _ z => ptRel.ny u7 hy6 (z.nl (NL.same s6))
    have vm7 : H7 tm = some (.tup um) := u7 _ _ (fun z => by rw [z, o5] at vm5; cases vm5) (s6 _ _ vm5)
    have pm7 : Paired (mkS H7) um (sortM ms) := Paired.mapP pm5 fun _ _ z => (z.nl (NL.same s6)).ny u7 hy6
    have Dy : D ≠ y := fun z => by rw [z, hy6] at hD6; cases hD6
    have hD7 := u7 _ _ Dy hD6
    have k7 : ∀ b o, b ≠ y → H b = some o → H7 b = some o := fun b o nb e => u7 _ _ nb (s6 _ _ (k5 b o nb e))
    have pmM : (sortM ms).Perm ms := List.mergeSort_perm _ _
    have lum := paired_len pm7
    -- the signs of the marks
    refine ⟨_, rfl, y, _, dy, _, _, rfl, o7, T.cls_Page, T.noat_Page_marks, pf3_marks, tm, rfl, ⟨_, SqT.of vm7⟩, ?_⟩
    have butD : ∀ {H' : Hp} {t : Addr} {xs : List V}, (∀ b o, b ≠ D → H7 b = some o → H' b = some o) → H7 t = some (.tup xs) → H' t = some (.tup xs) := fun {H' t xs} q e => q _ _ (fun z => by rw [z, hD7] at e; cases e) e
    have ndS : ((sortM ms).map Prod.fst).Nodup := (pmM.map Prod.fst).nodup_iff.mpr ndm
    generalize sortM ms = sm at pm7 pmM lum ndS kQ
    refine for_tup (xs := um) (fun i σ H' => (∃ v3 v4, σ = [some (.ref y), some (.ref a), some (.ref m), v3, v4, none]) ∧ (∀ b o, b ≠ D → H7 b = some o → H' b = some o) ∧ H' D = some (.dT (signsOf ps (sm.take i)))) ⟨⟨none, none, rfl⟩, fun _ _ _ e => e, hD7⟩ (fun i σ H' _ q => SqT.of (butD q.2.1 vm7)) ?_ ?_
    · rintro i x σ H' ex ⟨⟨v3, v4, rfl⟩, kd, hD⟩
      have hi : i < sm.length := by
        have := (List.getElem?_eq_some_iff.mp ex).1
        omega
      obtain ⟨x', ex', t, s', rfl, h1, h2⟩ := paired_at pm7 i hi
      rw [ex] at ex'
      cases ex'
      have hy' : H' y = some (.ins (He.ga K "Page") dy _) := kd _ _ Dy.symm o7
      have et : sm.take (i + 1) = sm.take i ++ [sm[i]] := List.take_succ_eq_append_getElem hi
      have inP : sm[i].1 ∈ ps := (sg _ (pmM.mem_iff.mp (List.getElem_mem hi))).2
      have np : sm[i].1 ∉ (sm.take i).map Prod.fst := fun w => by
        have n2 : ((sm.take (i + 1)).map Prod.fst).Nodup := List.Nodup.sublist ((List.take_sublist _ _).map _) ndS
        rw [et, List.map_append] at n2
        exact (List.nodup_append.mp n2).2.2 _ w _ (List.mem_singleton.mpr rfl) rfl
      have hk : H' s' = some (.tup ((ptKey sm[i].1).map kV)) := by rw [butD kd h2, ptKey_kV]
      refine ⟨t, _, rfl, SqT.of (butD kd h1), rfl, _, _, rfl, _, _, rfl, rfl, ?_⟩
      refine ⟨_, rfl, _, rfl, y, _, dy, _, _, rfl, hy', T.cls_Page, T.noat_Page_signs, pf3_signs, D, _, rfl, DGet.t hD hk, _, rfl, ?_⟩
      rw [sign_is inP]
      refine iteF ⟨_, rfl, _, rfl, y, _, dy, _, _, rfl, hy', T.cls_Page, T.noat_Page_signs, pf3_signs, _, rfl, D, _, rfl, .inr ⟨_, ptKey sm[i].1, s', hD, rfl, hk, by unfold signsOf; ((try simp only [List.length_map, List.length_take, List.length_drop, List.length_append, List.length_cons, List.length_nil, List.length_zipWith, List.length_set, List.length_replicate, List.length_range]) <;> omega), rfl⟩, ?_⟩
      rw [sign_put inP np]
      refine ⟨⟨_, _, rfl⟩, fun b o nb e => by rw [upd_ne nb]; exact kd b o nb e, ?_⟩
      rw [upd_same, et]
    rintro σ H8 ⟨⟨v3, v4, rfl⟩, kd8, hD8⟩
    rw [lum, List.take_length] at hD8
    have hy8 := kd8 _ _ Dy.symm o7
    have vr8 := butD kd8 vr7
    have vm8 := butD kd8 vm7
    have pr8 : Paired (ptRel H8) zs ps := Paired.mapP pr7 fun _ _ z => by
      obtain ⟨t, e, h⟩ := z
      exact ⟨t, e, butD kd8 h⟩
    have pm8 : Paired (mkS H8) um sm := Paired.mapP pm7 fun _ _ z => by
      obtain ⟨t, s, e, h1, h2⟩ := z
      exact ⟨t, s, e, butD kd8 h1, butD kd8 h2⟩
    have k8 : ∀ b o, b ≠ y → H b = some o → H8 b = some o := fun b o nb e => kd8 _ _ (fun z => by rw [z, nDH] at e; cases e) (k7 b o nb e)
    have keepT : ∀ {Ha Hb : Hp} {fs : List (Str × V)} {t : Addr} {xs : List V}, (∀ b o, b ≠ y → Ha b = some o → Hb b = some o) → Ha y = some (.ins (He.ga K "Page") dy fs) → Ha t = some (.tup xs) → Hb t = some (.tup xs) := fun {Ha Hb fs t xs} q hy e => q _ _ (fun z => by rw [z, hy] at e; cases e) e
    -- self.place
    refine ⟨_, rfl, y, _, dy, _, _, rfl, hy8, T.cls_Page, T.noat_Page_rows, pf3_rows, tr, zs, ps, ps, k, rfl, .inr (SqT.of vr8), Paired.mapP pr8 fun _ _ z => ?_, fun _ => Iff.rfl, RK, k1, k3, few, fun tp yb H9 ntp s9 htp hyb => ?_⟩
    · obtain ⟨t, e, h⟩ := z
      exact ⟨t, e, .inr (SqT.of h)⟩
    have hy9 := s9 _ _ hy8
    refine ⟨_, rfl, y, _, dy, _, rfl, hy9, T.cls_Page, T.noat_Page_place, Nat.lt_of_le_of_lt pf3_len (by decide), ?_⟩
    generalize hq_ : L2.upd H9 y _ = H10
    obtain ⟨u10, o10⟩ := _root_.Q.updS hq_
    clear hq_
    have vr10 := keepT u10 hy9 (s9 _ _ vr8)
    have vm10 := keepT u10 hy9 (s9 _ _ vm8)
    have vp10 := keepT u10 hy9 htp
    have hD10 := u10 _ _ Dy (s9 _ _ hD8)
    have pr10 : Paired (ptRel H10) zs ps := Paired.mapP pr8 fun _ _ z => ptRel.ny u10 hy9 (z.nl (NL.same s9))
    have pm10 : Paired (mkS H10) um sm := Paired.mapP pm8 fun _ _ z => (z.nl (NL.same s9)).ny u10 hy9
    have pp10 : Paired (BoxV K H10) yb (slabs k ps) := Paired.mapP hyb fun _ _ z => z.ny u10 hy9 pf3_lows_no
    have k10 : ∀ b o, b ≠ y → H b = some o → H10 b = some o := fun b o nb e => u10 _ _ nb (s9 _ _ (k8 b o nb e))
    have p0 : 0 < ps.length := List.length_pos_iff.mpr ne
    obtain ⟨x0, ex0, t0, rfl, ht0⟩ := paired_at pr10 0 p0
    have e0 : ps.getD 0 [] = ps[0] := by rw [List.getD_eq_getElem?_getD, List.getElem?_eq_getElem p0]; rfl
    -- self.first
    refine ⟨_, rfl, y, _, dy, _, _, rfl, o10, T.cls_Page, T.noat_Page_rows, pf4_rows, tr, _, _, _, rfl, rfl, SqT.of vr10, atI_nat (j := 0) ex0, _, rfl, y, _, dy, _, rfl, o10, T.cls_Page, T.noat_Page_first, Nat.lt_of_le_of_lt pf4_len (by decide), ?_⟩
    generalize hq_ : L2.upd H10 y _ = H11
    obtain ⟨u11, o11⟩ := _root_.Q.updS hq_
    clear hq_
    have vr11 := keepT u11 o10 vr10
    have vm11 := keepT u11 o10 vm10
    have vp11 := keepT u11 o10 vp10
    have v011 := keepT u11 o10 ht0
    have hD11 := u11 _ _ Dy hD10
    have pr11 : Paired (ptRel H11) zs ps := Paired.mapP pr10 fun _ _ z => ptRel.ny u11 o10 z
    have pm11 : Paired (mkS H11) um sm := Paired.mapP pm10 fun _ _ z => z.ny u11 o10
    have pp11 : Paired (BoxV K H11) yb (slabs k ps) := Paired.mapP pp10 fun _ _ z => z.ny u11 o10 pf4_lows_no
    have k11 : ∀ b o, b ≠ y → H b = some o → H11 b = some o := fun b o nb e => u11 _ _ nb (k10 b o nb e)
    -- self.told
    have fs := slabs_few RK
    refine ⟨_, rfl, y, _, dy, _, _, rfl, o11, T.cls_Page, T.noat_Page_place, pf5_place, tp, rfl, ⟨_, SqT.of vp11⟩, fun E0 nE => ?_⟩
    refine lc_eachT (S := fun H v c => BoxV K H v c) (f := fun c => c) (R := fun H v c => CpS K H v c) (fun _ _ _ _ k z => z.nl k) (fun _ _ _ _ k z => z.nl k) nE (SqT.of vp11) pp11 (by omega) (fun x c Hx R' N sx ec k => ?_) fun H12 uq s12' hU pU => ?_
    · obtain ⟨y', rfl, dy', tl, th, tt, fs', g1, g2, g3, g4, g5, g6, g7, g8, g9⟩ := ec
      exact ⟨rfl, _, rfl, y', _, dy', _, _, rfl, g1, T.cls_Box, T.noat_Box_told, g5, k _ _ (Same.refl _) ⟨tt, tl, th, rfl, g9, g7, g8⟩⟩
    rw [List.map_id'] at pU
    refine tupOfL (SqL.of hU) fun tq ntq => ?_
    generalize hq_ : L2.upd H12 tq _ = H13
    obtain ⟨s13, o13⟩ := _root_.Q.nwS ntq hq_
    clear hq_
    have s1113 := s12'.trans s13
    refine ⟨_, rfl, y, _, dy, _, _, rfl, s1113 _ _ o11, T.cls_Page, T.noat_Page_marks, pf5_marks, (by show 2 ≤ sizeLine; omega), fun tt ntt => ?_⟩
    generalize hq_ : L2.upd H13 tt _ = H14
    obtain ⟨s14, o14⟩ := _root_.Q.nwS ntt hq_
    clear hq_
    have sX := s1113.trans s14
    have hy14 := sX _ _ o11
    refine ⟨_, rfl, y, _, dy, _, rfl, hy14, T.cls_Page, T.noat_Page_told, Nat.lt_of_le_of_lt pf5_len (by decide), ?_⟩
    generalize hq_ : L2.upd H14 y _ = H15
    obtain ⟨u15, o15⟩ := _root_.Q.updS hq_
    clear hq_
    refine kQ H15 (fun b o nb e => u15 _ _ nb (sX _ _ (k11 b o nb e))) ⟨dy, tr, tm, D, tp, t0, tt, tq, _, zs, um, yb, uq, o15, ⟨Nat.le_trans pf6_len (by decide), pf6_holds_no, pf6_mark_no, pf6_with_marks_no⟩, ⟨pf6_rows, pf6_marks, pf6_signs, pf6_place, pf6_first, pf6_told⟩, ?_⟩
    refine ⟨⟨keepT u15 hy14 (sX _ _ vr11), Paired.mapP pr11 fun _ _ z => ptRel.ny u15 hy14 (z.nl (NL.same sX))⟩, ⟨keepT u15 hy14 (sX _ _ vm11), Paired.mapP pm11 fun _ _ z => (z.nl (NL.same sX)).ny u15 hy14⟩, u15 _ _ Dy (sX _ _ hD11), ⟨keepT u15 hy14 (sX _ _ vp11), Paired.mapP pp11 fun _ _ z => (z.nl (NL.same sX)).ny u15 hy14 pf5_lows_no⟩, ?_, keepT u15 hy14 o14, keepT u15 hy14 (s14 _ _ o13), Paired.mapP pU fun _ _ z => (z.nl (NL.same (s13.trans s14))).ny u15 hy14⟩
    rw [e0]
    exact keepT u15 hy14 (sX _ _ v011)

end
end K07

set_option maxRecDepth 100000
set_option maxHeartbeats 4000000
namespace K07
open PySem PySem.Spec PyProof.Rows L2 Q RZ
section
variable {P : Program} {w : World} {K : PySem.W.Frag} {mg : Str → Option Value} {base : Heap} {f : Addr} {fd : FuncData}
/-! ### pages as data -/
theorem eqvT_pts (ps qs : List (List Int)) : PyData.eqv (.tuple (ps.map ptD)) (.tuple (qs.map ptD)) = decide (ps = qs) := eqvAll_pts ps qs
theorem shapedT_pts (ps : List (List Int)) : SeqAt.shaped (.tuple (ps.map ptD)) = true := by
  show (PyData.canLayAll0 (ps.map ptD) && decide (PyData.depthAll (ps.map ptD) + 1 ≤ 64)) = true
  have := depth_pts ps
  rw [lay_pts, decide_eq_true (by omega)]
  rfl
theorem dpT_pts {H : Hp} {t : Addr} {vs : List V} {ps : List (List Int)} (ht : H t = some (.tup vs)) (h : Paired (ptRel H) vs ps) : Dp K H (.ref t) (.tuple (ps.map ptD)) := .tup (SqT.of ht) (dpAll_pts (Paired.mapP h fun _ _ z => ptS_of z))
theorem eqv_markD (c d : Mark) : PyData.eqv (markD c) (markD d) = decide (c = d) := by
  obtain ⟨c1, c2⟩ := c
  obtain ⟨d1, d2⟩ := d
  unfold markD
  have h1 : PyData.eqv (.tuple (c1.map PyData.int)) (.tuple (d1.map PyData.int)) = decide (c1 = d1) := eqvAll_ints c1 d1
  show PyData.eqvAll [_, _] [_, _] = _
  simp only [PyData.eqvAll, h1]
  show (decide (c1 = d1) && (decide (c2 = d2) && true)) = _
  rw [Bool.eq_iff_iff]
  simp
theorem eqvAll_marks : ∀ cs ds : List Mark, PyData.eqvAll (cs.map markD) (ds.map markD) = decide (cs = ds)
  | [], [] => by simp [PyData.eqvAll]
  | [], _ :: _ => by simp [PyData.eqvAll]
  | _ :: _, [] => by simp [PyData.eqvAll]
  | c :: cs, d :: ds => by
    have h2 := eqvAll_marks cs ds
    rw [List.map_cons, List.map_cons]
    simp only [PyData.eqvAll, eqv_markD, h2]
    rw [Bool.eq_iff_iff]
    simp
theorem eqvT_marks (cs ds : List Mark) : PyData.eqv (.tuple (cs.map markD)) (.tuple (ds.map markD)) = decide (cs = ds) := eqvAll_marks cs ds
theorem lay_marks : ∀ cs : List Mark, (∀ c ∈ cs, Signed c) → PyData.canLayAll0 (cs.map markD) = true
  | [], _ => rfl
  | c :: cs, sg => by
    have h0 : PyData.strOk c.2 = true := by
      rcases sg c List.mem_cons_self with e | e <;> rw [e] <;> decide +kernel
    have h1 : PyData.canLay0 (markD c) = true := by
      unfold markD
      simp only [PyData.canLay0, PyData.canLayAll0, lay_ints, h0, Bool.and_self]
    rw [List.map_cons]
    simp only [PyData.canLayAll0, h1, lay_marks cs (fun c m => sg c (List.mem_cons_of_mem _ m)), Bool.and_self]
theorem depth_marks : ∀ cs : List Mark, PyData.depthAll (cs.map markD) ≤ 2
  | [] => by simp [PyData.depthAll]
  | c :: cs => by
    have h1 := markD_two c
    have h2 := depth_marks cs
    rw [List.map_cons]
    simp only [PyData.depthAll]
    omega
theorem shapedT_marks (cs : List Mark) (sg : ∀ c ∈ cs, Signed c) : SeqAt.shaped (.tuple (cs.map markD)) = true := by
  show (PyData.canLayAll0 (cs.map markD) && decide (PyData.depthAll (cs.map markD) + 1 ≤ 64)) = true
  have := depth_marks cs
  rw [lay_marks cs sg, decide_eq_true (by omega)]
  rfl
theorem dpAll_marks {H : Hp} {vs : List V} {cs : List Mark} (h : Paired (mkS H) vs cs) : DpAll K H vs (cs.map markD) := by
  induction h with
  | nil => exact .nil
  | cons a _ ih => exact .cons a.dp ih
theorem dpT_marks {H : Hp} {t : Addr} {vs : List V} {cs : List Mark} (ht : H t = some (.tup vs)) (h : Paired (mkS H) vs cs) : Dp K H (.ref t) (.tuple (cs.map markD)) := .tup (SqT.of ht) (dpAll_marks h)
/-- couples and marks: what told holds -/
def toldD (cs : List Part) (ms : List Mark) : PyData := .tuple [.tuple (cs.map cutD), .tuple (ms.map markD)]
theorem eqv_toldD (cs ds : List Part) (ms ns : List Mark) : PyData.eqv (toldD cs ms) (toldD ds ns) = (decide (cs = ds) && decide (ms = ns)) := by
  unfold toldD
  show PyData.eqvAll [_, _] [_, _] = _
  have h1 : PyData.eqv (.tuple (cs.map cutD)) (.tuple (ds.map cutD)) = decide (cs = ds) := eqvAll_cuts cs ds
  simp only [PyData.eqvAll, h1, eqvT_marks, Bool.and_true]
theorem shaped_toldD (cs : List Part) (ms : List Mark) (sg : ∀ c ∈ ms, Signed c) : SeqAt.shaped (toldD cs ms) = true := by
  show (PyData.canLayAll0 [PyData.tuple (cs.map cutD), .tuple (ms.map markD)] && decide (PyData.depthAll [PyData.tuple (cs.map cutD), .tuple (ms.map markD)] + 1 ≤ 64)) = true
  have h1 := depth_cuts cs
  have h2 := depth_marks ms
  have h3 : PyData.canLayAll0 [PyData.tuple (cs.map cutD), .tuple (ms.map markD)] = true := by
    simp only [PyData.canLayAll0, PyData.canLay0, lay_cuts, lay_marks ms sg, Bool.and_self]
  rw [h3, decide_eq_true]
  · rfl
  · simp only [PyData.depthAll, PyData.depth]
    omega
theorem dpAll_cutsS {H : Hp} {vs : List V} {cs : List Part} (h : Paired (CpS K H) vs cs) : DpAll K H vs (cs.map cutD) := by
  induction h with
  | nil => exact .nil
  | cons a _ ih => exact .cons a.dp ih
theorem dp_toldD {H : Hp} {t q m : Addr} {us ws : List V} {cs : List Part} {ms : List Mark} (ht : SqT K H t [.ref q, .ref m]) (hq : SqT K H q us) (pc : Paired (CpS K H) us cs) (hm : SqT K H m ws) (pm : Paired (mkS H) ws ms) : Dp K H (.ref t) (toldD cs ms) :=
  .tup ht (.cons (.tup hq (dpAll_cutsS pc)) (.cons (.tup hm (dpAll_marks pm)) .nil))
theorem CpS.of {H : Hp} {v : V} {c : Part} (h : CpAt K H v c) : CpS K H v c := by
  obtain ⟨t, tl, th, e, h1, h2, h3⟩ := h
  exact ⟨t, tl, th, e, SqT.of h1, h2, h3⟩
theorem PageAt.nl {H H' : Hp} {y : Addr} {k : Nat} {ps : List (List Int)} {ms : List Mark} (s : L2.Same H H') (h : PageAt K H y k ps ms) : PageAt K H' y k ps ms := by
  obtain ⟨dy, tr, tm, td, tp, t0, tt, tq, fs, vr, um, ys, uq, g1, g2, g3, ⟨a1, a2⟩, ⟨b1, b2⟩, c1, ⟨d1, d2⟩, e1, f1, f2, f3⟩ := h
  exact ⟨dy, tr, tm, td, tp, t0, tt, tq, fs, vr, um, ys, uq, s _ _ g1, g2, g3, ⟨s _ _ a1, Paired.mapP a2 fun _ _ z => z.nl (NL.same s)⟩, ⟨s _ _ b1, Paired.mapP b2 fun _ _ z => z.nl (NL.same s)⟩, s _ _ c1, ⟨s _ _ d1, Paired.mapP d2 fun _ _ z => z.nl (NL.same s)⟩, s _ _ e1, s _ _ f1, s _ _ f2, Paired.mapP f3 fun _ _ z => z.nl (NL.same s)⟩
/-! ### Page.__eq__ -/
def spPageEq (K : PySem.W.Frag) : Sp := fun vs H Q _ => ∃ (a b : Addr) (k k' : Nat) (ps qs : List (List Int)) (ms ns : List Mark), vs = [.ref a, .ref b] ∧ PageAt K H a k ps ms ∧ PageAt K H b k' qs ns ∧ (∀ c ∈ ms, Signed c) ∧ (∀ c ∈ ns, Signed c) ∧ Q (.bl (decide (ps = qs) && decide (ms = ns))) H
theorem ok_pageeq (T : Tx K mg) : ∃ fd, FnOk P w K mg base (L2.CX P w) 1 (He.ma K (He.ga K "Page") "__eq__") fd ["self", "other"] (spPageEq K) ∧ Binds K fd ["self", "other"] [] := by
  obtain ⟨fd, F⟩ := T.d_Page___eq__
  refine ⟨fd, F.ok sc_Page___eq__ (fun vs H Q E h => ?_) (fun cdv A outer s H vs Q E hr h => ?_), F.bindsN fun _ _ _ _ _ _ us hl => match us, hl with | [_, _], _ => rfl⟩
  · obtain ⟨a, b, k, k', ps, qs, ms, ns, rfl, _⟩ := h
    rfl
  · obtain ⟨a, b, k, k', ps, qs, ms, ns, rfl, b1, b2, sg, sg', q⟩ := h
    obtain ⟨dy, tr, tm, td, tp, t0, tt, tq, fs, vr, um, ys, uq, g1, g2, ⟨r1, m1, _⟩, ⟨a1, a2⟩, ⟨c1, c2⟩, _⟩ := id b1
    obtain ⟨dy', tr', tm', td', tp', t0', tt', tq', fs', vr', um', ys', uq', j1, j2, ⟨r2, m2, _⟩, ⟨e1, e2⟩, ⟨f1, f2⟩, _⟩ := id b2
    refine ⟨_, PSs.nox (pss_one (ps_ret (pe_and (pe_callB call_isi (by rfl) T.n_isinstance (by decide +kernel) (pa_cons (pv 1) (pa_cons (pe_glob (v := .ref (He.ga K "Page")) rfl T.g_Page rfl) pa_nil))) (pe_and (pe_cmpR (op_eqD hr.units) (pe_fld (pv 0) rfl) (pe_fld (pv 1) rfl) (nomark _)) (pe_one (pe_cmpR (op_eqD hr.units) (pe_fld (pv 0) rfl) (pe_fld (pv 1) rfl) (nomark _))))))), ?_⟩
    refine ⟨_, rfl, _, _, _, _, _, rfl, .own _, T.is_Page.ty T.cls_Page j1, T.kit_Page_Page, _, rfl, iteT ?_⟩
    refine ⟨_, rfl, a, _, dy, _, _, rfl, g1, T.cls_Page, T.noat_Page_rows, r1, _, rfl, b, _, dy', _, _, rfl, j1, T.cls_Page, T.noat_Page_rows, r2, _, _, dpT_pts a1 a2, dpT_pts e1 e2, shapedT_pts _, shapedT_pts _, _, rfl, ?_⟩
    rw [eqvT_pts]
    refine ite2 (fun c => ?_) (fun c => ?_)
    · refine ⟨_, rfl, a, _, dy, _, _, rfl, g1, T.cls_Page, T.noat_Page_marks, m1, _, rfl, b, _, dy', _, _, rfl, j1, T.cls_Page, T.noat_Page_marks, m2, _, _, dpT_marks c1 c2, dpT_marks f1 f2, shapedT_marks _ sg, shapedT_marks _ sg', ?_⟩
      rw [eqvT_marks]
      rw [c, Bool.true_and] at q
      exact q
    · rw [Bool.eq_false_iff.mpr c, Bool.false_and] at q
      exact q
/-- a new page -/
theorem make_page {H1 : Hp} {x dx : Addr} {a m : Addr} {ys es : List V} {cs : List Part} {ms : List Mark} {ps : List (List Int)} {k : Nat} {Q : VK} {E : XK} (nx : H1 x = none) (nd' : H1 dx = none) (ne' : dx ≠ x) (ha : Sq K H1 a ys) (hb : Paired (BoxV K H1) ys cs) (ok : ∀ c ∈ cs, OkP k c) (hm : Sq K H1 m es) (he : Paired (entS K H1) es ms) (sg : ∀ c ∈ ms, Signed c ∧ c.1 ∈ ps) (few : ms.length ≤ 300) (nd : (ms.map Prod.fst).Nodup)
    (RK : RowsK k ps) (k1 : 1 ≤ k) (k3 : k ≤ 3) (ne : ps ≠ []) (fewp : ps.length ≤ 200) (pm : (cs.flatMap sp).Perm ps) (kq : ∀ H2, L2.Same H1 H2 → PageAt K H2 x k ps (sortM ms) → Q .non H2) :
    spPageInit K [.ref x, .ref a, .ref m] (upd (upd H1 dx (.own x)) x (.ins (He.ga K "Page") dx [])) Q E := by
  have s1 : L2.Same H1 (upd (upd H1 dx (.own x)) x (.ins (He.ga K "Page") dx [])) := (same_new nd').trans (same_new (by rw [upd_ne ne'.symm]; exact nx))
  exact ⟨x, dx, a, m, ys, es, cs, ms, ps, k, rfl, upd_same, ha.same s1, Paired.mapP hb fun _ _ z => z.nl (NL.same s1), ok, hm.same s1, Paired.mapP he fun _ _ z => z.same s1, sg, few, nd, RK, k1, k3, ne, fewp, pm, fun H2 kp pg => kq H2 (fun c o e => kp c o (fun z => by rw [z, nx] at e; cases e) (s1 c o e)) pg⟩

end
end K07

set_option maxRecDepth 100000
set_option maxHeartbeats 4000000
namespace K07
open PySem PySem.Spec PyProof.Rows L2 Q RZ
section
variable {P : Program} {w : World} {K : PySem.W.Frag} {mg : Str → Option Value} {base : Heap} {f : Addr} {fd : FuncData}
theorem paired_perm {α β : Type} {R : α → β → Prop} {zs us : List α} (h : zs.Perm us) : ∀ {cs : List β}, Paired R us cs → ∃ ds, Paired R zs ds ∧ ds.Perm cs := by
  induction h with
  | nil => exact fun p => match p with | .nil => ⟨[], .nil, .refl _⟩
  | cons x _ ih =>
    intro cs p
    cases p with
    | cons a q =>
      obtain ⟨ds, h1, h2⟩ := ih q
      exact ⟨_, .cons a h1, .cons _ h2⟩
  | swap x y l =>
    intro cs p
    cases p with
    | cons a q =>
      cases q with
      | cons b q => exact ⟨_, .cons b (.cons a q), .swap _ _ _⟩
  | trans _ _ ih1 ih2 =>
    intro cs p
    obtain ⟨ds, h1, h2⟩ := ih2 p
    obtain ⟨es, h3, h4⟩ := ih1 h1
    exact ⟨es, h3, h4.trans h2⟩
def oneP (r : List Int) : Part := (r, r.map (· + 1))
theorem sp_ones : ∀ ps : List (List Int), (ps.map oneP).flatMap sp = ps
  | [] => rfl
  | p :: ps => by
    rw [List.map_cons, List.flatMap_cons, sp_ones ps]
    show spots p (p.map (· + 1)) ++ ps = _
    rw [spots_next]
    rfl
theorem ok_ones {k : Nat} {ps : List (List Int)} (R : RowsK k ps) : ∀ c ∈ ps.map oneP, OkP k c := fun c m => by
  obtain ⟨r, mr, rfl⟩ := List.mem_map.mp m
  refine ⟨R.len r mr, full_next r, fun v mv => (R.val r mr v mv).1, fun v mv => ?_⟩
  obtain ⟨x, mx, rfl⟩ := List.mem_map.mp mv
  have := (R.val r mr x mx).2
  show x + 1 ≤ 64
  omega
theorem rows_pool {H H' : Hp} {a p : Addr} {vs : List V} {ps : List (List Int)} {n : Int} (hS : SqL K H a vs) (pR : Paired (ptS K H) vs ps) (B : PoolAt H p n) (k : Kb p H H') : SqL K H' a vs := by
  obtain ⟨l, m, kk, c, h1, _⟩ := B
  rcases hS with (h | ⟨o, h⟩) | h
  · refine .inl (.inl (k _ _ (fun z => ?_) h))
    rw [z, h1] at h
    obtain rfl := HO.lst.inj (Option.some.inj h)
    cases pR with
    | cons a _ =>
      obtain ⟨t, e, _⟩ := a
      cases e
  · refine .inl (.inr ⟨o, k _ _ (fun z => ?_) h⟩)
    rw [z, h1] at h
    cases h
  · exact .inr h
theorem cutV_init (xs : List V) (v : V) : cutV (xs ++ [v]) none (some (-1)) = xs := by
  have hl : (xs ++ [v]).length = xs.length + 1 := by rw [List.length_append]; rfl
  have e : HT.sIx (xs ++ [v]).length (xs ++ [v]).length (some (-1)) = xs.length := by
    show (if (-1 : Int) < 0 then ((-1 : Int) + (((xs ++ [v]).length : Nat) : Int)).toNat else min (-1 : Int).toNat (xs ++ [v]).length) = _
    rw [if_pos (by decide), hl]
    omega
  unfold cutV
  rw [e, HT.sIx_none, List.drop_zero, Nat.sub_zero, List.take_left]
def spHold (K : PySem.W.Frag) : Sp := fun vs H Q _ => ∃ (a p : Addr) (n : Int) (ps : List (List Int)) (k : Nat), vs = [.ref a, .ref p] ∧ SpotsAt H a ps ∧ RowsK k ps ∧ 1 ≤ k ∧ k ≤ 3 ∧ ps ≠ [] ∧ ps.length ≤ 200 ∧ PoolAt H p n ∧ n < 2 ^ 58 ∧ ∀ H', Q (.bl true) H'
theorem C__law_pages_hold (T : Tx K mg) : Cal P w K mg base CX0 8 "_law_pages_hold" ["rows", "pool"] [] (spHold K) := by
  obtain ⟨fd, F⟩ := T.d__law_pages_hold
  obtain ⟨fdB, G_Box, b_Box⟩ := ok_boxgood (P := P) (w := w) (base := base) T
  obtain ⟨fdP, G_Page, FP⟩ := ok_pageinit (P := P) (w := w) (base := base) T
  obtain ⟨ds0, v_Page, b_Page⟩ := FP.binds1 (ps := ["self", "place", "marks"]) 3 1 (List.cons_ne_nil _ _) rfl fun _ _ _ _ _ _ _ us its hu hi => match us, hu, its, hi with | [_, _, _], _, [_], _ => ⟨_, rfl, rfl⟩
  obtain rfl : ds0 = [] := by cases v_Page; rfl
  obtain ⟨ds1, v_Page1, b_Page1⟩ := FP.binds1 (ps := ["self", "place", "marks"]) 2 0 (List.cons_ne_nil _ _) rfl fun _ _ _ _ _ _ _ us its hu hi => match us, hu, its, hi with | [_, _], _, [_], _ => ⟨_, rfl, rfl⟩
  obtain ⟨fdE, E_Page, bE_Page⟩ := ok_pageeq (P := P) (w := w) (base := base) T
  have C__law_told := C__law_told (P := P) (w := w) (base := base) T
  have C__law_shuffled := C__law_shuffled (P := P) (w := w) (base := base) T
  have C__law_cutting := C__law_cutting (P := P) (w := w) (base := base) T
  have C__law_slabs := C__law_slabs (P := P) (w := w) (base := base) T
  refine ⟨_, fd, [], F.ok sc__law_pages_hold (fun vs H Q E h => ?_) (fun cdv A outer s H vs Q E hr h => ?_), T.g__law_pages_hold, F.kp, F.bindsN fun _ _ _ _ _ _ us hl => match us, hl with | [_, _], _ => rfl, .nil⟩
  · obtain ⟨a, p, n, ps, k, rfl, _⟩ := h
    rfl
  · obtain ⟨a, p, n, ps, k, rfl, ⟨vs, hS0, pT⟩, RK, k1, k3, ne, few, B, hn, kQ⟩ := h
    have hS := SqL.of (K := K) hS0
    have pR : Paired (ptS K H) vs ps := Paired.mapP pT fun _ _ z => ptS_of z
    refine ⟨_, PSs.nox (pss_cons (ps_set (i := 4) sc__law_pages_hold.nd rfl (Or.inl rfl) (pe_cal C__law_shuffled (hr.mono (by decide)) pass0 (pa_cons (pv 1) (pa_cons (pe_lc (own := [("row", 3)]) (g := gName 3) (tt := tYes) (by rfl) sc__law_pages_hold.nd (pi_list (pv 0)) (blkOk_by (N := ["rows", "pool", "value", "row", "single", "drawn", "due", "lows", "highs", "one", "other", "page"]) (sc := defScope s__law_pages_hold) (by decide +kernel)) (fun _ _ _ _ _ => (pg_name (i := 3) sc__law_pages_hold.nd rfl (Or.inl rfl))) (fun _ _ _ _ _ => pts_nil) (fun _ _ _ _ _ => (pe_tup (pa_cons (pv 3) (pa_cons (pe_callTy call_tupOfB (by rfl) T.n_tuple (by decide +kernel) (pa_cons (pe_lc (own := [("value", 2)]) (g := gName 2) (tt := tYes) (by rfl) sc__law_pages_hold.nd (pi_tupB (pv 3)) (blkOk_by (by rfl)) (fun _ _ _ _ _ => (pg_name (i := 2) sc__law_pages_hold.nd rfl (Or.inl rfl))) (fun _ _ _ _ _ => pts_nil) (fun _ _ _ _ _ => (pe_op op_add (pv 2) pe_int))) pa_nil)) pa_nil))))) pa_nil))))
      (pss_cons (ps_set (i := 5) sc__law_pages_hold.nd rfl (Or.inl rfl) (pe_cal C__law_shuffled (hr.mono (by decide)) pass0 (pa_cons (pv 1) (pa_cons (pe_cal C__law_cutting (hr.mono (by decide)) pass0 (pa_cons (pv 1) (pa_cons (pv 0) pa_nil))) pa_nil))))
      (pss_cons (ps_set (i := 6) sc__law_pages_hold.nd rfl (Or.inl rfl) (pe_cal C__law_slabs (hr.mono (by decide)) pass0 (pa_cons (pv 0) pa_nil)))
      (pss_cons (ps_set (i := 9) sc__law_pages_hold.nd rfl (Or.inl rfl) (pe_make T.mk_Page G_Page (hr.mono (by decide)) (by rfl) T.g_Page b_Page1 v_Page1 passX (pa_cons (pe_lc (own := [("lows", 7), ("highs", 8)]) (g := gTup K 2 (gCons (gName 7) (gCons (gName 8) gNil))) (tt := tYes) (by rfl) sc__law_pages_hold.nd (pi_list (pv 4)) (blkOk_by (N := ["rows", "pool", "value", "row", "single", "drawn", "due", "lows", "highs", "one", "other", "page"]) (sc := defScope s__law_pages_hold) (by decide +kernel)) (fun _ _ _ _ _ => (pg_tup rfl (pgs_cons (pg_name (i := 7) sc__law_pages_hold.nd rfl (Or.inl rfl)) (pgs_cons (pg_name (i := 8) sc__law_pages_hold.nd rfl (Or.inl rfl)) pgs_nil)))) (fun _ _ _ _ _ => pts_nil) (fun _ _ _ _ _ => (pe_make T.mk_Box G_Box (hr.mono (by decide)) (by rfl) T.g_Box b_Box .nil passX (pa_cons (pv 7) (pa_cons (pv 8) pa_nil))))) pa_nil)))
      (pss_cons (ps_set (i := 10) sc__law_pages_hold.nd rfl (Or.inl rfl) (pe_make T.mk_Page G_Page (hr.mono (by decide)) (by rfl) T.g_Page b_Page .nil passX (pa_cons (pe_callTy call_tupOf (by rfl) T.n_tuple (by decide +kernel) (pa_cons (pe_lc (own := [("lows", 7), ("highs", 8)]) (g := gTup K 2 (gCons (gName 7) (gCons (gName 8) gNil))) (tt := tYes) (by rfl) sc__law_pages_hold.nd (pi_list (pv 5)) (blkOk_by (N := ["rows", "pool", "value", "row", "single", "drawn", "due", "lows", "highs", "one", "other", "page"]) (sc := defScope s__law_pages_hold) (by decide +kernel)) (fun _ _ _ _ _ => (pg_tup rfl (pgs_cons (pg_name (i := 7) sc__law_pages_hold.nd rfl (Or.inl rfl)) (pgs_cons (pg_name (i := 8) sc__law_pages_hold.nd rfl (Or.inl rfl)) pgs_nil)))) (fun _ _ _ _ _ => pts_nil) (fun _ _ _ _ _ => (pe_make T.mk_Box G_Box (hr.mono (by decide)) (by rfl) T.g_Box b_Box .nil passX (pa_cons (pv 7) (pa_cons (pv 8) pa_nil))))) pa_nil)) (pa_cons (pe_lst pa_nil) pa_nil))))
      (pss_cons (ps_for PassesOwn.never rfl (pi_tup (pe_tup (pa_cons (pv 9) (pa_cons (pv 10) pa_nil)))) (pg_name (i := 11) sc__law_pages_hold.nd rfl (Or.inl rfl))
        (pss_cons (ps_if (PW.pt (pw_or (pt_cmpR (op_neD hr.units) (pe_cal C__law_told (hr.mono (by decide)) pass0 (pa_cons (pe_fld (pv 11) rfl) pa_nil)) (pv 6) (nomark _)) (pw_or (pt_cmpR (op_neD hr.units) (pe_fld (pv 11) rfl) (pe_callTy call_tupOf (by rfl) T.n_tuple (by decide +kernel) (pa_cons (pv 0) pa_nil)) (nomark _)) (pw_or1 (pt_cmpR (op_neD hr.units) (pe_fld (pv 11) rfl) (pe_ix ix_list (pv 0) pe_int (fun _ _ => rfl)) (nomark _))))))
          (pss_one (ps_ret pe_bl))
          pss_nil)
        (pss_one (ps_if (PW.pt (pw_or (pt_cmpR (op_neD hr.units) (pe_fld (pv 11) rfl) (pe_tup pa_nil) (nomark _)) (pw_or1 (pt_cmpR (op_neD hr.units) (pe_fld (pv 11) rfl) (pe_tup (pa_cons (pe_callTy call_tupOf (by rfl) T.n_tuple (by decide +kernel) (pa_cons (pv 6) pa_nil)) (pa_cons (pe_tup pa_nil) pa_nil))) (nomark _)))))
          (pss_one (ps_ret pe_bl))
          pss_nil))))
      (pss_cons (ps_if (PW.pt (pw_or (pt_not (pt_cmpR (op_eqO E_Page (hr.mono (by decide)) T.eq_Page.eq T.eq_Page.fn bE_Page passX) (pv 9) (pv 10) (nomark _))) (pw_or1 (pt_cmpR (op_eqO E_Page (hr.mono (by decide)) T.eq_Page.eq T.eq_Page.fn bE_Page passX) (pv 9) (pe_make T.mk_Page G_Page (hr.mono (by decide)) (by rfl) T.g_Page b_Page .nil passX (pa_cons (pe_fld (pv 9) rfl) (pa_cons (pe_lst (pa_cons (pe_tup (pa_cons (pe_ix ix_list (pv 0) (pe_un un_neg pe_int) (fun _ _ => rfl)) (pa_cons pe_str pa_nil))) pa_nil)) pa_nil))) (nomark _)))))
        (pss_one (ps_ret pe_bl))
        pss_nil)
      (pss_cons (ps_if (PW.pt (pw_and (pt_cmpR op_gt (pe_callB call_len_seq (by rfl) T.n_len (by decide +kernel) (pa_cons (pv 0) pa_nil)) pe_int (nomark _)) (pw_and1 (pt_cmpR (op_eqO E_Page (hr.mono (by decide)) T.eq_Page.eq T.eq_Page.fn bE_Page passX) (pv 9) (pe_make T.mk_Page G_Page (hr.mono (by decide)) (by rfl) T.g_Page b_Page1 v_Page1 passX (pa_cons (pe_lc (own := [("row", 3)]) (g := gName 3) (tt := tYes) (by rfl) sc__law_pages_hold.nd (pi_list (pe_slice sl_list (pv 0) po_none (po_some (pe_un un_neg pe_int)))) (blkOk_by (N := ["rows", "pool", "value", "row", "single", "drawn", "due", "lows", "highs", "one", "other", "page"]) (sc := defScope s__law_pages_hold) (by decide +kernel)) (fun _ _ _ _ _ => (pg_name (i := 3) sc__law_pages_hold.nd rfl (Or.inl rfl))) (fun _ _ _ _ _ => pts_nil) (fun _ _ _ _ _ => (pe_make T.mk_Box G_Box (hr.mono (by decide)) (by rfl) T.g_Box b_Box .nil passX (pa_cons (pv 3) (pa_cons (pe_callTy call_tupOfB (by rfl) T.n_tuple (by decide +kernel) (pa_cons (pe_lc (own := [("value", 2)]) (g := gName 2) (tt := tYes) (by rfl) sc__law_pages_hold.nd (pi_tupB (pv 3)) (blkOk_by (by rfl)) (fun _ _ _ _ _ => (pg_name (i := 2) sc__law_pages_hold.nd rfl (Or.inl rfl))) (fun _ _ _ _ _ => pts_nil) (fun _ _ _ _ _ => (pe_op op_add (pv 2) pe_int))) pa_nil)) pa_nil))))) pa_nil)) (nomark _)))))
        (pss_one (ps_ret pe_bl))
        pss_nil)
      (pss_one (ps_ret (pe_and (pe_cmpR (op_eqO E_Page (hr.mono (by decide)) T.eq_Page.eq T.eq_Page.fn bE_Page passX) (pe_make T.mk_Page G_Page (hr.mono (by decide)) (by rfl) T.g_Page b_Page1 v_Page1 passX (pa_cons (pe_fld (pv 9) rfl) pa_nil)) (pv 10) (nomark _)) (pe_one (pe_cmpR (op_eqD hr.units) (pe_cal C__law_told (hr.mono (by decide)) pass0 (pa_cons (pe_fld (pv 9) rfl) pa_nil)) (pv 6) (nomark _)))))))))))))), ?_⟩
    have big : 20000 < sizeLine := by decide
    have lR := paired_len pR
    have fs := slabs_few RK
    have S1 : RowsK k ps := RK
    -- single
    refine ⟨_, rfl, _, rfl, a, rfl, ⟨_, hS⟩, fun D nD => ?_⟩
    refine lc_each (S := fun H v c => ptS K H v c ∧ c ∈ ps) (f := oneP) (R := fun H v c => CpS K H v c) (fun _ _ _ _ k z => z.nl k) (fun _ _ _ _ k z => ⟨z.1.nl k, z.2⟩) nD hS (paired_mem pR) (by omega) (fun x c Hx R' N sx ec k => ?_) fun H1 us s1 hU pU => ?_
    · obtain ⟨⟨t, rfl, ht⟩, mc⟩ := ec
      have lc := RK.len _ mc
      refine ⟨rfl, _, rfl, _, rfl, t, rfl, ⟨_, ht⟩, fun D2 nD2 => ?_⟩
      refine lc_eachT (S := fun _ v (z : Int) => v = .int z) (f := fun z : Int => z + 1) (R := fun _ v (z : Int) => v = .int z) (fun _ _ _ _ _ z => z) (fun _ _ _ _ _ z => z) nD2 ht (ints_paired c) (by omega) (fun x z Hx R' N sx ez k => ?_) fun H7 ys7 s7 hU7 pU7 => ?_
      · obtain rfl := ez
        exact ⟨rfl, _, rfl, _, _, rfl, rfl, k _ _ (Same.refl _) rfl⟩
      obtain rfl := int_vals pU7
      refine tupOfL (SqL.of hU7) fun t2 nt2 => ?_
      generalize hq_ : L2.upd H7 t2 _ = H8
      obtain ⟨s8, o8⟩ := _root_.Q.nwS nt2 hq_
      clear hq_
      refine ⟨by show 2 ≤ sizeLine; omega, fun t3 nt3 => ?_⟩
      generalize hq_ : L2.upd H8 t3 _ = H9
      obtain ⟨s9, o9⟩ := _root_.Q.nwS nt3 hq_
      clear hq_
      have sA := (s7.trans s8).trans s9
      exact k _ _ sA ⟨t3, t, t2, rfl, SqT.of o9, sqT_same sA ht, SqT.of (s9 _ _ o8)⟩
    have lu := paired_len pU
    rw [List.length_map] at lu
    refine ⟨p, D, n, us, rfl, B.same s1, by omega, SqL.of hU, by omega, fun q1 zs H2 nq1 kb1 B2 hq1 pz => ?_⟩
    have nl1 := pool_nl kb1 (B.same s1)
    obtain ⟨cs1, pc1, pm1⟩ := paired_perm pz (Paired.mapP pU fun _ _ z => z.nl nl1)
    have nlA := (NL.same s1).trans nl1
    have pR1 : Paired (ptS K H1) vs ps := Paired.mapP pR fun _ _ z => z.nl (NL.same s1)
    have hS2 := rows_pool (sqL_same s1 hS) pR1 (B.same s1) kb1
    have pR2 : Paired (ptS K H2) vs ps := Paired.mapP pR1 fun _ _ z => z.nl nl1
    -- drawn
    refine ⟨_, rfl, _, rfl, _, rfl, p, a, _, ps, k, rfl, B2, by omega, ⟨vs, hS2, pR2⟩, RK, k1, k3, few, fun l us2 cs2 H3 nl3 kb2 B3 hl3 pC2 ok2 pm2 => ?_⟩
    have nl2 := pool_nl kb2 B2
    have lc2 := flat_count (f := sp) (l := cs2) fun c m => by rw [spots_len]; exact cnt_pos (ok2 c m).2.1
    have lp2 := pm2.length_eq
    have lu2 := paired_len pC2
    refine ⟨p, l, _, us2, rfl, B3, by omega, SqL.of hl3, by omega, fun q2 zs2 H4 nq2 kb3 B4 hq2 pz2 => ?_⟩
    have nl3 := pool_nl kb3 B3
    obtain ⟨cs3, pc3, pm3⟩ := paired_perm pz2 (Paired.mapP pC2 fun _ _ z => z.nl nl3)
    have pR3 : Paired (ptS K H3) vs ps := Paired.mapP pR2 fun _ _ z => z.nl nl2
    have hS3 := rows_pool hS2 pR2 B2 kb2
    have pR4 : Paired (ptS K H4) vs ps := Paired.mapP pR3 fun _ _ z => z.nl nl3
    have hS4 := rows_pool hS3 pR3 B3 kb3
    have hq14 : H4 q1 = some (.lst zs) := kb3 _ _ (fun z => by
      obtain ⟨l, m, kk, c, h1, _⟩ := B2
      rw [z] at nq1
      rw [(B.same s1).choose_spec.choose_spec.choose_spec.choose_spec.1] at nq1
      cases nq1) (kb2 _ _ (fun z => by
      rw [z] at nq1
      rw [(B.same s1).choose_spec.choose_spec.choose_spec.choose_spec.1] at nq1
      cases nq1) hq1)
    have pc14 : Paired (CpS K H4) zs cs1 := Paired.mapP pc1 fun _ _ z => z.nl (nl2.trans nl3)
    clear hq1 pc1 pR pR1 pR2 pR3 hS2 hS3 hS
    have perm1 : (cs1.flatMap sp).Perm ps := by
      have := pm1.flatMap_right sp
      rw [sp_ones] at this
      exact this
    have ok1 : ∀ c ∈ cs1, OkP k c := fun c m => ok_ones RK c (pm1.mem_iff.mp m)
    have perm3 : (cs3.flatMap sp).Perm ps := (pm3.flatMap_right sp).trans pm2
    have ok3 : ∀ c ∈ cs3, OkP k c := fun c m => ok2 c (pm3.mem_iff.mp m)
    have lz1 := paired_len pc14
    have lz1' := pm1.length_eq
    rw [List.length_map] at lz1'
    have lz3 := paired_len pc3
    have lz3' := pm3.length_eq
    -- due
    refine ⟨_, rfl, k, k3, a, ps, rfl, ⟨vs, hS4, pR4⟩, RK, few, k3, fun du uu H5 nl5 s5 hdu hC => ?_⟩
    -- one
    refine ⟨_, rfl, q1, rfl, ⟨_, SqL.of (s5 _ _ hq14)⟩, fun D3 nD3 => ?_⟩
    refine lc_each (S := fun H v c => CpS K H v c ∧ c ∈ cs1) (f := fun c => c) (R := fun H v c => BoxV K H v c) (fun _ _ _ _ k z => z.nl k) (fun _ _ _ _ k z => ⟨z.1.nl k, z.2⟩) nD3 (SqL.of (s5 _ _ hq14)) (paired_mem (Paired.mapP pc14 fun _ _ z => z.nl (NL.same s5))) (by omega) (fun x c Hx R' N sx ec k => ?_) fun H6 ys s6 hU pU => ?_
    · obtain ⟨⟨t, tl, th, rfl, h1, h2, h3⟩, mc⟩ := ec
      obtain ⟨q1, q2, q3, q4⟩ := ok1 c mc
      exact ⟨t, _, rfl, h1, rfl, _, _, rfl, _, _, rfl, rfl, rfl, _, rfl, _, rfl, make_good (.inr h2) (.inr h3) (rgs_full q2 q3 q4) (by omega) fun y H3 s3 bx => k _ _ s3 ⟨y, rfl, bx⟩⟩
    rw [List.map_id'] at pU
    intro y1 dy1 ny1 nd1 ne1
    refine make_page ny1 nd1 ne1 (.inl (SqL.of hU)) pU ok1 (.inr (T.t_dfl H6)) .nil (fun _ m => nomatch m) (by decide) .nil RK k1 k3 ne few perm1 fun H7 s7 pg1 => ⟨rfl, ?_⟩
    rw [show sortM [] = [] from List.mergeSort_nil] at pg1
    have s57 := (s5.trans s6).trans s7
    have hq27 := s57 _ _ hq2
    -- other
    refine ⟨_, rfl, q2, rfl, ⟨_, SqL.of hq27⟩, fun D4 nD4 => ?_⟩
    refine lc_each (S := fun H v c => CpS K H v c ∧ c ∈ cs3) (f := fun c => c) (R := fun H v c => BoxV K H v c) (fun _ _ _ _ k z => z.nl k) (fun _ _ _ _ k z => ⟨z.1.nl k, z.2⟩) nD4 (SqL.of hq27) (paired_mem (Paired.mapP pc3 fun _ _ z => (CpS.of z).nl (NL.same s57))) (by omega) (fun x c Hx R' N sx ec k => ?_) fun H8 ys8 s8 hU8 pU8 => ?_
    · obtain ⟨⟨t, tl, th, rfl, h1, h2, h3⟩, mc⟩ := ec
      obtain ⟨q1, q2, q3, q4⟩ := ok3 c mc
      exact ⟨t, _, rfl, h1, rfl, _, _, rfl, _, _, rfl, rfl, rfl, _, rfl, _, rfl, make_good (.inr h2) (.inr h3) (rgs_full q2 q3 q4) (by omega) fun y H3 s3 bx => k _ _ s3 ⟨y, rfl, bx⟩⟩
    rw [List.map_id'] at pU8
    refine tupOfL (SqL.of hU8) fun t9 nt9 => ?_
    generalize hq_ : L2.upd H8 t9 _ = H9
    obtain ⟨s9, o9⟩ := _root_.Q.nwS nt9 hq_
    clear hq_
    refine ⟨Nat.zero_le _, fun l10 nl10 => ?_⟩
    generalize hq_ : L2.upd H9 l10 _ = H10
    obtain ⟨s10, o10⟩ := _root_.Q.nwS nl10 hq_
    clear hq_
    have s910 := s9.trans s10
    intro y2 dy2 ny2 nd2 ne2
    refine make_page ny2 nd2 ne2 (.inr (SqT.of (s10 _ _ o9))) (Paired.mapP pU8 fun _ _ z => z.nl (NL.same s910)) ok3 (.inl (SqL.of o10)) .nil (fun _ m => nomatch m) (by decide) .nil RK k1 k3 ne few perm3 fun H11 s11 pg2 => ⟨rfl, ?_⟩
    rw [show sortM [] = [] from List.mergeSort_nil] at pg2
    have s711 := (s8.trans s910).trans s11
    have pg1' := pg1.nl s711
    have s511 := (s6.trans s7).trans s711
    have du11 := s511 _ _ hdu
    have hC11 := hC.nl (NL.same s511)
    have vr11 : SqL K H11 a vs := sqL_same (s57.trans s711) hS4
    have pR11 : Paired (ptS K H11) vs ps := Paired.mapP pR4 fun _ _ z => z.nl (NL.same (s57.trans s711))
    have pT11 : Paired (ptRel H11) vs ps := Paired.mapP pT fun _ _ z => z.nl (nlA.trans (nl2.trans (nl3.trans (NL.same (s57.trans s711)))))
    clear hS4 pR4 hC
    refine ⟨_, rfl, _, rfl, (by show 2 ≤ sizeLine; omega), fun l12 nl12 => ?_⟩
    generalize hq_ : L2.upd H11 l12 _ = H12
    obtain ⟨s12, o12⟩ := _root_.Q.nwS nl12 hq_
    clear hq_
    refine ⟨l12, rfl, ⟨_, SqT.of o12⟩, ?_⟩
    have page_at : ∀ {H' : Hp}, L2.Same H12 H' → PageAt K H' y1 k ps [] ∧ PageAt K H' y2 k ps [] := fun s => ⟨pg1'.nl (s12.trans s), pg2.nl (s12.trans s)⟩
    refine for_tup (xs := [.ref y1, .ref y2]) (fun i σ H' => (∃ v11, σ = [some (.ref a), some (.ref p), none, none, some (.ref q1), some (.ref q2), some (.ref du), none, none, some (.ref y1), some (.ref y2), v11]) ∧ L2.Same H12 H') ⟨⟨none, rfl⟩, Same.refl _⟩ (fun i σ H' _ q => SqT.of (q.2 _ _ o12)) ?_ ?_
    · rintro i x σ H' ex ⟨⟨v11, rfl⟩, sm⟩
      obtain ⟨y, rfl, pg⟩ : ∃ y, x = .ref y ∧ PageAt K H' y k ps [] := by
        have m := List.mem_of_getElem? ex
        rcases List.mem_cons.mp m with e | m
        · exact ⟨_, e, (page_at sm).1⟩
        · exact ⟨_, List.mem_singleton.mp m, (page_at sm).2⟩
      obtain ⟨dy, tr, tm, td, tp, t0, tt, tq, fs, vr, um, ys', uq, g1, g2, ⟨e1, e2, e3, e4, e5, e6⟩, ⟨a1, a2⟩, ⟨b1, b2⟩, c1, ⟨d1, d2⟩, f0, f1, f2, f3⟩ := id pg
      refine ⟨_, rfl, y, _, dy, _, _, rfl, g1, T.cls_Page, T.noat_Page_place, e4, tp, ys', _, rfl, SqT.of d1, d2, by omega, fun l us4 H13 nl13 s13 hl hC13 => ?_⟩
      have s1113 := (s12.trans sm).trans s13
      refine ⟨_, rfl, _, _, dp_cuts (SqL.of hl) hC13, dp_cuts (SqL.of (s1113 _ _ du11)) (hC11.nl (NL.same s1113)), shaped_cuts _, shaped_cuts _, _, rfl, ?_⟩
      rw [eqv_cuts, decide_eq_true rfl]
      refine iteF ⟨_, rfl, y, _, dy, _, _, rfl, s13 _ _ g1, T.cls_Page, T.noat_Page_rows, e1, _, rfl, ?_⟩
      refine tupL_of (sqL_same s1113 vr11) fun t14 nt14 => ?_
      generalize hq_ : L2.upd H13 t14 _ = H14
      obtain ⟨s14, o14⟩ := _root_.Q.nwS nt14 hq_
      clear hq_
      have s1114 := s1113.trans s14
      refine ⟨_, _, dpT_pts ((s13.trans s14) _ _ a1) (Paired.mapP a2 fun _ _ z => z.nl (NL.same (s13.trans s14))), .tup (SqT.of o14) (dpAll_pts (Paired.mapP pR11 fun _ _ z => z.nl (NL.same s1114))), shapedT_pts _, shapedT_pts _, _, rfl, ?_⟩
      rw [eqvT_pts, decide_eq_true rfl]
      refine iteF ?_
      have s14s := s13.trans s14
      obtain ⟨x0, ex0, tx, rfl, htx⟩ := paired_at pR11 0 (List.length_pos_iff.mpr ne)
      have e0 : ps.getD 0 [] = ps[0]'(List.length_pos_iff.mpr ne) := by rw [List.getD_eq_getElem?_getD, List.getElem?_eq_getElem (List.length_pos_iff.mpr ne)]; rfl
      rw [e0] at f0
      refine ⟨_, rfl, y, _, dy, _, _, rfl, s14s _ _ g1, T.cls_Page, T.noat_Page_first, e5, _, rfl, a, _, _, _, rfl, rfl, sqL_same s1114 vr11, atI_nat (j := 0) ex0, _, _, dp_ints (SqT.of (s14s _ _ f0)), dp_ints (sqT_same s1114 htx), shaped_ints _, shaped_ints _, ?_⟩
      rw [eqv_ints, decide_eq_true rfl]
      refine ⟨_, rfl, iteF ?_⟩
      refine ⟨_, rfl, y, _, dy, _, _, rfl, s14s _ _ g1, T.cls_Page, T.noat_Page_marks, e2, Nat.zero_le _, fun t15 nt15 => ?_⟩
      generalize hq_ : L2.upd H14 t15 _ = H15
      obtain ⟨s15, o15⟩ := _root_.Q.nwS nt15 hq_
      clear hq_
      have s15s := s14s.trans s15
      refine ⟨_, _, dpT_marks (s15s _ _ b1) (Paired.mapP b2 fun _ _ z => z.nl (NL.same s15s)), dpT_marks (cs := []) o15 .nil, shapedT_marks _ (fun _ m => nomatch m), shapedT_marks _ (fun _ m => nomatch m), _, rfl, ?_⟩
      rw [eqvT_marks, decide_eq_true rfl]
      refine iteF ?_
      have s1115 := s1114.trans s15
      refine ⟨_, rfl, y, _, dy, _, _, rfl, s15s _ _ g1, T.cls_Page, T.noat_Page_told, e6, _, rfl, ?_⟩
      refine tupL_of (SqL.of (s1115 _ _ du11)) fun t16 nt16 => ?_
      generalize hq_ : L2.upd H15 t16 _ = H16
      obtain ⟨s16, o16⟩ := _root_.Q.nwS nt16 hq_
      clear hq_
      refine ⟨Nat.zero_le _, fun t17 nt17 => ?_⟩
      generalize hq_ : L2.upd H16 t17 _ = H17
      obtain ⟨s17, o17⟩ := _root_.Q.nwS nt17 hq_
      clear hq_
      refine ⟨(by show 2 ≤ sizeLine; omega), fun t18 nt18 => ?_⟩
      generalize hq_ : L2.upd H17 t18 _ = H18
      obtain ⟨s18, o18⟩ := _root_.Q.nwS nt18 hq_
      clear hq_
      have s1518 := (s16.trans s17).trans s18
      have s18s := s15s.trans s1518
      have s1118 := s1115.trans s1518
      refine ⟨_, _, dp_toldD (cs := slabs k ps) (ms := []) (SqT.of (s18s _ _ f1)) (SqT.of (s18s _ _ f2)) (Paired.mapP f3 fun _ _ z => z.nl (NL.same s18s)) (SqT.of (s18s _ _ b1)) (Paired.mapP b2 fun _ _ z => z.nl (NL.same s18s)),
        dp_toldD (cs := slabs k ps) (ms := []) (SqT.of o18) (SqT.of ((s17.trans s18) _ _ o16)) (Paired.mapP hC11 fun _ _ z => (CpS.of z).nl (NL.same s1118)) (SqT.of (s18 _ _ o17)) .nil, shaped_toldD _ _ (fun _ m => nomatch m), shaped_toldD _ _ (fun _ m => nomatch m), ?_⟩
      rw [eqv_toldD, decide_eq_true rfl, decide_eq_true rfl]
      refine ⟨_, rfl, iteF ?_⟩
      exact ⟨⟨_, rfl⟩, (sm.trans s15s).trans s1518⟩
    · rintro σ H' ⟨⟨v11, rfl⟩, sm⟩
      obtain ⟨pgA, pgB⟩ := page_at sm
      obtain ⟨dy, tr, tm, td, tp, t0, tt, tq, fs1, vr, um, ys', uq, g1, g2, ⟨e1, e2, e3, e4, e5, e6⟩, ⟨a1, a2⟩, ⟨b1, b2⟩, c1, ⟨d1, d2⟩, f0, f1, f2, f3⟩ := id pgA
      obtain ⟨dy', _, _, _, _, _, _, _, fs2, _, _, _, _, j1, _⟩ := id pgB
      have sX := s12.trans sm
      have nosg : ∀ c ∈ ([] : List Mark), Signed c := fun _ m => nomatch m
      refine ⟨_, rfl, _, rfl, y1, y2, _, _, _, _, rfl, rfl, g1, j1, y1, y2, k, k, ps, ps, [], [], rfl, pgA, pgB, nosg, nosg, _, rfl, _, rfl, ?_⟩
      rw [decide_eq_true rfl, decide_eq_true rfl]
      refine iteF ?_
      obtain ⟨ps', q, eps⟩ : ∃ ps' q, ps = ps' ++ [q] := ⟨ps.dropLast, ps.getLast ne, (List.dropLast_concat_getLast ne).symm⟩
      have pTX : Paired (ptRel H') vs ps := Paired.mapP pT11 fun _ _ z => z.nl (NL.same sX)
      have pL := pTX
      rw [eps] at pL
      obtain ⟨vs', x, evs, pv', tq1, rfl, htq⟩ := paired_snoc pL
      have hSX : SqL K H' a vs := sqL_same sX vr11
      refine ⟨_, rfl, ?_⟩
      refine ⟨_, rfl, y1, _, dy, _, _, rfl, g1, T.cls_Page, T.noat_Page_place, e4, _, rfl, _, rfl, a, _, _, _, rfl, rfl, hSX, (by rw [evs]; exact atI_last _ _), (by show 2 ≤ sizeLine; omega), fun t20 nt20 => ?_⟩
      generalize hq_ : L2.upd H' t20 _ = H20
      obtain ⟨s20, o20⟩ := _root_.Q.nwS nt20 hq_
      clear hq_
      refine ⟨by show 1 ≤ sizeLine; omega, fun l21 nl21 => ?_⟩
      generalize hq_ : L2.upd H20 l21 _ = H21
      obtain ⟨s21, o21⟩ := _root_.Q.nwS nl21 hq_
      clear hq_
      have s2021 := s20.trans s21
      have mq : q ∈ ps := by rw [eps]; exact List.mem_append_right _ List.mem_cons_self
      have sg1 : ∀ c ∈ ([(q, ("put" : Str))] : List Mark), Signed c ∧ c.1 ∈ ps := fun c m => by
        rw [List.mem_singleton.mp m]
        exact ⟨.inl rfl, mq⟩
      obtain ⟨okp, pmS⟩ := slabs_spec RK
      intro y3 dy3 ny3 nd3 ne3
      refine make_page ny3 nd3 ne3 (.inr (SqT.of (s2021 _ _ d1))) (Paired.mapP d2 fun _ _ z => z.nl (NL.same s2021)) okp (.inl (SqL.of o21)) (.cons ⟨t20, tq1, rfl, SqT.of (s21 _ _ o20), .inr (s2021 _ _ htq)⟩ .nil) sg1 (by show 1 ≤ 300; decide) (List.nodup_cons.mpr ⟨(fun z => nomatch z), List.Pairwise.nil⟩) RK k1 k3 ne few pmS fun H22 s22 pg3 => ⟨rfl, ?_⟩
      have s2022 := s2021.trans s22
      obtain ⟨dy3', _, _, _, _, _, _, _, fs3, _, _, _, _, j3, _⟩ := id pg3
      refine ⟨y1, y3, _, _, _, _, rfl, rfl, s2022 _ _ g1, j3, y1, y3, k, k, ps, ps, [], _, rfl, pgA.nl s2022, pg3, nosg, (fun c m => (sg1 c (List.mem_mergeSort.mp m)).1), _, rfl, _, rfl, ?_⟩
      have z1 : (decide (ps = ps) && decide (([] : List Mark) = sortM [(q, ("put" : Str))])) = false := by
        rw [show sortM [(q, ("put" : Str))] = [(q, ("put" : Str))] from List.mergeSort_singleton _]
        simp
      rw [z1]
      refine iteF ?_
      have hS22 := sqL_same s2022 hSX
      refine ⟨_, rfl, _, _, rfl, .inl hS22, _, _, rfl, rfl, _, rfl, ite2 (fun big1 => ?_) (fun big1 => ?_)⟩
      · have pne : ps' ≠ [] := fun z => by
          rw [evs, List.length_append] at big1
          have h0 := paired_len pv'
          rw [z] at h0
          have h1 : vs'.length = 0 := h0
          rw [h1] at big1
          exact absurd big1 (by simp)
        have RK' : RowsK k ps' := by
          have := RK.take ps'.length
          rw [eps, List.take_left] at this
          exact this
        have few' : ps'.length ≤ 200 := by
          rw [eps, List.length_append] at few
          omega
        have lv' := paired_len pv'
        refine ⟨_, rfl, _, rfl, _, rfl, _, rfl, a, vs, rfl, hS22, fun q9 nq9 => ?_⟩
        rw [evs, cutV_init]
        generalize hq_ : L2.upd H22 q9 _ = H23
        obtain ⟨s23, o23⟩ := _root_.Q.nwS nq9 hq_
        clear hq_
        have s2023 := s2022.trans s23
        refine ⟨q9, rfl, ⟨_, SqL.of o23⟩, fun D nD => ?_⟩
        refine lc_each (S := fun H v c => ptRel H v c ∧ c ∈ ps') (f := oneP) (R := fun H v c => BoxV K H v c) (fun _ _ _ _ k z => z.nl k) (fun _ _ _ _ k z => ⟨z.1.nl k, z.2⟩) nD (SqL.of o23) (paired_mem (Paired.mapP pv' fun _ _ z => z.nl (NL.same s2023))) (by omega) (fun x c Hx R' N sx ec k => ?_) fun H24 us9 s24 hU9 pU9 => ?_
        · obtain ⟨⟨t, rfl, ht⟩, mc⟩ := ec
          have lc := RK'.len _ mc
          obtain ⟨w1, w2, w3, w4⟩ := ok_ones RK' (oneP c) (List.mem_map.mpr ⟨c, mc, rfl⟩)
          refine ⟨rfl, _, rfl, _, rfl, t, rfl, ⟨_, SqT.of ht⟩, fun D2 nD2 => ?_⟩
          refine lc_eachT (S := fun _ v (z : Int) => v = .int z) (f := fun z : Int => z + 1) (R := fun _ v (z : Int) => v = .int z) (fun _ _ _ _ _ z => z) (fun _ _ _ _ _ z => z) nD2 (SqT.of ht) (ints_paired c) (by omega) (fun x z Hx R' N sx ez k => ?_) fun H7 ys7 s7 hU7 pU7 => ?_
          · obtain rfl := ez
            exact ⟨rfl, _, rfl, _, _, rfl, rfl, k _ _ (Same.refl _) rfl⟩
          obtain rfl := int_vals pU7
          refine tupOfL (SqL.of hU7) fun t2 nt2 => ?_
          generalize hq_ : L2.upd H7 t2 _ = H8
          obtain ⟨s8, o8⟩ := _root_.Q.nwS nt2 hq_
          clear hq_
          exact make_good (.inr (sqT_same (s7.trans s8) (SqT.of ht))) (.inr (SqT.of o8)) (rgs_full w2 w3 w4) (by omega) fun y H3 s3 bx => k _ _ ((s7.trans s8).trans s3) ⟨y, rfl, bx⟩
        have okn := ok_ones RK'
        have spn := sp_ones ps'
        intro y6 dy6 ny6 nd6 ne6
        refine make_page ny6 nd6 ne6 (.inl (SqL.of hU9)) pU9 okn (.inr (T.t_dfl H24)) .nil (fun _ m => nomatch m) (by decide) .nil RK' k1 k3 pne few' (by rw [spn]) fun H25 s25 pg6 => ⟨rfl, ?_⟩
        rw [show sortM [] = [] from List.mergeSort_nil] at pg6
        obtain ⟨dy6', _, _, _, _, _, _, _, fs6, _, _, _, _, j6, _⟩ := id pg6
        have sN := (s2023.trans s24).trans s25
        refine ⟨y1, y6, _, _, _, _, rfl, rfl, sN _ _ g1, j6, y1, y6, k, k, ps, ps', [], [], rfl, pgA.nl sN, pg6, nosg, nosg, _, rfl, _, rfl, ?_⟩
        have z2 : decide (ps = ps') = false := by
          refine decide_eq_false fun z => ?_
          have := congrArg List.length z
          rw [eps, List.length_append] at this
          have h1 : [q].length = 1 := rfl
          omega
        rw [z2]
        refine iteF ?_
        refine ⟨_, rfl, y1, _, dy, _, _, rfl, sN _ _ g1, T.cls_Page, T.noat_Page_place, e4, ?_⟩
        intro y5 dy5 ny5 nd5 ne5
        refine make_page ny5 nd5 ne5 (.inr (SqT.of (sN _ _ d1))) (Paired.mapP d2 fun _ _ z => z.nl (NL.same sN)) okp (.inr (T.t_dfl H25)) .nil (fun _ m => nomatch m) (by decide) .nil RK k1 k3 ne few pmS fun HT sT pg5 => ⟨rfl, ?_⟩
        rw [show sortM [] = [] from List.mergeSort_nil] at pg5
        obtain ⟨dy5', _, _, _, _, _, _, _, fs5, _, _, _, _, j5, _⟩ := id pg5
        have sNT := sN.trans sT
        refine ⟨_, rfl, y5, y2, _, _, _, _, rfl, rfl, j5, sNT _ _ j1, y5, y2, k, k, ps, ps, [], [], rfl, pg5, pgB.nl sNT, nosg, nosg, _, rfl, _, rfl, ?_⟩
        rw [decide_eq_true rfl, decide_eq_true rfl]
        refine iteT ⟨_, rfl, y1, _, dy, _, _, rfl, sNT _ _ g1, T.cls_Page, T.noat_Page_place, e4, tp, ys', _, rfl, SqT.of (sNT _ _ d1), Paired.mapP d2 fun _ _ z => z.nl (NL.same sNT), by omega, fun l us4 H13 nl13 s13 hl hC13 => ?_⟩
        have sE := sX.trans (sNT.trans s13)
        refine ⟨_, rfl, _, _, dp_cuts (SqL.of hl) hC13, dp_cuts (SqL.of (sE _ _ du11)) (hC11.nl (NL.same sE)), shaped_cuts _, shaped_cuts _, ?_⟩
        rw [eqv_cuts, decide_eq_true rfl]
        exact kQ _
      · refine iteF ?_
        refine ⟨_, rfl, y1, _, dy, _, _, rfl, s2022 _ _ g1, T.cls_Page, T.noat_Page_place, e4, ?_⟩
        intro y5 dy5 ny5 nd5 ne5
        refine make_page ny5 nd5 ne5 (.inr (SqT.of (s2022 _ _ d1))) (Paired.mapP d2 fun _ _ z => z.nl (NL.same s2022)) okp (.inr (T.t_dfl H22)) .nil (fun _ m => nomatch m) (by decide) .nil RK k1 k3 ne few pmS fun HT sT pg5 => ⟨rfl, ?_⟩
        rw [show sortM [] = [] from List.mergeSort_nil] at pg5
        obtain ⟨dy5', _, _, _, _, _, _, _, fs5, _, _, _, _, j5, _⟩ := id pg5
        have sNT := s2022.trans sT
        refine ⟨_, rfl, y5, y2, _, _, _, _, rfl, rfl, j5, sNT _ _ j1, y5, y2, k, k, ps, ps, [], [], rfl, pg5, pgB.nl sNT, nosg, nosg, _, rfl, _, rfl, ?_⟩
        rw [decide_eq_true rfl, decide_eq_true rfl]
        refine iteT ⟨_, rfl, y1, _, dy, _, _, rfl, sNT _ _ g1, T.cls_Page, T.noat_Page_place, e4, tp, ys', _, rfl, SqT.of (sNT _ _ d1), Paired.mapP d2 fun _ _ z => z.nl (NL.same sNT), by omega, fun l us4 H13 nl13 s13 hl hC13 => ?_⟩
        have sE := sX.trans (sNT.trans s13)
        refine ⟨_, rfl, _, _, dp_cuts (SqL.of hl) hC13, dp_cuts (SqL.of (sE _ _ du11)) (hC11.nl (NL.same sE)), shaped_cuts _, shaped_cuts _, ?_⟩
        rw [eqv_cuts, decide_eq_true rfl]
        exact kQ _

end
end K07

set_option maxRecDepth 100000
set_option maxHeartbeats 4000000
namespace K07
open PySem PySem.Spec PyProof.Rows L2 Q RZ
section
variable {P : Program} {w : World} {K : PySem.W.Frag} {mg : Str → Option Value} {base : Heap} {f : Addr} {fd : FuncData}
/-- either way the law has its rows -/
theorem rows_either {H : Hp} {b : Bool} {A B : Prop} {C : Addr → Hp → Prop} (f : (∀ l ps H', H l = none → L2.Same H H' → SpotsAt H' l ps → RowsOk ps → C l H') → A) (g : (∀ l ps H', H l = none → L2.Same H H' → SpotsAt H' l ps → RowsOk ps → C l H') → B)
    (k : ∀ l ps H', H l = none → L2.Same H H' → SpotsAt H' l ps → RowsOk ps → C l H') : if b = true then A else B := by
  cases b with
  | true => exact f k
  | false => exact g k
/-- a row, tuple or list, aside of the pool and of the list of rows -/
def gvS (p G : Addr) (H : Hp) (v : V) (r : List Int) : Prop := ∃ a, v = .ref a ∧ a ≠ p ∧ a ≠ G ∧ (H a = some (.tup (r.map V.int)) ∨ H a = some (.lst (r.map V.int)))
theorem gvS.keep {p G : Addr} {H H' : Hp} {v : V} {r : List Int} (k : ∀ b o, b ≠ p → b ≠ G → H b = some o → H' b = some o) (h : gvS p G H v r) : gvS p G H' v r := by
  obtain ⟨a, e, n1, n2, h⟩ := h
  exact ⟨a, e, n1, n2, h.imp (k _ _ n1 n2) (k _ _ n1 n2)⟩
theorem gvS.row {p G : Addr} {H : Hp} {v : V} {r : List Int} (h : gvS p G H v r) : rowS K H v r := by
  obtain ⟨a, e, n1, n2, h⟩ := h
  exact ⟨a, e, h.elim (fun h => .inr (SqT.of h)) fun h => .inl (SqL.of h)⟩
theorem rowsK_nil : RowsK 1 [] := ⟨.nil, (fun _ m => nomatch m), (fun _ m => nomatch m)⟩
theorem slabs_nil : slabs 1 [] = [] := List.length_eq_zero_iff.mp (Nat.le_zero.mp (slabs_few rowsK_nil))
def spLaw (K : PySem.W.Frag) : Sp := fun vs H Q _ => ∃ (a : Addr) (ns : List Int), vs = [.ref a] ∧ SqL K H a (ns.map V.int) ∧ ∀ H', Q (.bl true) H'
theorem ok_law0 (T : Tx K mg) : ∃ fd, FnOk P w K mg base CX0 9 (He.ga K "law") fd ["script"] (spLaw K) ∧ FnP K "law" "law" s_law [] (He.ga K "law") fd := by
  obtain ⟨fd, F⟩ := T.d_law
  have C__law_is_great := C__law_is_great (P := P) (w := w) (base := base) T
  have C__law_stripes := C__law_stripes (P := P) (w := w) (base := base) T
  have C__law_set := C__law_set (P := P) (w := w) (base := base) T
  have C__law_pool := C__law_pool (P := P) (w := w) (base := base) T
  have C__law_pull := C__law_pull (P := P) (w := w) (base := base) T
  have C__law_shuffled := C__law_shuffled (P := P) (w := w) (base := base) T
  have C_slabs_of := C_slabs_of (P := P) (w := w) (base := base) T
  have C__law_form_holds := C__law_form_holds (P := P) (w := w) (base := base) T
  have C__law_pages_hold := C__law_pages_hold (P := P) (w := w) (base := base) T
  refine ⟨fd, F.ok sc_law (fun vs H Q E h => ?_) (fun cdv A outer s H vs Q E hr h => ?_), F⟩
  · obtain ⟨a, ns, rfl, _⟩ := h
    rfl
  · obtain ⟨a, ns, rfl, hS, kQ⟩ := h
    refine ⟨_, PSs.nox (pss_cons (ps_set (i := 1) sc_law.nd rfl (Or.inl rfl) (pe_ifExp (pt_val (pe_cal C__law_is_great (hr.mono (by decide)) pass0 (pa_cons (pv 0) pa_nil))) (pe_cal C__law_stripes (hr.mono (by decide)) pass0 (pa_cons (pv 0) pa_nil)) (pe_cal C__law_set (hr.mono (by decide)) pass0 (pa_cons (pv 0) pa_nil))))
      (pss_cons (ps_set (i := 2) sc_law.nd rfl (Or.inl rfl) (pe_cal C__law_pool (hr.mono (by decide)) pass0 (pa_cons (pv 0) (pa_cons pe_int pa_nil))))
      (pss_cons (ps_set (i := 3) sc_law.nd rfl (Or.inl rfl) (pe_lst pa_nil))
      (pss_cons (ps_for PassesOwn.never rfl (pi_list (pe_cal C__law_shuffled (hr.mono (by decide)) pass0 (pa_cons (pv 2) (pa_cons (pv 1) pa_nil)))) (pg_name (i := 4) sc_law.nd rfl (Or.inl rfl))
        (pss_cons (ps_expr (pe_bm PySem.F.plainAttrs_list PySem.F.slot_list_append PySem.F.type_list_append mt_append (pv 3) (pa_cons (pv 4) pa_nil)))
        (pss_cons (ps_set (i := 5) sc_law.nd rfl (Or.inl rfl) (pe_cal C__law_pull (hr.mono (by decide)) pass0 (pa_cons (pv 2) (pa_cons pe_int pa_nil))))
        (C8.pss_cut (ps_if (pt_cmpR op_eq (pv 5) pe_int (nomark _))
          (pss_one (ps_expr (pe_bm PySem.F.plainAttrs_list PySem.F.slot_list_append PySem.F.type_list_append mt_append (pv 3) (pa_cons (pe_callTy call_list_of (by rfl) T.n_list (by decide +kernel) (pa_cons (pv 4) pa_nil)) pa_nil))))
          pss_nil)
        (pss_one (ps_if (pt_cmpR op_eq (pv 5) pe_int (nomark _))
          (pss_one (ps_expr (pe_bm PySem.F.plainAttrs_list PySem.F.slot_list_append PySem.F.type_list_append mt_append (pv 3) (pa_cons (pv 4) pa_nil))))
          pss_nil))))))
      (pss_cons (ps_if (PW.pt (pw_or (pt_cmpR (op_neD hr.units) (pe_cal C_slabs_of (hr.mono (by decide)) pass0 (pa_cons (pe_lst pa_nil) pa_nil)) (pe_tup pa_nil) (nomark _)) (pw_or1 (pt_cmpR (op_neD hr.units) (pe_cal C_slabs_of (hr.mono (by decide)) pass0 (pa_cons (pe_tup pa_nil) pa_nil)) (pe_tup pa_nil) (nomark _)))))
        (pss_one (ps_ret pe_bl))
        pss_nil)
      (pss_cons (ps_if (pt_not (pt_val (pe_cal C__law_form_holds (hr.mono (by decide)) pass0 (pa_cons (pv 1) (pa_cons (pv 3) pa_nil)))))
        (pss_one (ps_ret pe_bl))
        pss_nil)
      (pss_one (ps_ret (pe_or (pe_cmpR (op_eqD hr.units) (pv 1) (pe_lst pa_nil) (nomark _)) (pe_one (pe_cal C__law_pages_hold (hr.mono (by decide)) pass0 (pa_cons (pv 1) (pa_cons (pv 2) pa_nil))))))))))))), ?_⟩
    have big : 20000 < sizeLine := by decide
    refine ⟨_, rfl, a, ns, rfl, hS, fun b => ⟨_, rfl, ?_⟩⟩
    refine rows_either (fun k => ⟨_, rfl, a, ns, rfl, hS, fun l ps H' a1 a2 a3 a4 => k l ps H' a1 a2 a3 a4⟩) (fun k => ⟨_, rfl, a, ns, rfl, hS, fun l ps H' a1 a2 a3 a4 => k l ps H' a1 a2 a3 a4⟩) fun l ps H1 nl1 s1 ⟨vs, hl1, pT1⟩ RO => ?_
    obtain ⟨asc, ⟨k, k1, k3, len⟩, val, few⟩ := RO
    have RK : RowsK k ps := ⟨asc, len, val⟩
    have lT := paired_len pT1
    -- pool
    refine ⟨_, rfl, a, ns, 1, rfl, sqL_same s1 hS, fun p H2 np2 s2 B2 => ?_⟩
    have lp : l ≠ p := fun z => by rw [z, np2] at hl1; cases hl1
    refine ⟨Nat.zero_le _, fun G nG => ?_⟩
    generalize hq_ : L2.upd H2 G _ = H3
    obtain ⟨s3, o3⟩ := _root_.Q.nwS nG hq_
    clear hq_
    have Gp : G ≠ p := B2.new nG
    have s23 := s2.trans s3
    have hl3 := s23 _ _ hl1
    have pT3 : Paired (ptRel H3) vs ps := Paired.mapP pT1 fun _ _ z => z.nl (NL.same s23)
    have lG : l ≠ G := fun z => by rw [← z, s2 _ _ hl1] at nG; cases nG
    -- the rows in another order
    refine ⟨_, rfl, _, rfl, p, l, _, vs, rfl, B2.same s3, by decide, SqL.of hl3, by omega, fun q zs H4 nq kb4 B4 hq pz => ?_⟩
    have nl4 := pool_nl kb4 (B2.same s3)
    obtain ⟨qs, pQ, pmq⟩ := paired_perm pz (Paired.mapP pT3 fun _ _ z => z.nl nl4)
    have qp : q ≠ p := fun z => by
      obtain ⟨_, _, _, _, h1, _⟩ := B2.same s3
      rw [z, h1] at nq
      cases nq
    have qG : q ≠ G := fun z => by rw [z, o3] at nq; cases nq
    have hl4 := kb4 _ _ lp hl3
    have hG4 := kb4 _ _ Gp o3
    have pT4 : Paired (ptRel H4) vs ps := Paired.mapP pT3 fun _ _ z => z.nl nl4
    have lzs := paired_len pQ
    have lqs := pmq.length_eq
    generalize hn : (0 : Int) + (vs.length : Int) = n0 at B4
    have n0b : n0 ≤ 300 := by omega
    refine ⟨q, rfl, ⟨_, SqL.of hq⟩, ?_⟩
    refine for_list (xs := zs) (fun i σ H' => (∃ (v4 v5 : Option V), σ = [some (.ref a), some (.ref l), some (.ref p), some (.ref G), v4, v5]) ∧ (∀ b o, b ≠ p → b ≠ G → H4 b = some o → H' b = some o) ∧ PoolAt H' p (n0 + (i : Int)) ∧ ∃ gs rs, H' G = some (.lst gs) ∧ Paired (gvS p G H') gs rs ∧ (∀ x, x ∈ rs ↔ x ∈ qs.take i) ∧ rs.length ≤ 3 * i) ⟨⟨none, none, rfl⟩, fun _ _ _ _ e => e, B4.mono (by show n0 ≤ n0 + 0; omega), [], [], hG4, .nil, fun x => Iff.rfl, Nat.le_refl _⟩ (fun i σ H' _ x => SqL.of (x.2.1 _ _ qp qG hq)) ?_ ?_
    · rintro i x σ H' ex ⟨⟨v4, v5, rfl⟩, kb, BP, gs, rs, hG, pg, mem, lrs⟩
      have hi : i < qs.length := by
        have := (List.getElem?_eq_some_iff.mp ex).1
        omega
      obtain ⟨x', ex', t, rfl, ht⟩ := paired_at pQ i hi
      rw [ex] at ex'
      cases ex'
      have et : qs.take (i + 1) = qs.take i ++ [qs[i]] := List.take_succ_eq_append_getElem hi
      have tp := pool_tup B4 ht
      have tG : t ≠ G := fun z => by rw [z, hG4] at ht; cases ht
      have ht' := kb _ _ tp tG ht
      have lg := paired_len pg
      refine ⟨_, rfl, .inl ⟨rfl, _, SqL.of hG⟩, _, rfl, ?_⟩
      refine ⟨G, _, _, rfl, rfl, hG, by omega, ?_⟩
      generalize hq_ : L2.upd H' G _ = H5
      obtain ⟨u5, o5⟩ := _root_.Q.updS hq_
      clear hq_
      have ks5 : ∀ b o, b ≠ p → b ≠ G → H' b = some o → H5 b = some o := fun b o _ n2 e => u5 _ _ n2 e
      have pg5 : Paired (gvS p G H5) gs rs := Paired.mapP pg fun _ _ z => z.keep ks5
      have B5 : PoolAt H5 p (n0 + (i : Int)) := BP.off fun b o e z => u5 _ _ (by rw [e]; exact Gp.symm) z
      have pg5' : Paired (gvS p G H5) (gs ++ [.ref t]) (rs ++ [qs[i]]) := paired_app pg5 (.cons ⟨t, rfl, tp, tG, .inl (ks5 _ _ tp tG ht')⟩ .nil)
      have mem5 : ∀ x, x ∈ rs ++ [qs[i]] ↔ x ∈ qs.take (i + 1) := fun x => by rw [et, List.mem_append, List.mem_append, mem x]
      have kb5 : ∀ b o, b ≠ p → b ≠ G → H4 b = some o → H5 b = some o := fun b o n1 n2 e => ks5 _ _ n1 n2 (kb _ _ n1 n2 e)
      refine ⟨_, rfl, p, _, 4, rfl, B5, by omega, by decide, fun r H6 r0 r4 off B6 => ?_⟩
      have k6 := off.kb
      have ks6 : ∀ b o, b ≠ p → b ≠ G → H5 b = some o → H6 b = some o := fun b o n1 _ e => k6 _ _ n1 e
      have kb6 : ∀ b o, b ≠ p → b ≠ G → H4 b = some o → H6 b = some o := fun b o n1 n2 e => ks6 _ _ n1 n2 (kb5 _ _ n1 n2 e)
      refine ⟨fun σ2 H7 => σ2 = [some (.ref a), some (.ref l), some (.ref p), some (.ref G), some (.ref t), some (.int r)] ∧ (∀ b o, b ≠ p → b ≠ G → H4 b = some o → H7 b = some o) ∧ PoolAt H7 p (n0 + (i : Int) + 1) ∧ ∃ gs rs, H7 G = some (.lst gs) ∧ Paired (gvS p G H7) gs rs ∧ (∀ x, x ∈ rs ↔ x ∈ qs.take (i + 1)) ∧ rs.length ≤ 3 * i + 2, ?_, ?_⟩
      · have hG6 := ks6
        refine ⟨_, rfl, rfl, _, rfl, ite2 (fun e => ?_) (fun e => ?_)⟩
        · have hG6 := k6 _ _ Gp o5
          have ht6 := kb6 _ _ tp tG ht
          refine ⟨_, rfl, .inl ⟨rfl, _, SqL.of hG6⟩, _, rfl, t, _, rfl, .inr (SqT.of ht6), fun c nc => ?_⟩
          have cp : c ≠ p := B6.new nc
          have cG : c ≠ G := fun z => by rw [z, hG6] at nc; cases nc
          generalize hq_ : L2.upd H6 c _ = H7
          obtain ⟨s7, o7⟩ := _root_.Q.nwS nc hq_
          clear hq_
          have lg6 := paired_len pg5'
          rw [List.length_append, List.length_append] at lg6
          have l1 : [V.ref t].length = 1 := rfl
          refine ⟨G, _, _, rfl, rfl, s7 _ _ hG6, by rw [List.length_append]; omega, ?_⟩
          generalize hq_ : L2.upd H7 G _ = H8
          obtain ⟨u8, o8⟩ := _root_.Q.updS hq_
          clear hq_
          have ks8 : ∀ b o, b ≠ p → b ≠ G → H5 b = some o → H8 b = some o := fun b o n1 n2 e => u8 _ _ n2 (s7 _ _ (ks6 _ _ n1 n2 e))
          refine ⟨rfl, fun b o n1 n2 e => ks8 _ _ n1 n2 (kb5 _ _ n1 n2 e), (B6.same s7).off fun b o e z => u8 _ _ (by rw [e]; exact Gp.symm) z, _, (rs ++ [qs[i]]) ++ [qs[i]], o8, paired_app (Paired.mapP pg5' fun _ _ z => z.keep ks8) (.cons ⟨c, rfl, cp, cG, .inr (u8 _ _ cG o7)⟩ .nil), fun x => ?_, ?_⟩
          · rw [List.mem_append, mem5 x, et, List.mem_append]
            exact ⟨fun z => z.elim id .inr, .inl⟩
          · rw [List.length_append, List.length_append]
            show rs.length + 1 + 1 ≤ _
            omega
        · refine ⟨rfl, kb6, B6, _, rs ++ [qs[i]], k6 _ _ Gp o5, Paired.mapP pg5' fun _ _ z => z.keep ks6, mem5, ?_⟩
          rw [List.length_append]
          show rs.length + 1 ≤ _
          omega
      · rintro σ2 H7 ⟨rfl, kb7, B7, gs7, rs7, hG7, pg7, mem7, l7⟩
        have lg7 := paired_len pg7
        refine ⟨_, rfl, rfl, _, rfl, ite2 (fun e => ?_) (fun e => ?_)⟩
        · refine ⟨_, rfl, .inl ⟨rfl, _, SqL.of hG7⟩, _, rfl, ?_⟩
          refine ⟨G, _, _, rfl, rfl, hG7, by omega, ?_⟩
          generalize hq_ : L2.upd H7 G _ = H8
          obtain ⟨u8, o8⟩ := _root_.Q.updS hq_
          clear hq_
          have ks8 : ∀ b o, b ≠ p → b ≠ G → H7 b = some o → H8 b = some o := fun b o _ n2 e => u8 _ _ n2 e
          refine ⟨⟨_, _, rfl⟩, fun b o n1 n2 e => ks8 _ _ n1 n2 (kb7 _ _ n1 n2 e), (B7.off fun b o e z => u8 _ _ (by rw [e]; exact Gp.symm) z).mono (by omega), _, rs7 ++ [qs[i]], o8, paired_app (Paired.mapP pg7 fun _ _ z => z.keep ks8) (.cons ⟨t, rfl, tp, tG, .inl (u8 _ _ tG (kb7 _ _ tp tG ht))⟩ .nil), fun x => ?_, ?_⟩
          · rw [List.mem_append, mem7 x, et, List.mem_append]
            exact ⟨fun z => z.elim id .inr, .inl⟩
          · rw [List.length_append]
            show rs7.length + 1 ≤ _
            omega
        · exact ⟨⟨_, _, rfl⟩, kb7, B7.mono (by omega), gs7, rs7, hG7, pg7, mem7, by omega⟩
    · rintro σ H' ⟨⟨v4, v5, rfl⟩, kb, BP, gs, rs, hG, pg, mem, lrs⟩
      rw [lzs, List.take_length] at mem
      have lg := paired_len pg
      have mem' : ∀ x, x ∈ rs ↔ x ∈ ps := fun x => by rw [mem x, pmq.mem_iff]
      -- none
      refine ⟨Nat.zero_le _, fun e1 ne1 => ?_⟩
      generalize hq_ : L2.upd H' e1 _ = H5
      obtain ⟨s5, o5⟩ := _root_.Q.nwS ne1 hq_
      clear hq_
      refine ⟨e1, [], [], [], 1, rfl, .inl (SqL.of o5), .nil, (fun _ => Iff.rfl), rowsK_nil, Nat.le_refl _, by decide, Nat.zero_le _, fun r1 ys1 H6 nr1 s6 hr1 pr1 => ?_⟩
      rw [slabs_nil] at pr1
      obtain rfl : ys1 = [] := by cases pr1; rfl
      refine ⟨Nat.zero_le _, fun e2 ne2 => ?_⟩
      generalize hq_ : L2.upd H6 e2 _ = H7
      obtain ⟨s7, o7⟩ := _root_.Q.nwS ne2 hq_
      clear hq_
      refine ⟨_, _, .tup (SqT.of (s7 _ _ hr1)) .nil, .tup (SqT.of o7) .nil, shaped_ints [], shaped_ints [], _, rfl, ?_⟩
      rw [show PyData.eqv (.tuple []) (.tuple []) = true from rfl]
      refine iteF ⟨Nat.zero_le _, fun e3 ne3 => ?_⟩
      generalize hq_ : L2.upd H7 e3 _ = H8
      obtain ⟨s8, o8⟩ := _root_.Q.nwS ne3 hq_
      clear hq_
      refine ⟨e3, [], [], [], 1, rfl, .inr (SqT.of o8), .nil, (fun _ => Iff.rfl), rowsK_nil, Nat.le_refl _, by decide, Nat.zero_le _, fun r2 ys2 H9 nr2 s9 hr2 pr2 => ?_⟩
      rw [slabs_nil] at pr2
      obtain rfl : ys2 = [] := by cases pr2; rfl
      refine ⟨Nat.zero_le _, fun e4 ne4 => ?_⟩
      generalize hq_ : L2.upd H9 e4 _ = H10
      obtain ⟨s10, o10⟩ := _root_.Q.nwS ne4 hq_
      clear hq_
      refine ⟨_, _, .tup (SqT.of (s10 _ _ hr2)) .nil, .tup (SqT.of o10) .nil, shaped_ints [], shaped_ints [], ?_⟩
      rw [show PyData.eqv (.tuple []) (.tuple []) = true from rfl]
      refine ⟨_, rfl, iteF ?_⟩
      have sA := ((s5.trans s6).trans (s7.trans s8)).trans (s9.trans s10)
      have hl10 := sA _ _ (kb _ _ lp lG hl4)
      have pT10 : Paired (ptRel H10) vs ps := Paired.mapP pT4 fun v c z => by
        obtain ⟨t, e, ht⟩ := z
        exact ⟨t, e, sA _ _ (kb _ _ (pool_tup B4 ht) (fun z => by rw [z, hG4] at ht; cases ht) ht)⟩
      refine ⟨_, rfl, _, rfl, l, G, gs, rs, ps, k, rfl, ⟨vs, SqL.of hl10, Paired.mapP pT10 fun _ _ z => ptS_of z⟩, SqL.of (sA _ _ hG), Paired.mapP pg fun _ _ z => (z.row).same sA, mem', RK, k1, k3, few, by omega, fun H11 s11 => ?_⟩
      refine ⟨_, rfl, iteF ⟨_, rfl, Nat.zero_le _, fun e5 ne5 => ?_⟩⟩
      generalize hq_ : L2.upd H11 e5 _ = H12
      obtain ⟨s12, o12⟩ := _root_.Q.nwS ne5 hq_
      clear hq_
      have s1012 := s11.trans s12
      have pT12 : Paired (ptRel H12) vs ps := Paired.mapP pT10 fun _ _ z => z.nl (NL.same s1012)
      refine ⟨_, _, dp_pts (SqL.of (s1012 _ _ hl10)) (Paired.mapP pT12 fun _ _ z => ptS_of z), dp_pts (ps := []) (SqL.of o12) .nil, shaped_pts _, shaped_pts _, _, rfl, ?_⟩
      rw [eqv_pts]
      refine ite2 (fun c => ?_) (fun c => ?_)
      · exact kQ _
      · have ne : ps ≠ [] := fun z => c (decide_eq_true z)
        exact ⟨_, rfl, _, rfl, l, p, _, ps, k, rfl, ⟨vs, s1012 _ _ hl10, pT12⟩, RK, k1, k3, ne, few, (BP.same sA).same s1012, by omega, fun H' => kQ H'⟩
theorem ok_law (T : Tx K mg) : ∃ fd, FnG P w K mg base CX0 9 (He.ga K "law") fd ["script"] (spLaw K) ∧ FnP K "law" "law" s_law [] (He.ga K "law") fd :=
  let ⟨fd, a, b⟩ := ok_law0 (P := P) (w := w) (base := base) T
  ⟨fd, .of a, b⟩

end
end K07

set_option maxRecDepth 100000
set_option maxHeartbeats 4000000
namespace K07
open PySem PySem.Spec PyProof.Rows L2 Q RZ RT
theorem ends {P : Program} {w : World} {K : PySem.W.Frag} {h : Heap} {mg : Str → Option Value} {f : Addr} (X : K.In h) (G : h.Ns mainGlobals mg) (hf : mg ("law" : Str) = some (.ref f)) (c : SaysE fb fn K) :
    ∃ fd : FuncData, (∀ (s : Shared) (v : Value), BindsTo s fd ⟨[v], []⟩ [("script", v)]) ∧ ∀ base : Heap, K.In base → base.Ns mainGlobals mg → FnG P w K mg base CX0 9 f fd ["script"] (spLaw K) := by
  have T := tx_of X G c
  cases hf.symm.trans T.g_law
  obtain ⟨fd, F⟩ := T.d_law
  refine ⟨fd, fun s v => F.bindsA (ps := ["script"]) (fun _ _ _ _ _ _ us hl => match us, hl with | [_], _ => rfl) s [v] rfl, fun base _ _ => ?_⟩
  obtain ⟨fd', law, F'⟩ := ok_law (P := P) (w := w) (base := base) T
  obtain ⟨_, _, _, _, _, _, _, _, _, _, _, e1, _⟩ := F.ex
  obtain ⟨_, _, _, _, _, _, _, _, _, _, _, e2, _⟩ := F'.ex
  have e := e1.symm.trans e2
  obtain rfl : fd = fd' := by
    injection e with e
    injection e with _ _ e _
    injection e
  exact law

end K07
open PySem PySem.W PySem.Calls PyProof.Rows
set_option maxRecDepth 100000 in
set_option maxHeartbeats 0 in
theorem PySem.Challenge.cw_fewfetches_k07_whole_slab_form_is_one_holds : PySem.Challenge.rw_fewfetches_k07_whole_slab_form_is_one.Holds := by
  w_on; o_law
  refine HandSHeadRun.head_any (r := OpenLaw.row PySem.Challenge.rw_fewfetches_k07_whole_slab_form_is_one) (q := view (OpenLaw.row PySem.Challenge.rw_fewfetches_k07_whole_slab_form_is_one).prog [36]) (H := K07.hk) (ob := K07.ob) (M := 4000) (loose := [("_wall" : PySem.Str), ("FetchError" : PySem.Str), ("BadBox" : PySem.Str), ("BadPage" : PySem.Str), ("is_whole" : PySem.Str), ("MOST_COLUMNS" : PySem.Str), ("HIGHEST" : PySem.Str), ("points_of" : PySem.Str), ("Box" : PySem.Str), ("SIGNS" : PySem.Str), ("slab_parts" : PySem.Str), ("slabs_of" : PySem.Str), ("checked_couples" : PySem.Str), ("check_marks" : PySem.Str), ("place_rows" : PySem.Str), ("Page" : PySem.Str), ("_law_cell" : PySem.Str), ("_law_pool" : PySem.Str), ("_law_pull" : PySem.Str), ("_law_spots" : PySem.Str), ("_law_slabs" : PySem.Str), ("_law_shuffled" : PySem.Str), ("_law_widths" : PySem.Str), ("_law_cutting" : PySem.Str), ("_law_told" : PySem.Str), ("_law_set" : PySem.Str), ("_law_form_holds" : PySem.Str), ("_law_pages_hold" : PySem.Str), ("_law_is_great" : PySem.Str), ("_law_section" : PySem.Str), ("_law_stripes" : PySem.Str)]) (d := HandSHeadRun.topDef (OpenLaw.row PySem.Challenge.rw_fewfetches_k07_whole_slab_form_is_one).prog 36) (kwd := []) K07.ob_eq
    (by kernel_rfl) (fun s => by kernel_rfl) K07.run (by kernel_rfl) (by kernel_rfl) (by kernel_rfl) (by rfl) (by first | assumption | decide +kernel) (by decide +kernel) ⟨rfl, rfl, rfl, rfl, rfl, by decide +kernel⟩ ?hw ?hc
  case hw => w_witness2
  case hc =>
    refine Q.walk_ofG (l := PySem.Challenge.rw_fewfetches_k07_whole_slab_form_is_one) (n := 63) (k := 9) (x := "script") (CX := L2.CX0) rfl (by decide) (by kernel_rfl) ⟨rfl, by decide, by decide⟩ ?F (fun _ _ _ _ z => z)
    intro w mg fa h Y G hmg0
    obtain ⟨K, KX, c⟩ := Y
    have hmg : mg ("law" : PySem.Str) = some (.ref fa) := by
      have e : (HandSHeadRun.topDef (OpenLaw.row PySem.Challenge.rw_fewfetches_k07_whole_slab_form_is_one).prog 36).name = ("law" : PySem.Str) := by kernel_rfl
      rw [← e]
      exact hmg0
    obtain ⟨fd, hb, hF⟩ := K07.ends (P := (PySem.Challenge.rw_fewfetches_k07_whole_slab_form_is_one).prog) (w := w) KX G hmg c
    exact ⟨K, fd, K07.spLaw K, KX, hb, fun H a ns hl _ hS => ⟨a, ns, rfl, hS, fun _ => rfl⟩, hF⟩
#print axioms PySem.Challenge.cw_fewfetches_k07_whole_slab_form_is_one_holds


