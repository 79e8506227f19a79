import PyProof.Rows.All
import Wide.All
import OpenK.AllK
import Wide.FinOn
import KE.KStateDown
import Lean
import PyProof.ReprRoads
import KE.KExcIs
import HandS.Base
import HandS.Call
import HandS.List
import HandS.Comp
import HandS.Ends
import HandS.Exc
import HandS.ExcOwn
import HandS.ExcInit
import HandS.ExcField
import HandS.ExcIs
import HandS.TryOnly
import HandS.Dict
import HandS.Iter
import HandS.Text
import HandS.More
import HandS.Words
import HandS.WordsList
import HandS.WordsDict
import HandS.WordsExc
import HandS.Defaults
import HandS.IsInst
import HandS.Wide
import HandS.Zip
import HandS.Conv
import HandS.Codes
import HandS.TupAny
import HandS.DeepEq
import HandS.Head0
import HandS.Head1
import HandS.Head2
import HandS.HeadEnd
import HandS.HeadHook1
import HandS.HeadHook2
import HandS.HeadNt
import KE.GoesMore
import KE.GoesEnum
import HandS.Rev
import HandS.Walk
import PyProof.CallFns
import KE.GoesComp
import KE.GoesRaise
import HandS.CallSlots
import PyProof.StrBlock2
import PySem.Challenge.RW_fewfetches_k04_wrong_data_texts_at_their
set_option Elab.async false
set_option linter.all false
set_option maxRecDepth 100000
set_option maxHeartbeats 4000000
/-! What all our proofs share: how a caller takes a def, heaps, an exception's isinstance, repr of data. -/
namespace Q
open PySem PySem.Spec PyProof.Rows L2
/-! ### a def as its callers take it -/
structure Cal (P : Program) (w : World) (K : PySem.W.Frag) (mg : Str → Option Value) (base : Heap) (CX : CXT) (k : Nat) (x : Str) (ps : List Str) (dvs : List V) (sp : Sp) : Prop where
  ex : ∃ (f : Addr) (fd : FuncData) (ds : List Value), FnOk P w K mg base CX k f fd ps sp ∧ mg x = some (.ref f) ∧ PySem.W.keepIn K (.ref f) = true ∧ Binds K fd ps ds ∧ Vals dvs ds
section
variable {X : Cx} {CX : CXT} {k : Nat} {ps : List Str} {sp : Sp} {dvs : List V} {E : XK} {x : Str} {p pos : Pos} {e : Expr} {es : List Expr} {t : TA}
theorem pe_cal (C : Cal X.prog X.w X.K X.mg X.base CX k x ps dvs sp) (hr : Room k X.A) (hx : Passes CX X E) (ha : PA X (e :: es) t) (hg : Gl X x := by rfl) (hdb : (x == ("__debug__" : Str)) = false := by decide)
    (he : starEach (e :: es) X.env = (false, eval e X.env) :: starEach es X.env := by rfl) (hpl : (backTo pos (starEach es X.env)).any (·.1) = false := by rfl) :
    PE X (.Call (.Name x p) (e :: es) [] pos) (tCall sp dvs E t) := by
  obtain ⟨f, fd, ds, G, g, kp, b, v⟩ := C.ex
  exact pe_call G hr hg g kp b v hx ha hdb he hpl
theorem pe_cal0 (C : Cal X.prog X.w X.K X.mg X.base CX k x ps dvs sp) (hr : Room k X.A) (hx : Passes CX X E) (hg : Gl X x := by rfl) (hdb : (x == ("__debug__" : Str)) = false := by decide) :
    PE X (.Call (.Name x p) [] [] pos) (tCall sp dvs E tNil) := by
  obtain ⟨f, fd, ds, G, g, kp, b, v⟩ := C.ex
  exact pe_call0 G hr hg g kp b v hx hdb
end
section
variable {X : Cx} {CX : CXT} {k : Nat} {ps : List Str} {sp : Sp} {E : L2.St → XK} {x : Str} {p pos : Pos} {e : Expr} {es : List Expr} {t : TA}
theorem pe_calS (C : Cal X.prog X.w X.K X.mg X.base CX k x ps [] sp) (hr : Room k X.A) (hx : ∀ σ, PassesAt CX X σ (E σ)) (ha : PA X (e :: es) t) (hg : Gl X x := by rfl) (hdb : (x == ("__debug__" : Str)) = false := by decide)
    (he : starEach (e :: es) X.env = (false, eval e X.env) :: starEach es X.env := by rfl) (hpl : (backTo pos (starEach es X.env)).any (·.1) = false := by rfl) :
    PE X (.Call (.Name x p) (e :: es) [] pos) (tCallS sp E t) := by
  obtain ⟨f, fd, ds, G, g, kp, b, v⟩ := C.ex
  cases v
  exact pe_callS G hr hg g kp b hx ha hdb he hpl
end
/-! ### an instance made by an __init__ that may raise, in a try's body -/
section
variable {X : Cx} {CX : CXT} {k : Nat} {f C : Addr} {fd : FuncData} {ps : List Str} {sp : Sp} {E : L2.St → XK} {x : Str} {p pos : Pos} {e : Expr} {es : List Expr} {t : TA}
theorem run_newS {pins : List (Addr × Obj)} {σ : L2.St} {H : Hp} {s : Shared} {Q : VK} {us : List Value} {vs : List V} (M : Mk X.K C f) (F : FnOk X.prog X.w X.K X.mg X.base CX k f fd ps sp) (hr : Room (k + 1) X.A) (hb : Binds X.K fd ps [])
    (hx : PassesAt CX X σ (E σ)) (I : Inv X pins σ H s) (r : Vals vs us)
    (h : ∀ y dy, H y = none → H dy = none → dy ≠ y → sp (.ref y :: vs) (upd (upd H dy (.own y)) y (.ins C dy [])) (fun v H2 => v = .non ∧ Q (.ref y) H2) (E σ)) :
    wpAny (model X.prog X.w) X.A (call (.ref C) us) (EP X pins σ Q) X.xe s := by
  have n1 : H (s.heap.objs.size + 1) = none := I.hok.fresh (Nat.le_succ _)
  have n0 : H s.heap.objs.size = none := I.hok.fresh (Nat.le_refl _)
  have todo := h _ _ n1 n0 (Nat.ne_of_lt (Nat.lt_succ_self _))
  have J := Inv.made (C := C) I
  have rr : Vals (V.ref (s.heap.objs.size + 1) :: vs) (Value.ref (s.heap.objs.size + 1) :: us) := .cons rfl r
  have ln : (Value.ref (s.heap.objs.size + 1) :: us).length = ps.length := by
    have e1 := rr.length
    have e2 := F.len _ _ _ _ todo
    omega
  have bb := hb _ (Value.ref (s.heap.objs.size + 1) :: us) J.kIn (by rw [List.append_nil]; exact ln)
  rw [List.append_nil] at bb
  refine wpAny_call (make_map (f := f) I.kIn M.makes M.init (beq_iff_eq.mp M.fn) (codeAny_mono
    (F.run _ X.stack _ _ ⟨Value.ref (s.heap.objs.size + 1) :: us, []⟩ _ _ _ (E σ) (hr.make C us []) (J.env0.make C us []) bb rr todo) fun r s' z => ?_))
  cases r with
  | error er => exact hx pins _ _ er s' J z
  | ok fl =>
    cases fl with
    | ret u =>
      obtain ⟨v, H', I3, rv, ev, q3⟩ := J.after z
      subst ev
      exact ⟨rv, V.ref (s.heap.objs.size + 1), H', I3, rfl, q3⟩
    | next => exact z.elim
    | brk => exact z.elim
    | cont => exact z.elim
def tNewS (C : Addr) (sp : Sp) (E : L2.St → XK) (t : TA) : TE := fun σ H Q => t σ H fun vs H1 => ∀ y dy, H1 y = none → H1 dy = none → dy ≠ y →
  sp (.ref y :: vs) (upd (upd H1 dy (.own y)) y (.ins C dy [])) (fun v H2 => v = .non ∧ Q (.ref y) H2) (E σ)
theorem pe_newS (M : Mk X.K C f) (F : FnOk X.prog X.w X.K X.mg X.base CX k f fd ps sp) (hr : Room (k + 1) X.A) (hm : X.mg x = some (.ref C)) (hb : Binds X.K fd ps []) (hx : ∀ σ, PassesAt CX X σ (E σ))
    (ha : PA X (e :: es) t) (hg : Gl X x := by rfl) (hdb : (x == ("__debug__" : Str)) = false := by decide) (he : starEach (e :: es) X.env = (false, eval e X.env) :: starEach es X.env := by rfl)
    (hpl : (backTo pos (starEach es X.env)).any (·.1) = false := by rfl) : PE X (.Call (.Name x p) (e :: es) [] pos) (tNewS C sp E t) := by
  refine ⟨fun pins s σ H Q I h => wpAny_Call_Name_kw (ld_glob I hg hm ?_ hdb)⟩
  refine PySem.W.callWith_K (h₀ := X.base) I.ok.mod.kin M.kp (thn (ha.run pos pins s σ H _ I h) fun us s1 ⟨vs, H1, I1, r, q⟩ => ⟨I1.kIn, ?_⟩) he hpl
  exact run_newS M F hr hb (hx σ) I1 r q
end
/-! ### isinstance of a caught exception, its dict there or not -/
def rIsX (K : PySem.W.Frag) (D a : Addr) (cls : Value) (d : Option Addr) : List V → Hp → VK → Prop := fun xs H Q => cls = .ref D ∧ (∀ dd, d = some dd → ∃ o, H dd = some o) ∧ rIsE K D a xs H Q
theorem call_isX {X : Cx} {a D : Addr} {oe : Obj} {cls : Value} {d : Option Addr} {pn : List (Addr × Obj)} (T : ExcC X.K D) (hz : Zc cls d oe) (hf : ∃ vs, oe.data = .fields vs) : CallR (X.suite a ((a, oe) :: pn)) (.builtin "isinstance") (rIsX X.K D a cls d) := by
  intro pins s σ H xs us Q I r h
  obtain ⟨rfl, there, c, cv, b, rfl, hcv, e, q⟩ := h
  obtain ⟨u1, u2, rfl, r1, r2⟩ := vals2 r
  obtain rfl : u1 = Value.ref a := r1
  obtain rfl := hcv _ r2
  have got := (I.pin (a, oe) (List.mem_append_left _ List.mem_cons_self)).1
  obtain ⟨vs, hv⟩ := hf
  have nc : PySem.W.notCls oe := by
    unfold PySem.W.notCls
    rw [hv]
  obtain ⟨od, hod⟩ : ∃ od : Option Obj, PySem.W.InstAt s.heap a oe D od := by
    cases d with
    | none => exact ⟨none, got, hz.1, nc, by rw [hz.2]; trivial⟩
    | some dd =>
      obtain ⟨o, ho⟩ := there dd rfl
      obtain ⟨u, hu⟩ := objOk_get (I.hok dd o ho)
      exact ⟨some u, got, hz.1, nc, by rw [hz.2]; exact hu⟩
  exact PySem.W.kia_one (PySem.W.kitx_exc (od := od) (by obtain ⟨cd, hc, _⟩ := PySem.W.any_some T.hd; rw [hc]; rfl) T.hg T.hk T.hs T.ha T.hn T.ht T.hm) I.kIn hod e (fun z => nomatch z) fun tk => ⟨.bl b, H, I.kept (t' := tk) fun _ _ z => z, rfl, q⟩
/-! ### repr of data that stands in the heap: asked where no repr runs around -/
def rReprD (K : PySem.W.Frag) : List V → Hp → VK → Prop := fun xs H Q => ∃ (x : V) (d : PyData), xs = [x] ∧ Dp K H x d ∧ (∃ a, x = .ref a) ∧ d.showable = true ∧ d.hasDict = false ∧ d.depth ≤ 60 ∧ d.shown.length ≤ sizeLine ∧ Q (.str d.shown) H
theorem call_reprD {X : Cx} (hg : X.A.guards = some []) (hu : X.A.units + 64 < cLine) : CallR X (.builtin "repr") (rReprD X.K) := by
  intro pins s σ H xs us Q I r h
  obtain ⟨x, d, rfl, hD, ⟨a, rfl⟩, hs, hno, hdp, hl, q⟩ := h
  obtain ⟨u, rfl, r1⟩ := vals1 r
  obtain rfl : u = Value.ref a := r1
  obtain ⟨as, rd⟩ := Dp.reads I d _ _ hD rfl
  refine repr_of_reads' rd hs (fun z => by rw [hno] at z; cases z) hg (by omega) (fun _ _ e => e) (fun h' t tk hk => ⟨.str d.shown, H, I.kept (t' := tk) hk, ⟨t, rfl⟩, q⟩) hl
/-! ### defs that ask for this: their promise is kept where no repr runs around -/
structure FnG (P : Program) (w : World) (K : PySem.W.Frag) (mg : Str → Option Value) (base : Heap) (CX : CXT) (k : Nat) (f : Addr) (fd : FuncData) (ps : List Str) (sp : Sp) : Prop where
  len : ∀ vs H Q E, sp vs H Q E → vs.length = ps.length
  run : ∀ (A : Around) (outer : List Env) (s : Shared) (H : Hp) (args : Args) (us : List Value) (vs : List V) (Q : VK) (E : XK), A.guards = some [] → Room k A → Env0 P w K mg base A outer s H → BindsTo s fd args (ps.zip us) → Vals vs us →
    sp vs H Q E → codeAny (model P w) A (.call (.ref f) args) (CR CX outer P w H s Q E) s
theorem FnG.of {P : Program} {w : World} {K : PySem.W.Frag} {mg : Str → Option Value} {base : Heap} {CX : CXT} {k : Nat} {f : Addr} {fd : FuncData} {ps : List Str} {sp : Sp} (F : FnOk P w K mg base CX k f fd ps sp) : FnG P w K mg base CX k f fd ps sp :=
  ⟨F.len, fun A outer s H args us vs Q E _ => F.run A outer s H args us vs Q E⟩
section
variable {P : Program} {w : World} {K : PySem.W.Frag} {mg : Str → Option Value} {base : Heap} {x qual : Str} {params : Arguments} {body : List Stmt} {scope : Scope} {dvs : List V} {kws : List (Str × V)} {f : Addr} {fd : FuncData} {CX : CXT} {N ps : List Str} {k : Nat} {sp : Sp}
theorem funG (F : FunD K x qual params body scope dvs kws f fd) (S : FnScope N ps scope) (len : ∀ vs H Q E, sp vs H Q E → vs.length = ps.length)
    (hbody : ∀ (cdv : Value) (A : Around) (outer : List Env) (s : Shared) (H : Hp) (vs : List V) (Q : VK) (E : XK), A.guards = some [] → Room k (A.deeper (envOfC qual scope s.heap.objs.size f cdv)) → sp vs H Q E →
      ∃ t, PSs (cxOf CX P w K mg base N qual scope f cdv A outer s H E) body t ∧ t { nx := fun _ H' => Q .non H', rt := Q } (start N vs) H) : FnG P w K mg base CX (k + 1) f fd ps sp := by
  obtain ⟨oc, od, dV, kV, doc, pm, an, cdv, ct, osl, rfl, lk, hcd, -, -⟩ := F.ex
  refine ⟨len, fun A outer s H args us vs Q E gd hr e0 hb r todo => ?_⟩
  have hlen := len _ _ _ _ todo
  have inH : K.In s.heap := e0.mod.kin.keeps fun b o z => (e0.bs b o z).1
  have noLim : s.heap.NoLimit := e0.mod.nolimit.keeps fun b o z => (e0.bs b o z).1
  refine codeAny_call_function hr.depth (inH _ _ lk) rfl S.co S.gen rfl (PySem.W.codeRec_of inH hcd) (hb _ _ _ _ (wpAny_newFunctionEnv_cells S.kind (fun y hy => ?_) fun env he s1 entered => ?_))
  · rcases S.par y.1 (List.of_mem_zip (show (y.1, y.2) ∈ ps.zip us from hy)).1 with c | c
    · exact .inl c
    · exact .inr ⟨c, PySem.W.cellsFrom_some _ _ _ (.inl c)⟩
  · subst he
    obtain ⟨t, ht, hq⟩ := hbody cdv A outer s H vs Q E gd (hr.deeper _) todo
    have J : Inv (cxOf CX P w K mg base N qual scope f cdv A outer s H E) [] (start N vs) H s1 := inv_start S hr.hd e0 hlen r entered
    refine ⟨noLim.keeps entered.toInCall.keep, codeAny_func (wpAny_mono (ht.run [] s1 (start N vs) H _ J hq) (fun fl s' over => ?_) fun _ _ z => z)⟩
    cases fl with
    | ret u => exact let ⟨v, _, H', J', rv, qv⟩ := over; ⟨v, H', J'.os, J'.bare, J'.base, J'.hok, rv, qv⟩
    | next => exact let ⟨_, H', J', qv⟩ := over; ⟨V.non, H', J'.os, J'.bare, J'.base, J'.hok, rfl, qv⟩
    | brk => exact let ⟨_, _, _, z⟩ := over; False.elim z
    | cont => exact let ⟨_, _, _, z⟩ := over; False.elim z
end
structure CalG (P : Program) (w : World) (K : PySem.W.Frag) (mg : Str → Option Value) (base : Heap) (CX : CXT) (k : Nat) (x : Str) (ps : List Str) (dvs : List V) (sp : Sp) : Prop where
  ex : ∃ (f : Addr) (fd : FuncData) (ds : List Value), FnG P w K mg base CX k f fd ps sp ∧ mg x = some (.ref f) ∧ PySem.W.keepIn K (.ref f) = true ∧ Binds K fd ps ds ∧ Vals dvs ds
section
variable {X : Cx} {CX : CXT} {k : Nat} {ps : List Str} {sp : Sp} {dvs : List V} {E : XK} {x : Str} {p pos : Pos} {e : Expr} {es : List Expr} {t : TA}
theorem pe_calG (C : CalG X.prog X.w X.K X.mg X.base CX k x ps dvs sp) (gd : X.A.guards = some []) (hr : Room k X.A) (hx : Passes CX X E) (ha : PA X (e :: es) t) (hg : Gl X x := by rfl) (hdb : (x == ("__debug__" : Str)) = false := by decide)
    (he : starEach (e :: es) X.env = (false, eval e X.env) :: starEach es X.env := by rfl) (hpl : (backTo pos (starEach es X.env)).any (·.1) = false := by rfl) :
    PE X (.Call (.Name x p) (e :: es) [] pos) (tCall sp dvs E t) := by
  obtain ⟨f, fd, ds, G, g, kp, hb, hd⟩ := C.ex
  refine ⟨fun pins s σ H Q I h => wpAny_Call_Name_kw (ld_glob I hg g ?_ hdb)⟩
  refine PySem.W.callWith_K (h₀ := X.base) I.ok.mod.kin kp (thn (ha.run pos pins s σ H _ I h) fun us s1 ⟨vs, H1, I1, r, q⟩ => ⟨I1.kIn, ?_⟩) he hpl
  have rr : Vals (vs ++ dvs) (us ++ ds) := r.append hd
  have ln : (us ++ ds).length = ps.length := rr.length.symm.trans (G.len _ _ _ _ q)
  refine wpAny_call (codeAny_mono (G.run X.A X.stack s1 H1 ⟨us, []⟩ _ _ Q E gd hr I1.env0 (hb s1 us I1.kIn ln) rr q) fun res s' z => ?_)
  cases res with
  | error er => exact hx pins σ H1 s1 er s' I1 z
  | ok fl =>
    cases fl with
    | ret u => exact I1.after z
    | next => exact z.elim
    | brk => exact z.elim
    | cont => exact z.elim
end
/-! ### the law's end, its def's promise kept where no repr runs around -/
section
open PySem.W
/-- the heap in which the script alone is tracked (as the object that it is), or nothing -/
def scriptH (K : Frag) (a : Addr) (vs : List Value) (ns : List Int) : Hp := fun b => if b = a ∧ K.lookup a = none then some (.frz { cls := .type "list", data := .seq vs.toArray } (.lst (ns.map V.int))) else none
theorem scriptH_some {K : Frag} {a b : Addr} {vs : List Value} {ns : List Int} {u : HO} (h : scriptH K a vs ns b = some u) : b = a ∧ K.lookup a = none ∧ u = .frz { cls := .type "list", data := .seq vs.toArray } (.lst (ns.map V.int)) := by
  unfold scriptH at h
  split at h
  · rename_i c
    exact ⟨c.1, c.2, (Option.some.inj h).symm⟩
  · cases h
theorem law_callG {P : Program} {w : World} {K : Frag} {mg mb : Str → Option Value} {CX : CXT} {k : Nat} {fa a : Addr} {fd : FuncData} {x : Str} {sp : Sp} {s₁ : Shared} {vs : List Value} {ns : List Int}
    (KX : K.In s₁.heap) (hns : s₁.heap.Ns mainGlobals mg) (hb : s₁.heap.Ns builtinsNs mb) (hbb : ∀ x : Str, x ≠ "__name__" → mb x = bootBuiltins x) (hlim : s₁.heap.NoLimit) (hg : s₁.gens = #[])
    (ha : s₁.heap.get? a = some { cls := .type "list", data := .seq vs.toArray }) (hi : IntsAre vs ns) (hl : ns.length ≤ sizeLine) (hr : Room k callerA)
    (F : ∀ base : Heap, K.In base → base.Ns mainGlobals mg → FnG P w K mg base CX k fa fd [x] sp) (hbind : ∀ (s : Shared) (u : Value), BindsTo s fd ⟨[u], []⟩ [(x, u)])
    (hsp : ∀ H : Hp, Only H → SqL K H a (ns.map V.int) → sp [.ref a] H (fun v _ => v = .bl true) fun _ _ _ => False) (hCX : ∀ H e s', CX [] H s₁ (fun _ _ _ => False) e s' → False) :
    codeAny (model P w) callerA (.call (.ref fa) ⟨[.ref a], []⟩) (fun r s' => r = .ok (.ret (.bool true)) ∧ OldK s₁.heap s'.heap ∧ s'.os = s₁.os ∧ AllBare s'.gens) s₁ := by
  generalize hH : scriptH K a vs ns = H
  have only : Only H := fun b => by
    cases q : H b with
    | none => exact .inl rfl
    | some u =>
      rw [← hH] at q
      obtain ⟨-, -, rfl⟩ := scriptH_some q
      exact .inr ⟨_, _, rfl⟩
  have ok : HOk P w H s₁.heap := fun b u q => by
    rw [← hH] at q
    obtain ⟨rfl, -, rfl⟩ := scriptH_some q
    exact ⟨ha, by rw [List.length_map]; exact hl, vs, _, vals_ints hi, ha⟩
  have isA : ∀ b u, H b = some u → b = a ∧ K.lookup a = none := fun b u q => by
    rw [← hH] at q
    exact ⟨(scriptH_some q).1, (scriptH_some q).2.1⟩
  have seen : SqL K H a (ns.map V.int) := by
    cases hk : K.lookup a with
    | some o =>
      have z := KX a o hk
      rw [ha] at z
      cases z
      exact .inr ⟨_, vs.toArray, _, hk, rfl, rfl, rfl, by rw [List.size_toArray, hi.length]; exact hl, by simpa using vals_ints hi⟩
    | none => exact .inl (.inr ⟨{ cls := .type "list", data := .seq vs.toArray }, by rw [← hH]; unfold scriptH; rw [if_pos ⟨rfl, hk⟩]⟩)
  have dictFree : ∀ {b : Addr} {o : Obj} {es : Array DictEntry} {ep : Nat}, s₁.heap.get? b = some o → o.data = .dict es ep → H b = none := fun {b o es ep} e d => by
    cases q : H b with
    | none => rfl
    | some u =>
      obtain ⟨rfl, -⟩ := isA b u q
      rw [ha] at e
      cases e
      cases d
  have nsOn : ∀ {b : Addr} {m : Str → Option Value}, s₁.heap.Ns b m → (hidT s₁.heap H).Ns b m := fun {b m} ⟨o, es, ep, e, d, r⟩ => ⟨o, es, ep, hidT_get e (dictFree e d), d, r⟩
  have kinB : K.In (hidT s₁.heap H) := fun b o e => hidT_get (KX b o e) (by
    cases q : H b with
    | none => rfl
    | some u =>
      obtain ⟨rfl, z⟩ := isA b u q
      rw [z] at e
      cases e)
  have e0 : Env0 P w K mg (hidT s₁.heap H) callerA [] s₁ H :=
    ⟨rfl, ⟨kinB, nsOn hns, ⟨mb, nsOn hb, hbb⟩, let ⟨mc, h1, h2⟩ := hlim; ⟨mc, nsOn h1, h2⟩⟩, fun b o e => of_hidT e, Nat.le_of_eq (hidT_size _ _), trivial, fun b hb => absurd (show b ∈ ([] : List Addr) from hb) (by simp), ok, .of_eq hg⟩
  refine codeAny_mono ((F _ kinB (nsOn hns)).run callerA [] s₁ H ⟨[.ref a], []⟩ [.ref a] [.ref a] _ _ rfl hr e0 (hbind s₁ (.ref a)) (.cons rfl .nil) (hsp H only seen)) fun res s' z => ?_
  cases res with
  | error e => exact (hCX H e s' z).elim
  | ok fl =>
    cases fl with
    | ret u =>
      obtain ⟨v, H', os, bare, un, hok', rv, qv⟩ := z
      have ev : v = .bl true := qv
      subst ev
      obtain rfl : u = Value.bool true := rv
      refine ⟨rfl, OldK.of_keep fun b o e => ?_, os, bare⟩
      cases q : H b with
      | none => exact un.keep b o e q (fun z => absurd (show b ∈ ([] : List Addr) from z) (by simp)) (by simp)
      | some u =>
        rcases only b with z | ⟨ob, xs, z⟩
        · rw [z] at q
          cases q
        · have now := (hok' b _ (un.frzs b ob _ z)).1
          have old := (ok b _ z).1
          rw [e] at old
          cases old
          exact now
    | next => exact z.elim
    | brk => exact z.elim
    | cont => exact z.elim
theorem walk_ofG {l : PySem.W.OpenLaw} {n k : Nat} {q : Program} {loose : List Str} {XP : (Str → Option Value) → Heap → Prop} {YP : World → Heap → Prop} {d : DefRec} {CX : CXT} {x : Str}
    (hn : l.most = some n) (hn2 : n ≤ sizeLine) (hdf : d.params.defaults = []) (hr : Room k callerA)
    (F : ∀ (w : World) (mg : Str → Option Value) (fa : Addr) (h : Heap), YP w h → h.Ns mainGlobals mg → mg d.name = some (.ref fa) →
      ∃ (K : PySem.W.Frag) (fd : FuncData) (sp : Sp), K.In h ∧ (∀ (s : Shared) (u : Value), BindsTo s fd ⟨[u], []⟩ [(x, u)]) ∧
        (∀ (H : Hp) (a : Addr) (ns : List Int), ns.length ≤ n → Only H → SqL K H a (ns.map V.int) → sp [.ref a] H (fun v _ => v = .bl true) fun _ _ _ => False) ∧
        ∀ base : Heap, K.In base → base.Ns mainGlobals mg → FnG l.prog w K mg base CX k fa fd [x] sp)
    (hCX : ∀ (H : Hp) (s : Shared) (e : Value) (s' : Shared), CX [] H s (fun _ _ _ => False) e s' → False) : PySem.W.WalkO q loose XP YP l.row.toRowW d [] (fun f vs => PySem.call f vs) := by
  refine Att.attach_call hn hdf fun w s₀ s₁ mg mb fa o pm cd doc a vs ns G Y _ _ _ hmg hobj hints hlen hg => ?_
  obtain ⟨K, fd, sp, KX, hbd, hsp, hF⟩ := F w mg fa _ Y G.T.g hmg
  exact law_callG KX G.T.g G.T.b G.T.builtins G.T.nolimit hg hobj hints (Nat.le_trans hlen hn2) hr hF hbd (fun H hO hS => hsp H a ns hlen hO hS) fun H e s' => hCX H s₁ e s'
end
/-! ### facts of the top, told by one Bool -/
section
open PySem.W
def obsF (fb : Frag → Bool) (fn : List He.DefD) (K : Frag) : He.AlD := (fb K && fn.all fun d => d.ok K, fn.map fun d => He.fnW K d.at_)
def SaysF (fb : Frag → Bool) (fn : List He.DefD) (K : Frag) : Prop := obsF fb fn K = He.valD fn
def obsFG (n : Nat) (fb : Frag → Bool) (fn : List He.DefD) (g : Addr → Option Obj) : He.AlD := obsF fb fn (He.frG g (He5.asA g n))
def hookF (n : Nat) (fb : Frag → Bool) (fn : List He.DefD) : Hook where
  α := He.AlD
  obs := fun s => obsFG n fb fn s.heap.get?
  val := fun _ => He.valD fn
  says := fun _ h => ∃ K : Frag, K.In h ∧ SaysF fb fn K
  of := fun _ _ e => ⟨_, He.frG_in, e⟩
  keeps := fun _ _ _ ⟨K, inK, c⟩ k => ⟨K, Frag.In.keeps inK k, c⟩
theorem obsFG_eq {n : Nat} {fb : Frag → Bool} {fn : List He.DefD} {g : Addr → Option Obj} {s : Shared} (h : ∀ a, g a = s.heap.get? a) : obsFG n fb fn g = (hookF n fb fn).obs s := by
  obtain rfl : g = s.heap.get? := funext h
  rfl
theorem SaysF.all {fb : Frag → Bool} {fn : List He.DefD} {K : Frag} (c : SaysF fb fn K) : fb K = true ∧ ∀ d ∈ fn, d.ok K = true := by
  have z : (fb K && fn.all fun d => d.ok K) = true := congrArg (fun z : He.AlD => z.1) c
  exact ⟨(Bool.and_eq_true_iff.mp z).1, List.all_eq_true.mp (Bool.and_eq_true_iff.mp z).2⟩
theorem SaysF.def_ {fb : Frag → Bool} {fn : List He.DefD} {K : Frag} (c : SaysF fb fn K) {d : He.DefD} (h : d ∈ fn) : ∃ fd, FunD K d.name d.qual d.params d.body d.scope (d.dvs K) (d.kws K) (He.fAd K d.at_) fd := by
  have e : fn.map (fun d => He.fnW K d.at_) = fn.map He.DefD.val := congrArg (fun z : He.AlD => z.2) c
  exact He.DefD.funD (List.map_inj_left.mp e d h) (c.all.2 d h)
end
/-! ### an own exception class with an __init__ of its own, as one Bool -/
section
open PySem.W
def oexB (K : Frag) (C : Addr) : Bool := (match K.lookup C with
  | some ⟨.type "type", _, .cls cd, sl⟩ => (match cd.mro, sl.toList with
    | .ref C' :: bm, [_, _, _, _, some (.builtin n), _] => C' == C && (n == "ValueError.__new__" && (!cd.hasDel && (cd.hasDict && HandSPX.refsVE bm)))
    | _, _ => false)
  | _ => false) && (decide (findIn K (.ref C) "__setattr__" = some (some (.builtin "object.__setattr__"))) && (decide (subIn K (.ref C) (.type "BaseException") = some true) && (decide (typeIn K (.ref C) = some (.type "type")) && keepIn K (.ref C))))
theorem oexB_ok {K : Frag} {C : Addr} (h : oexB K C = true) : OexC K C := by
  obtain ⟨h1, h⟩ := He.ba h
  obtain ⟨h2, h⟩ := He.ba h
  obtain ⟨h3, h⟩ := He.ba h
  obtain ⟨h4, h5⟩ := He.ba h
  refine ⟨?_, of_decide_eq_true h2, of_decide_eq_true h3, of_decide_eq_true h4, h5⟩
  split at h1
  · rename_i dd cd sl found
    split at h1
    · rename_i C' bm k0 k1 k2 k3 n k5 isMro isSl
      obtain ⟨e1, h1⟩ := He.ba h1
      obtain ⟨e2, h1⟩ := He.ba h1
      obtain ⟨e3, h1⟩ := He.ba h1
      obtain ⟨e4, e5⟩ := He.ba h1
      obtain rfl := beq_iff_eq.mp e1
      obtain rfl := beq_iff_eq.mp e2
      obtain ⟨nm, bs, mro, ns, qn, hd, sn, sub, ab, col, del⟩ := cd
      obtain ⟨l⟩ := sl
      dsimp only at isMro isSl e3 e4
      subst isMro isSl e4
      obtain rfl : del = false := by simpa using e3
      exact ⟨nm, qn, ns, bs, bm, sn, sub, ab, col, dd, k0, k1, k2, k3, k5, found, e5⟩
    · cases h1
  · cases h1
def excB (K : Frag) (D : Addr) : Bool := decide (findIn K (.ref D) "__getattribute__" = some (some (.builtin "BaseException.__getattribute__"))) && (decide (findIn K (.ref D) "__getattr__" = some none) && (decide (subIn K (.ref D) (.type "BaseException") = some true) && (hasDictIn K D &&
  (decide (findIn K (.ref D) "__class__" = some (some (.builtin "object.__class__"))) && (decide (specialIn K (.builtin "object.__class__") "__get__" = some (some (.builtin "getset_descriptor.__get__"))) && (decide (takesIn K (.builtin "object.__class__") = some true) && decide (mroIn K D (.type "object") = some true)))))))
theorem excB_ok {K : Frag} {D : Addr} (h : excB K D = true) : ExcC K D := by
  obtain ⟨h1, h⟩ := He.ba h
  obtain ⟨h2, h⟩ := He.ba h
  obtain ⟨h3, h⟩ := He.ba h
  obtain ⟨h4, h⟩ := He.ba h
  obtain ⟨h5, h⟩ := He.ba h
  obtain ⟨h6, h⟩ := He.ba h
  obtain ⟨h7, h8⟩ := He.ba h
  exact ⟨of_decide_eq_true h1, of_decide_eq_true h2, of_decide_eq_true h3, h4, of_decide_eq_true h5, of_decide_eq_true h6, of_decide_eq_true h7, of_decide_eq_true h8⟩
theorem xfC_of {K : Frag} {D : Addr} (h : ExcC K D) : XfC K D := ⟨h.hg, h.hk, h.hs, h.hd⟩
end
/-! ### constants of the top; heaps that part at one address alone; the laws' bag of draws -/
section
variable {X : Cx} {x : Str} {pos : Pos}
theorem pe_gint {i : Int} (h : ∃ t, X.mg x = some (.int i t)) (hg : Gl X x := by rfl) (hd : (x == ("__debug__" : Str)) = false := by decide) : PE X (.Name x pos) (tC (.int i)) := by
  obtain ⟨t, e⟩ := h
  exact pe_glob hg e ⟨t, rfl⟩ hd
theorem pe_gstr {z : Str} (h : ∃ t, X.mg x = some (.str z t)) (hg : Gl X x := by rfl) (hd : (x == ("__debug__" : Str)) = false := by decide) : PE X (.Name x pos) (tC (.str z)) := by
  obtain ⟨t, e⟩ := h
  exact pe_glob hg e ⟨t, rfl⟩ hd
end
/-- H' is H but at b -/
def Off (b : Addr) (H H' : Hp) : Prop := ∀ a, a ≠ b → H' a = H a
theorem Off.refl (b : Addr) (H : Hp) : Off b H H := fun _ _ => rfl
theorem Off.trans {b : Addr} {H H1 H2 : Hp} (h : Off b H H1) (h' : Off b H1 H2) : Off b H H2 := fun a n => (h' a n).trans (h a n)
theorem Off.upd {b : Addr} {H : Hp} {o : HO} : Off b H (upd H b o) := fun _ n => upd_ne n
theorem Off.at {b a : Addr} {H H' : Hp} {o : HO} (h : Off b H H') (n : a ≠ b) (e : H a = some o) : H' a = some o := (h a n).trans e
theorem same_new {H : Hp} {p : Addr} {o : HO} (h : H p = none) : Same H (upd H p o) := fun b x e => by
  rw [upd_ne (ne_of_none e h)]
  exact e
/-- all that was tracked, but for the object at b, is as it was -/
def Kb (b : Addr) (H H' : Hp) : Prop := ∀ a o, a ≠ b → H a = some o → H' a = some o
theorem Kb.refl (b : Addr) (H : Hp) : Kb b H H := fun _ _ _ e => e
theorem Kb.trans {b : Addr} {H H1 H2 : Hp} (h : Kb b H H1) (h' : Kb b H1 H2) : Kb b H H2 := fun a o n e => h' a o n (h a o n e)
theorem Off.kb {b : Addr} {H H' : Hp} (h : Off b H H') : Kb b H H' := fun _ _ n e => h.at n e
theorem Kb.of_same {b : Addr} {H H' : Hp} (h : Same H H') : Kb b H H' := fun a o _ e => h a o e
theorem kb_new {b : Addr} {H : Hp} {p : Addr} {o : HO} (h : H p = none) : Kb b H (L2.upd H p o) := .of_same (same_new h)
abbrev bagO (c : Addr) (p r k m : Int) : HO := .lst [.ref c, .int p, .int r, .int k, .int m]
/-- a bag at b, its cells at c, of which at most n draws were made -/
def BagAt (H : Hp) (b c : Addr) (n : Int) : Prop := ∃ (ns : List Int) (p : Nat) (r k m : Int), H b = some (bagO c p r k m) ∧ H c = some (.lst (ns.map V.int)) ∧ 0 ≤ k ∧ k ≤ n ∧ 0 ≤ m ∧ m < 2147483647
theorem BagAt.mono {H : Hp} {b c : Addr} {n n' : Int} (h : BagAt H b c n) (l : n ≤ n') : BagAt H b c n' := by
  obtain ⟨ns, p, r, k, m, h1, h2, h3, h4, h5, h6⟩ := h
  exact ⟨ns, p, r, k, m, h1, h2, h3, Int.le_trans h4 l, h5, h6⟩
theorem BagAt.there {H : Hp} {b c : Addr} {n : Int} (h : BagAt H b c n) : (∃ o, H b = some o) ∧ ∃ o, H c = some o := by
  obtain ⟨ns, p, r, k, m, h1, h2, _⟩ := h
  exact ⟨⟨_, h1⟩, _, h2⟩
theorem BagAt.new {H : Hp} {a b c : Addr} {n : Int} (h : BagAt H b c n) (na : H a = none) : a ≠ b ∧ a ≠ c := by
  obtain ⟨⟨_, h1⟩, _, h2⟩ := h.there
  exact ⟨(ne_of_none h1 na).symm, (ne_of_none h2 na).symm⟩
theorem BagAt.two {H : Hp} {b c : Addr} {n : Int} (h : BagAt H b c n) : c ≠ b := fun z => by
  obtain ⟨ns, p, r, k, m, h1, h2, _⟩ := h
  rw [z, h1] at h2
  cases ns with
  | nil => cases h2
  | cons n ns => cases h2
/-- the bag stays where what was tracked stays -/
theorem BagAt.same {H H' : Hp} {b c : Addr} {n : Int} (h : BagAt H b c n) (e : Same H H') : BagAt H' b c n := by
  obtain ⟨ns, p, r, k, m, h1, h2, h3⟩ := h
  exact ⟨ns, p, r, k, m, e _ _ h1, e _ _ h2, h3⟩
theorem BagAt.upd {H : Hp} {a b c : Addr} {n : Int} {o : HO} (h : BagAt H b c n) (nb : a ≠ b) (nc : a ≠ c) : BagAt (L2.upd H a o) b c n := by
  obtain ⟨ns, p, r, k, m, h1, h2, h3⟩ := h
  exact ⟨ns, p, r, k, m, by rw [upd_ne nb.symm]; exact h1, by rw [upd_ne nc.symm]; exact h2, h3⟩
theorem BagAt.updNew {H : Hp} {a b c : Addr} {n : Int} {o : HO} (h : BagAt H b c n) (na : H a = none) : BagAt (L2.upd H a o) b c n := h.upd (h.new na).1 (h.new na).2
/-- _law_bag(script) -/
def spBag (K : PySem.W.Frag) : Sp := fun vs H Q _ => ∃ (a : Addr) (ns : List Int), vs = [.ref a] ∧ SqL K H a (ns.map V.int) ∧ ∀ b c H', H b = none → H c = none → Same H H' → BagAt H' b c 0 → Q (.ref b) H'
/-- _law_draw(bag, limit): a number from 0 to limit - 1, the bag turned -/
def spDraw : Sp := fun vs H Q _ => ∃ (b c : Addr) (lim n : Int), vs = [.ref b, .int lim] ∧ BagAt H b c n ∧ 0 < lim ∧ lim < 2 ^ 200 ∧ n < 2 ^ 60 ∧ ∀ (r : Int) (H' : Hp), 0 ≤ r → r < lim → Off b H H' → BagAt H' b c (n + 1) → Q (.int r) H'
theorem cut63 {ns : List Int} : cutV (ns.map V.int) none (some 63) = (ns.take 63).map V.int := by
  unfold cutV
  rw [show HT.sIx (ns.map V.int).length (ns.map V.int).length (some 63) = min 63 (ns.map V.int).length from HT.sIx_nat _ _ 63, HT.sIx_none, List.drop_zero, Nat.sub_zero, ← List.map_take]
  congr 1
  rw [List.length_map, Nat.min_comm]
  by_cases h : ns.length ≤ 63
  · rw [Nat.min_eq_left h, List.take_of_length_le (Nat.le_refl _), List.take_of_length_le h]
  · rw [Nat.min_eq_right (by omega)]
/-! ### own exceptions whose __init__ stores its arguments, one a field -/
/-- __init__(self, ..) of the class at C keeps this: the fields are fs of the arguments -/
def spXI (C : Addr) (n : Nat) (fs : List V → List (Str × V)) : Sp := fun vs H Q _ => ∃ (a : Addr) (ws : List V), vs = .ref a :: ws ∧ ws.length = n ∧ H a = some (exo a C none) ∧
  ∀ dx, H dx = none → dx ≠ a → Q .non (L2.upd (L2.upd H dx (exd dx (fs ws))) a (exo a C (some dx)))
/-- C(e, ..): for every new d the error, its dict at d -/
def tMkF (C : Addr) (n : Nat) (fs : List V → List (Str × V)) (ta : TA) : L2.St → Hp → XK → Prop := fun σ H Q => ta σ H fun vs H1 => vs.length = n ∧ ∀ d, H1 d = none → Q (.ref C) (some d) (L2.upd H1 d (.xd (fs vs)))
theorem pmk_fld {X : Cx} {CX : CXT} {x : Str} {C fI : Addr} {k n : Nat} {fd : FuncData} {ps : List Str} {fs : List V → List (Str × V)} {e : Expr} {es : List Expr} {ta : TA} {p pos : Pos} (T : OexC X.K C) (iC : PySem.W.findIn X.K (.ref C) "__init__" = some (some (.ref fI))) (tI : PySem.W.typeIn X.K (.ref fI) = some (.type "function"))
    (F1 : FnOk X.prog X.w X.K X.mg X.base CX k fI fd ps (spXI C n fs)) (hr : Room (k + 1) X.A) (hb : Binds X.K fd ps []) (hx : Passes CX X (fun _ _ _ => False)) (hm : X.mg x = some (.ref C)) (hn : n ≤ 1000) (ha : PA X (e :: es) ta)
    (mono : ∀ σ H (R R' : List V → Hp → Prop), (∀ vs H1, R vs H1 → R' vs H1) → ta σ H R → ta σ H R') (hg : Gl X x := by rfl)
    (hdb : (x == ("__debug__" : Str)) = false := by decide) (he : starEach (e :: es) X.env = (false, eval e X.env) :: starEach es X.env := by rfl) (hpl : (backTo pos (starEach es X.env)).any (·.1) = false := by rfl) :
    PMk X (.Call (.Name x p) (e :: es) [] pos) (tMkF C n fs ta) := by
  have base := pmk_oex (p := p) (pos := pos) (dvs := []) (ds := []) T iC tI F1 hr hb .nil hx hg hm ha hdb he hpl
  intro pins s σ H Q I h
  refine base pins s σ H Q I (mono σ H _ _ (fun vs H1 q => ?_) h)
  obtain ⟨hl, q⟩ := q
  refine ⟨by omega, fun a na => ⟨a, vs, by rw [List.append_nil], hl, upd_same, fun dx nd ne => ⟨rfl, dx, fs vs, upd_same, by rw [upd_ne ne, upd_same], ?_, ?_⟩⟩⟩
  · rw [upd_ne ne] at nd
    exact nd
  · have nd1 : H1 dx = none := by
      rw [upd_ne ne] at nd
      exact nd
    have e : L2.upd (L2.del (L2.upd (L2.upd (L2.upd H1 a (exo a C none)) dx (exd dx (fs vs))) a (exo a C (some dx))) a) dx (.xd (fs vs)) = L2.upd H1 dx (.xd (fs vs)) := by
      funext b
      by_cases h1 : b = dx
      · rw [h1, upd_same, upd_same]
      · rw [upd_ne h1, upd_ne h1]
        by_cases h2 : b = a
        · rw [h2, del_same, na]
        · rw [del_ne h2, upd_ne h2, upd_ne h1, upd_ne h2]
    rw [e]
    exact q dx nd1
theorem xi_two {H : Hp} {a dx C : Addr} {f1 f2 : Str} {y1 y2 : V} (ne : dx ≠ a) : L2.upd (L2.upd (L2.upd H dx (exd dx [(f1, y1)])) a (exo a C (some dx))) dx (exd dx [(f2, y2), (f1, y1)]) = L2.upd (L2.upd H dx (exd dx [(f2, y2), (f1, y1)])) a (exo a C (some dx)) := by
  funext b
  by_cases h1 : b = dx
  · rw [h1, upd_same, upd_ne ne, upd_same]
  · by_cases h2 : b = a
    · rw [h2, upd_ne ne.symm, upd_same, upd_same]
    · rw [upd_ne h1, upd_ne h2, upd_ne h1, upd_ne h2, upd_ne h1]
/-! ### what a value is, by its built-in class -/
inductive Kn (H : Hp) : V → String → Prop
  | non : Kn H .non "NoneType"
  | bl (b : Bool) : Kn H (.bl b) "bool"
  | int (i : Int) : Kn H (.int i) "int"
  | str (x : Str) : Kn H (.str x) "str"
  | lst {a : Addr} {xs : List V} (e : H a = some (.lst xs)) : Kn H (.ref a) "list"
  | tup {a : Addr} {xs : List V} (e : H a = some (.tup xs)) : Kn H (.ref a) "tuple"
  | dct {a : Addr} {kvs : List (Key × V)} (e : H a = some (.dK kvs)) : Kn H (.ref a) "dict"
theorem Kn.ty {K : PySem.W.Frag} {H : Hp} {v : V} {T : String} (h : Kn H v T) : TyX K H v (.type T) := by
  cases h with
  | non => exact .base .non
  | bl b => exact .base (.bl b)
  | int i => exact .base (.int i)
  | str x => exact .base (.str x)
  | lst e => exact .base (.lst e)
  | tup e => exact .base (.tup e)
  | dct e => exact .base (.dK e)
def wholeV (v : V) (lo hi : Int) : Bool := match v with
  | .int i => decide (lo ≤ i) && decide (i ≤ hi)
  | _ => false
/-- an int, a truth, or neither -/
theorem Kn.whole {K : PySem.W.Frag} {H : Hp} {v : V} {T : String} (h : Kn H v T) : (∃ i, v = .int i ∧ PySem.W.kitOne K (.type T) (.type "int") = some true ∧ PySem.W.kitOne K (.type T) (.type "bool") = some false) ∨
    (((PySem.W.kitOne K (.type T) (.type "int") = some true ∧ PySem.W.kitOne K (.type T) (.type "bool") = some true) ∨ PySem.W.kitOne K (.type T) (.type "int") = some false) ∧ (∀ i, v ≠ .int i) ∧ ∀ lo hi, wholeV v lo hi = false) := by
  cases h with
  | int i => exact .inl ⟨i, rfl, kit_ty (by decide +kernel), kit_ty (by decide +kernel)⟩
  | bl b => exact .inr ⟨.inl ⟨kit_ty (by decide +kernel), kit_ty (by decide +kernel)⟩, (fun _ z => nomatch z), fun _ _ => rfl⟩
  | non => exact .inr ⟨.inr (kit_ty (by decide +kernel)), (fun _ z => nomatch z), fun _ _ => rfl⟩
  | str x => exact .inr ⟨.inr (kit_ty (by decide +kernel)), (fun _ z => nomatch z), fun _ _ => rfl⟩
  | lst e => exact .inr ⟨.inr (kit_ty (by decide +kernel)), (fun _ z => nomatch z), fun _ _ => rfl⟩
  | tup e => exact .inr ⟨.inr (kit_ty (by decide +kernel)), (fun _ z => nomatch z), fun _ _ => rfl⟩
  | dct e => exact .inr ⟨.inr (kit_ty (by decide +kernel)), (fun _ z => nomatch z), fun _ _ => rfl⟩
/-- isinstance(v, (list, tuple)) -/
def seqT (T : String) : Bool := decide (T = "list") || decide (T = "tuple")
theorem Kn.seq {K : PySem.W.Frag} {H : Hp} {v : V} {T : String} (h : Kn H v T) : PySem.W.kitAny K (.type T) [.type "list", .type "tuple"] = some (seqT T) := by
  have two : ∀ {a b : Bool}, PySem.W.kitOne K (.type T) (.type "list") = some a → PySem.W.kitOne K (.type T) (.type "tuple") = some b → PySem.W.kitAny K (.type T) [.type "list", .type "tuple"] = some (a || b) := fun {a b} e1 e2 =>
    kitAny_cons e1 (fun ea => by rw [ea]; exact kitAny_cons e2 (fun eb => by rw [eb]; exact kitAny_nil) (fun eb => by rw [eb]; rfl)) (fun ea => by rw [ea]; rfl)
  cases h with
  | int i => exact two (a := false) (b := false) (kit_ty (by decide +kernel)) (kit_ty (by decide +kernel))
  | bl b => exact two (a := false) (b := false) (kit_ty (by decide +kernel)) (kit_ty (by decide +kernel))
  | non => exact two (a := false) (b := false) (kit_ty (by decide +kernel)) (kit_ty (by decide +kernel))
  | str x => exact two (a := false) (b := false) (kit_ty (by decide +kernel)) (kit_ty (by decide +kernel))
  | lst e => exact two (a := true) (b := false) (kit_ty (by decide +kernel)) (kit_ty (by decide +kernel))
  | tup e => exact two (a := false) (b := true) (kit_ty (by decide +kernel)) (kit_ty (by decide +kernel))
  | dct e => exact two (a := false) (b := false) (kit_ty (by decide +kernel)) (kit_ty (by decide +kernel))
/-- the items of a list or a tuple; none of another thing -/
def seqOf (H : Hp) : V → Option (List V)
  | .ref a => match H a with
    | some (.lst xs) => some xs
    | some (.tup xs) => some xs
    | _ => none
  | _ => none
theorem Kn.seqSome {H : Hp} {v : V} {T : String} (h : Kn H v T) : (seqT T = true ∧ ∃ a xs, v = .ref a ∧ seqOf H v = some xs ∧ ((H a = some (.lst xs)) ∨ H a = some (.tup xs))) ∨ (seqT T = false ∧ seqOf H v = none) := by
  cases h with
  | @lst a xs e => exact .inl ⟨rfl, a, xs, rfl, by simp only [seqOf, e], .inl e⟩
  | @tup a xs e => exact .inl ⟨rfl, a, xs, rfl, by simp only [seqOf, e], .inr e⟩
  | dct e => exact .inr ⟨rfl, by simp only [seqOf, e]⟩
  | int i => exact .inr ⟨rfl, rfl⟩
  | bl b => exact .inr ⟨rfl, rfl⟩
  | non => exact .inr ⟨rfl, rfl⟩
  | str x => exact .inr ⟨rfl, rfl⟩
theorem seqOf_lst {H : Hp} {a : Addr} {xs : List V} (h : H a = some (.lst xs)) : seqOf H (.ref a) = some xs := by simp only [seqOf, h]
theorem seqOf_tup {H : Hp} {a : Addr} {xs : List V} (h : H a = some (.tup xs)) : seqOf H (.ref a) = some xs := by simp only [seqOf, h]
theorem Kn.keep {H H' : Hp} {v : V} {T : String} (h : Kn H v T) (k : ∀ a o, v = .ref a → H a = some o → H' a = some o) : Kn H' v T := by
  cases h with
  | non => exact .non
  | bl b => exact .bl b
  | int i => exact .int i
  | str x => exact .str x
  | lst e => exact .lst (k _ _ rfl e)
  | tup e => exact .tup (k _ _ rfl e)
  | dct e => exact .dct (k _ _ rfl e)
theorem Kn.same {H H' : Hp} {v : V} {T : String} (h : Kn H v T) (k : Same H H') : Kn H' v T := h.keep fun a o _ e => k a o e
theorem Kn.seqOf {H H' : Hp} {v : V} {T : String} (h : Kn H v T) (k : Same H H') : seqOf H' v = Q.seqOf H v := by
  cases h with
  | lst e => simp only [Q.seqOf, k _ _ e, e]
  | tup e => simp only [Q.seqOf, k _ _ e, e]
  | dct e => simp only [Q.seqOf, k _ _ e, e]
  | _ => rfl
theorem seqOf_same {H H' : Hp} {v : V} {xs : List V} (h : seqOf H v = some xs) (k : Same H H') : seqOf H' v = some xs := by
  cases v with
  | ref a =>
    simp only [seqOf] at h ⊢
    cases e : H a with
    | none => rw [e] at h; cases h
    | some o =>
      rw [k _ _ e]
      rw [e] at h
      exact h
  | _ => cases h
/-- is_whole(thing, low, high), all three given -/
def spWhole : Sp := fun vs H Q _ => ∃ (v : V) (lo hi : Int) (T : String), vs = [v, .int lo, .int hi] ∧ Kn H v T ∧ Q (.bl (wholeV v lo hi)) H
/-! ### a list or a tuple, whichever -/
def Sq (K : PySem.W.Frag) (H : Hp) (a : Addr) (xs : List V) : Prop := SqL K H a xs ∨ SqT K H a xs
theorem sq_of {K : PySem.W.Frag} {H : Hp} {a : Addr} {xs : List V} (h : H a = some (.lst xs) ∨ H a = some (.tup xs)) : Sq K H a xs := h.elim (fun e => .inl (SqL.of e)) fun e => .inr (SqT.of e)
theorem sqT_same {K : PySem.W.Frag} {H H' : Hp} {a : Addr} {xs : List V} (e : Same H H') (h : SqT K H a xs) : SqT K H' a xs := by
  rcases h with (h | ⟨o, h⟩) | h
  · exact .inl (.inl (e _ _ h))
  · exact .inl (.inr ⟨o, e _ _ h⟩)
  · exact .inr h
theorem Sq.same {K : PySem.W.Frag} {H H' : Hp} {a : Addr} {xs : List V} (h : Sq K H a xs) (e : Same H H') : Sq K H' a xs := h.elim (fun z => .inl (e.seq z)) fun z => .inr (sqT_same e z)
theorem rix_of {K : PySem.W.Frag} {H : Hp} {a : Addr} {xs : List V} {i : Int} {v : V} {R : VK} (h : Sq K H a xs) (e : atI xs i = some v) (q : R v H) : rIx K (.ref a) (.int i) H R :=
  h.elim (fun z => .inl ⟨a, xs, i, v, rfl, rfl, z, e, q⟩) fun z => .inr (.inl ⟨a, xs, i, v, rfl, rfl, z, e, q⟩)
@[irreducible] def rTupOf (K : PySem.W.Frag) : List V → Hp → VK → Prop := fun xs H R => ∃ p ys, xs = [V.ref p] ∧ ((SqL K H p ys ∧ ∀ l, H l = none → R (.ref l) (L2.upd H l (.tup ys))) ∨ (SqT K H p ys ∧ R (.ref p) H))
theorem call_tupOf {X : Cx} : CallR X (.type "tuple") (rTupOf X.K) := by
  unfold rTupOf
  exact call_tuple_of
theorem tupOf_of {K : PySem.W.Frag} {H : Hp} {a : Addr} {xs : List V} {R : VK} (h : Sq K H a xs) (q : ∀ (l : Addr) (H' : Hp), SqT K H' l xs → Same H H' → (∀ b, H b = none → b ≠ l → H' b = none) → R (.ref l) H') : rTupOf K [.ref a] H R := by
  unfold rTupOf
  exact ⟨a, xs, rfl, h.elim (fun z => .inl ⟨z, fun l hl => q l _ (SqT.of upd_same) (same_new hl) fun b e n => by rw [upd_ne n]; exact e⟩) fun z => .inr ⟨z, q a H z (Same.refl H) fun b e _ => e⟩⟩
/-! ### rows of whole numbers as data -/
theorem dpAll_ints {K : PySem.W.Frag} {H : Hp} : ∀ ns : List Int, DpAll K H (ns.map V.int) (ns.map PyData.int)
  | [] => .nil
  | n :: ns => .cons (.int n) (dpAll_ints ns)
theorem lay_ints : ∀ ns : List Int, PyData.canLayAll0 (ns.map PyData.int) = true
  | [] => rfl
  | n :: ns => by
    show (true && PyData.canLayAll0 (ns.map PyData.int)) = true
    rw [lay_ints ns]
    rfl
theorem depth_ints : ∀ ns : List Int, PyData.depthAll (ns.map PyData.int) = 0
  | [] => rfl
  | n :: ns => by
    show max 0 (PyData.depthAll (ns.map PyData.int)) = 0
    rw [depth_ints ns]
    rfl
theorem shaped_ints (ns : List Int) : SeqAt.shaped (.tuple (ns.map PyData.int)) = true := by
  show (PyData.canLayAll0 (ns.map PyData.int) && decide (PyData.depthAll (ns.map PyData.int) + 1 ≤ 64)) = true
  rw [lay_ints, depth_ints]
  rfl
theorem eqvAll_ints : ∀ ns ms : List Int, PyData.eqvAll (ns.map PyData.int) (ms.map PyData.int) = decide (ns = ms)
  | [], [] => rfl
  | [], _ :: _ => rfl
  | _ :: _, [] => rfl
  | n :: ns, m :: ms => by
    show ((n == m) && PyData.eqvAll (ns.map PyData.int) (ms.map PyData.int)) = _
    rw [eqvAll_ints ns ms]
    by_cases h : n = m
    · subst h
      rw [beq_self_eq_true, Bool.true_and]
      by_cases h2 : ns = ms
      · rw [decide_eq_true h2, h2]
        exact (decide_eq_true rfl).symm
      · rw [decide_eq_false h2]
        exact (decide_eq_false fun z => h2 (List.cons.inj z).2).symm
    · rw [beq_eq_false_iff_ne.mpr h, Bool.false_and]
      exact (decide_eq_false fun z => h (List.cons.inj z).1).symm
theorem eqv_ints (ns ms : List Int) : PyData.eqv (.tuple (ns.map PyData.int)) (.tuple (ms.map PyData.int)) = decide (ns = ms) := eqvAll_ints ns ms
theorem dp_ints {K : PySem.W.Frag} {H : Hp} {p : Addr} {ns : List Int} (h : SqT K H p (ns.map V.int)) : Dp K H (.ref p) (.tuple (ns.map PyData.int)) := .tup h (dpAll_ints ns)
theorem ix_nat {n j : Nat} (h : j < n) : ixN n (j : Int) = some j := by
  unfold ixN
  rw [if_pos (by omega), if_pos (by omega), Int.toNat_natCast]
/-- tuple(a list that stands) is new -/
theorem tupL_of {K : PySem.W.Frag} {H : Hp} {a : Addr} {xs : List V} {R : VK} (h : SqL K H a xs) (q : ∀ l : Addr, H l = none → R (.ref l) (L2.upd H l (.tup xs))) : rTupOf K [.ref a] H R := by
  unfold rTupOf
  exact ⟨a, xs, rfl, .inl ⟨h, q⟩⟩
/-! ### data stand where what was tracked stands -/
mutual
theorem dp_same {K : PySem.W.Frag} {H H' : Hp} (e : Same H H') : ∀ (d : PyData) (v : V), Dp K H v d → Dp K H' v d
  | .none, _, h => by
    cases h
    exact .non
  | .bool b, _, h => by
    cases h
    exact .bl b
  | .int i, _, h => by
    cases h
    exact .int i
  | .str x, _, h => by
    cases h
    exact .str x
  | .list ds, _, h => by
    cases h with
    | lst s a => exact .lst (e.seq s) (dpAll_same e ds _ a)
  | .tuple ds, _, h => by
    cases h with
    | tup s a => exact .tup (sqT_same e s) (dpAll_same e ds _ a)
  | .dict _, _, h => by cases h
theorem dpAll_same {K : PySem.W.Frag} {H H' : Hp} (e : Same H H') : ∀ (ds : List PyData) (vs : List V), DpAll K H vs ds → DpAll K H' vs ds
  | [], _, h => by
    cases h
    exact .nil
  | d :: ds, _, h => by
    cases h with
    | cons a b => exact .cons (dp_same e d _ a) (dpAll_same e ds _ b)
end
end Q

set_option maxRecDepth 100000
set_option maxHeartbeats 4000000
/-! Loops and zips over a list or a tuple, whichever it is. -/
namespace Q
open PySem PySem.Spec PyProof.Rows L2
/-- a list (true), a tuple (false) -/
def SqB (k : Bool) (K : PySem.W.Frag) (H : Hp) (a : Addr) (xs : List V) : Prop := match k with
  | true => SqL K H a xs
  | false => SqT K H a xs
theorem Sq.b {K : PySem.W.Frag} {H : Hp} {a : Addr} {xs : List V} (h : Sq K H a xs) : ∃ k, SqB k K H a xs := h.elim (fun z => ⟨true, z⟩) fun z => ⟨false, z⟩
theorem SqB.sq {k : Bool} {K : PySem.W.Frag} {H : Hp} {a : Addr} {xs : List V} (h : SqB k K H a xs) : Sq K H a xs := match k, h with
  | true, h => .inl h
  | false, h => .inr h
theorem SqB.same {k : Bool} {K : PySem.W.Frag} {H H' : Hp} {a : Addr} {xs : List V} (h : SqB k K H a xs) (e : Same H H') : SqB k K H' a xs := match k, h with
  | true, h => e.seq h
  | false, h => sqT_same e h
def ItS (k : Bool) (K : PySem.W.Frag) (a : Addr) : It := match k with
  | true => Itl K a
  | false => Itt K a
def iSeq (K : PySem.W.Frag) (tl : TE) : TI := fun σ H R => tl σ H fun x H1 => ∃ a xs k, x = .ref a ∧ SqB k K H1 a xs ∧ R (ItS k K a) H1
section
variable {X : Cx} {tg : Expr}
theorem pi_seq {l : Expr} {tl : TE} (hl : PE X l tl) : PI X tg l (iSeq X.K tl) := by
  refine ⟨fun pins s σ H R I h => ?_⟩
  refine thn (hl.run pins s σ H _ I h) fun v s1 ⟨x, H1, I1, r1, q1⟩ => ?_
  obtain ⟨a, xs, k, e, hq, q⟩ := q1
  subst e
  cases r1
  have new : ∀ b ∈ [s1.heap.objs.size], FpOk X pins H1 b := fun b hb => by
    have e : b = s1.heap.objs.size := by simpa using hb
    subst e
    exact I1.fpOk (Nat.le_refl _) (I1.hok.fresh (Nat.le_refl _))
  cases k with
  | true =>
    obtain ⟨its, rv, p, hz⟩ := I1.list hq
    refine wpAny_pyIter_list p.isList ?_
    exact ⟨s1.heap.objs.size, [s1.heap.objs.size], _, _, H1, rfl, I1.kept (t' := s1.toks) fun b o e => Heap.get?_push_of_some _ e, turn_list a _, ⟨_, Heap.get?_push_size _ rfl, rfl, rfl⟩, new, q⟩
  | false =>
    obtain ⟨its, rv, p, hz⟩ := I1.tuple hq
    refine wpAny_pyIter_tuple (show s1.heap.IsTuple a its.toArray from p) ?_
    exact ⟨s1.heap.objs.size, [s1.heap.objs.size], _, _, H1, rfl, I1.kept (t' := s1.toks) fun b o e => Heap.get?_push_of_some _ e, turn_tuple a _, ⟨_, Heap.get?_push_size _ rfl, rfl, rfl⟩, new, q⟩
end
theorem for_seq {K : PySem.W.Frag} {k : Bool} {a : Addr} {xs : List V} {g : TG} {tb : TS} {D : Ends} {σ : L2.St} {H : Hp} (Pv : Nat → L2.St → Hp → Prop) (h0 : Pv 0 σ H) (hl : ∀ i σ H, i ≤ xs.length → Pv i σ H → SqB k K H a xs)
    (hs : ∀ i x σ H, xs[i]? = some x → Pv i σ H → g x σ H fun σ2 H2 => tb { D with nx := Pv (i + 1), ct := Pv (i + 1), bk := D.nx } σ2 H2) (hd : ∀ σ H, Pv xs.length σ H → D.nx σ H) :
    ∃ W : Nat → Nat → L2.St → Hp → Prop, (∃ m, W 0 m σ H) ∧ ∀ i m σ H, W i m σ H →
      ((ItS k K a).stop i H ∧ D.nx σ H) ∨ ((ItS k K a).go i H ∧ ∃ N : L2.St → Hp → Prop, (∀ σ' H', N σ' H' → ∃ m', m' < m ∧ W (i + 1) m' σ' H') ∧ ∀ x H', (ItS k K a).yld i H x H' → g x σ H' fun σ2 H2 => tb { D with nx := N, ct := N, bk := D.nx } σ2 H2) := by
  cases k with
  | true => exact for_list Pv h0 hl hs hd
  | false => exact for_tup Pv h0 hl hs hd
/-! ### zip -/
def itB (k : Bool) (h : Heap) (it l : Addr) (i : Nat) : Prop := match k with
  | true => h.IsListIter it l i
  | false => h.IsTupleIter it l i
def isB (k : Bool) (h : Heap) (l : Addr) (its : List Value) : Prop := match k with
  | true => h.IsList l its.toArray
  | false => h.IsTuple l its.toArray
theorem drawsB {P : Program} {w : World} {A : Around} {k : Bool} {it l : Addr} {its : List Value} (hh : A.handled = none) (ne : l ≠ it) :
    Draws P w A it [it, l] its.length (fun i v => its[i]? = some v) (fun i h => itB k h it l i ∧ isB k h l its) := by
  cases k with
  | true =>
    have D := Draws.list (prog := P) (w := w) hh it l ne its.toArray
    simp only [List.size_toArray, List.getElem?_toArray] at D
    exact D
  | false =>
    have D := Draws.tuple (prog := P) (w := w) hh it l ne its.toArray
    simp only [List.size_toArray, List.getElem?_toArray] at D
    exact D
theorem seqB {X : Cx} {pins : List (Addr × Obj)} {σ : L2.St} {H : Hp} {s : Shared} {k : Bool} {a : Addr} {xs : List V} (I : Inv X pins σ H s) (h : SqB k X.K H a xs) : ∃ its, Vals xs its ∧ isB k s.heap a its ∧ a < s.heap.objs.size := by
  cases k with
  | true =>
    obtain ⟨its, rv, p, _⟩ := I.list h
    exact ⟨its, rv, p.isList, p.lt⟩
  | false =>
    obtain ⟨its, rv, p, _⟩ := I.tuple h
    obtain ⟨o, ho, _⟩ := id p
    exact ⟨its, rv, p, Heap.lt_size ho⟩
theorem seqB_inj {X : Cx} {pins : List (Addr × Obj)} {σ : L2.St} {H : Hp} {s : Shared} {k : Bool} {a : Addr} {xs ys : List V} (I : Inv X pins σ H s) (h : SqB k X.K H a xs) (h' : SqB k X.K H a ys) : ys = xs := by
  cases k with
  | true => exact I.list_inj h' h
  | false => exact I.tuple_inj h' h
/-- the two as they stand at each turn, the items in new pairs -/
def ItzS (k1 k2 : Bool) (K : PySem.W.Frag) (a b : Addr) : It :=
  ⟨fun i H => ∃ (xs ys : List V) (x y : V), SqB k1 K H a xs ∧ SqB k2 K H b ys ∧ xs[i]? = some x ∧ ys[i]? = some y,
    fun i H v H' => ∃ T x y, v = .ref T ∧ H T = none ∧ H' = upd H T (.tup [x, y]) ∧ (∀ xs, SqB k1 K H a xs → xs[i]? = some x) ∧ ∀ ys, SqB k2 K H b ys → ys[i]? = some y,
    fun i H => ∃ xs ys : List V, SqB k1 K H a xs ∧ SqB k2 K H b ys ∧ xs.length = i ∧ ys.length = i⟩
theorem itB_at {k : Bool} {h h' : Heap} {it l : Addr} {i : Nat} (st : itB k h it l i) (q : ∀ o, h.get? it = some o → h'.get? it = some o) : itB k h' it l i := by
  cases k with
  | true => exact Heap.IsListIter.at st q
  | false => exact Heap.IsTupleIter.at st q
theorem itB_ob {k : Bool} {h : Heap} {it l : Addr} {i : Nat} (st : itB k h it l i) : ∃ o, h.get? it = some o ∧ ∀ v, o.data ≠ .cell v := by
  cases k with
  | true =>
    obtain ⟨o, e, _, d⟩ := st
    exact ⟨o, e, fun v q => by rw [d] at q; cases q⟩
  | false =>
    obtain ⟨o, e, _, d⟩ := st
    exact ⟨o, e, fun v q => by rw [d] at q; cases q⟩
theorem turn_zipS {P : Program} {w : World} {K : PySem.W.Frag} {elts : List Expr} {kk : Nat} {tpos : Pos} {k1 k2 : Bool} {a b z TI TO i1 i2 : Addr} (S : ZipSep2 z TI TO i1 i2 [i1, a] [i2, b]) (n1 : a ≠ i1) (n2 : b ≠ i2) :
    Turn P w K (.Tuple elts kk tpos) (ItzS k1 k2 K a b) [z, TI, TO, i1, i2] z (fun i h => IsZip h z TI TO .none ∧ IsTupOf2 h TI (.ref i1) (.ref i2) ∧ (∃ x y, IsTupOf2 h TO x y) ∧ itB k1 h i1 a i ∧ itB k2 h i2 b i) where
  mem := by simp
  obj := fun i h st c hc => by
    obtain ⟨hz, hTI, ⟨x, y, hTO⟩, t1, t2⟩ := st
    have e' : c = z ∨ c = TI ∨ c = TO ∨ c = i1 ∨ c = i2 := by simpa using hc
    rcases e' with rfl | rfl | rfl | rfl | rfl
    · exact ⟨_, hz, fun v q => nomatch q⟩
    · exact ⟨_, hTI, fun v q => nomatch q⟩
    · exact ⟨_, hTO, fun v q => nomatch q⟩
    · exact itB_ob t1
    · exact itB_ob t2
  keep := fun i h h' st k => by
    obtain ⟨hz, hTI, ⟨x, y, hTO⟩, h1, h2⟩ := st
    exact ⟨k z (by simp) _ hz, k TI (by simp) _ hTI, ⟨x, y, k TO (by simp) _ hTO⟩, itB_at h1 fun o q => k i1 (by simp) o q, itB_at h2 fun o q => k i2 (by simp) o q⟩
  item := by
    intro X hP hw hK hc i pins s σ H E I hf st hg
    subst hP hw hK
    obtain ⟨hz, hTI, ⟨x0, y0, hTO⟩, h1, h2⟩ := st
    obtain ⟨xs, ys, x, y, hqx, hqy, hx, hy⟩ := hg
    obtain ⟨its, rv, p, _⟩ := seqB I hqx
    obtain ⟨its2, rv2, p2, _⟩ := seqB I hqy
    obtain ⟨u, hu, ru⟩ := rv.get hx
    obtain ⟨u2, hu2, ru2⟩ := rv2.get hy
    have hzl : z < s.heap.objs.size := Heap.lt_size hz
    have hh : X.A.in1.handled = none := I.ok.hd hc
    refine wpAny_pyNext_zipD2_item S (drawsB (k := k1) (its := its) hh n1) (drawsB (k := k2) (its := its2) hh n2) hz hTI hTO ⟨h1, p⟩ ⟨h2, p2⟩ (List.getElem?_eq_some_iff.mp hu).1 (List.getElem?_eq_some_iff.mp hu2).1
      fun v1 v2 h' tk e1 e2 z' TO' st1 st2 hT hsz hk => ?_
    obtain rfl : u = v1 := Option.some.inj (hu.symm.trans e1)
    obtain rfl : u2 = v2 := Option.some.inj (hu2.symm.trans e2)
    refine ⟨_, rfl, wpAny_letOwnedTupleGo_zip (s := { s with heap := h', toks := tk }) z' fun h'' z'' sb => ?_⟩
    have hT2 : h''.get? s.heap.objs.size = some { cls := .type "tuple", data := .seq #[u, u2] } := (sb.2 _ (Nat.ne_of_gt hzl)).trans hT
    have new : ObjOk X.prog X.w (upd H s.heap.objs.size (.tup [x, y])) h'' s.heap.objs.size (.tup [x, y]) :=
      ⟨by show 2 ≤ sizeLine; decide, [u, u2], .cons ru (.cons ru2 .nil), ⟨_, hT2, rfl, _, rfl⟩⟩
    have I1 : Inv X pins σ (upd H s.heap.objs.size (.tup [x, y])) { s with heap := h'', toks := tk } :=
      I.turnedNew (t' := tk) (ch := [z, TI, TO, i1, i2]) (fun c o hb q => (sb.2 c (fun q' => hb (by simp [q']))).trans (hk c o (fun q' => hb (by simp [q'])) (fun q' => hb (by simp [q'])) (fun q' => hb (by simp [q'])) (fun q' => hb (by simp [q'])) q)) hf (Nat.le_refl _) new
    refine ⟨.ref s.heap.objs.size, _, I1, rfl, ⟨_, x, y, rfl, I.hok.fresh (Nat.le_refl _), rfl, fun l hl => by rw [seqB_inj I hqx hl]; exact hx, fun l hl => by rw [seqB_inj I hqy hl]; exact hy⟩, ⟨z'', ?_, ⟨u, u2, ?_⟩, ?_, ?_⟩, fun c hcm => ?_⟩
    · exact (sb.2 _ S.TIz).trans (hk _ _ S.TIz S.TITO S.TIi1 S.TIi2 hTI)
    · exact (sb.2 _ S.TOz).trans TO'
    · exact itB_at st1.1 fun o q => (sb.2 _ S.zi1.symm).trans q
    · exact itB_at st2.1 fun o q => (sb.2 _ S.zi2.symm).trans q
    · have hlt : c < s.heap.objs.size := by
        have e' : c = z ∨ c = TI ∨ c = TO ∨ c = i1 ∨ c = i2 := by simpa using hcm
        rcases e' with rfl | rfl | rfl | rfl | rfl
        · exact hzl
        · exact Heap.lt_size hTI
        · exact Heap.lt_size hTO
        · obtain ⟨_, e1, _⟩ := itB_ob h1; exact Heap.lt_size e1
        · obtain ⟨_, e1, _⟩ := itB_ob h2; exact Heap.lt_size e1
      rw [upd_ne (Nat.ne_of_lt hlt)]
      exact (hf c hcm).1
  done := by
    intro X hP hw hK hc i pins s σ H E I hf st hg
    subst hP hw hK
    obtain ⟨hz, hTI, ⟨x0, y0, hTO⟩, h1, h2⟩ := st
    obtain ⟨xs, ys, hqx, hqy, e1, e2⟩ := hg
    obtain ⟨its, rv, p, _⟩ := seqB I hqx
    obtain ⟨its2, rv2, p2, _⟩ := seqB I hqy
    have l1 := rv.length
    have l2 := rv2.length
    have hh : X.A.in1.handled = none := I.ok.hd hc
    exact wpAny_pyNext_zipD2_end S (drawsB (k := k1) (its := its) hh n1) (drawsB (k := k2) (its := its2) hh n2) hz hTI hTO ⟨h1, p⟩ ⟨h2, p2⟩ (by omega) (by omega) (.inl (by omega)) fun h' tk hk => ⟨rfl, I.turnedL (t' := tk) (ch := [z, TI, TO, i1, i2]) (fun c o hb q =>
      hk c o (fun q' => hb (by simp [q'])) (fun q' => hb (by simp [q'])) (fun q' => hb (by simp [q'])) (fun q' => hb (by simp [q'])) q) hf⟩
  self := fun A i s Q E st h => wpAny_pyIter_zip st.1 h
def obB (k : Bool) (l : Addr) : Obj := match k with
  | true => { cls := .type "list_iterator", data := .fields #[.ref l, .int 0 0] }
  | false => { cls := .type "tuple_iterator", data := .fields #[.ref l, .int 0 0] }
theorem beginsB {k : Bool} {l : Addr} {its : List Value} : Begins (.ref l) (obB k l) fun h => isB k h l its := by
  cases k with
  | true => exact begins_list l its.toArray
  | false => exact begins_tuple l its.toArray
theorem itB_new {k : Bool} {h : Heap} {it l : Addr} (e : h.get? it = some (obB k l)) : itB k h it l 0 := by
  cases k with
  | true => exact ⟨_, e, rfl, rfl⟩
  | false => exact ⟨_, e, rfl, rfl⟩
def iZipS (K : PySem.W.Frag) (ta : TA) : TI := fun σ H R => ta σ H fun vs H1 => ∃ a b xs ys k1 k2, vs = [.ref a, .ref b] ∧ SqB k1 K H1 a xs ∧ SqB k2 K H1 b ys ∧ R (ItzS k1 k2 K a b) H1
theorem pi_zipS {X : Cx} {e e2 : Expr} {ta : TA} {p pos tpos : Pos} {elts : List Expr} {kk : Nat} (hg : Gl X "zip") (hm : X.mg "zip" = none) (ha : PA X [e, e2] ta)
    (hs : starEach [e, e2] X.env = (false, eval e X.env) :: starEach [e2] X.env := by rfl) (hpl : (backTo pos (starEach [e2] X.env)).any (·.1) = false := by rfl) :
    PI X (.Tuple elts kk tpos) (.Call (.Name "zip" p) [e, e2] [] pos) (iZipS X.K ta) := by
  refine ⟨fun pins s σ H R I h => ?_⟩
  refine Call_ (ld_blt I hg hm PyProof.Rows.boot_zip (PyProof.Rows.callWith_type1 (thn (ha.run pos pins s σ H _ I h) fun us s1 ⟨vs, H1, I1, r1, q1⟩ => ?_) hs hpl))
  obtain ⟨a, b, xs, ys, k1, k2, rfl, hqx, hqy, q⟩ := q1
  obtain ⟨u1, u2, rfl, rr1, rr2⟩ := vals2 r1
  obtain rfl : u1 = Value.ref a := rr1
  obtain rfl : u2 = Value.ref b := rr2
  obtain ⟨its, rv, p1, la⟩ := seqB I1 hqx
  obtain ⟨its2, rv2, p2, lb⟩ := seqB I1 hqy
  refine zip_begins2 (beginsB (k := k1)) (beginsB (k := k2)) p1 p2 fun h' hz hTI hTO g1 g2 hsz hk => wpAny_pyIter_zip hz ?_
  have I2 : Inv X pins σ H1 { s1 with heap := h' } := I1.kept (t' := s1.toks) hk
  refine ⟨s1.heap.objs.size + 4, [s1.heap.objs.size + 4, s1.heap.objs.size + 2, s1.heap.objs.size + 3, s1.heap.objs.size, s1.heap.objs.size + 1], _, _, H1, rfl, I2,
    turn_zipS (zip_sep2 (fp1 := [a]) (fp2 := [b]) (fun c hc => by obtain rfl := List.mem_singleton.mp hc; exact la) (fun c hc => by obtain rfl := List.mem_singleton.mp hc; exact lb)) (Nat.ne_of_lt la) (Nat.ne_of_lt (Nat.lt_succ_of_lt lb)), ⟨hz, hTI, ⟨_, _, hTO⟩, itB_new g1, itB_new g2⟩, fun c hcm => ?_, q⟩
  have e' : c = s1.heap.objs.size + 4 ∨ c = s1.heap.objs.size + 2 ∨ c = s1.heap.objs.size + 3 ∨ c = s1.heap.objs.size ∨ c = s1.heap.objs.size + 1 := by simpa using hcm
  have hle : s1.heap.objs.size ≤ c := by
    rcases e' with z | z | z | z | z
    · rw [z]; exact Nat.le_add_right _ _
    · rw [z]; exact Nat.le_add_right _ _
    · rw [z]; exact Nat.le_add_right _ _
    · rw [z]; exact Nat.le_refl _
    · rw [z]; exact Nat.le_add_right _ _
  exact I1.fpOk hle (I1.hok.fresh hle)
/-- a loop over zip of two of one length -/
theorem for_zipS {K : PySem.W.Frag} {k1 k2 : Bool} {a b : Addr} {xs ys : List V} {g : TG} {tb : TS} {D : Ends} {σ : L2.St} {H : Hp} (hl : xs.length = ys.length) (Pv : Nat → L2.St → Hp → Prop) (h0 : Pv 0 σ H) (hq : ∀ i σ H, Pv i σ H → SqB k1 K H a xs ∧ SqB k2 K H b ys)
    (hs : ∀ (i : Nat) (x y : V) (T : Addr) (σ : L2.St) (H : Hp), xs[i]? = some x → ys[i]? = some y → Pv i σ H → H T = none → g (.ref T) σ (upd H T (.tup [x, y])) fun σ2 H2 => tb { D with nx := Pv (i + 1), ct := Pv (i + 1), bk := D.nx } σ2 H2) (hd : ∀ σ H, Pv xs.length σ H → D.nx σ H) :
    ∃ W : Nat → Nat → L2.St → Hp → Prop, (∃ m, W 0 m σ H) ∧ ∀ i m σ H, W i m σ H →
      ((ItzS k1 k2 K a b).stop i H ∧ D.nx σ H) ∨ ((ItzS k1 k2 K a b).go i H ∧ ∃ N : L2.St → Hp → Prop, (∀ σ' H', N σ' H' → ∃ m', m' < m ∧ W (i + 1) m' σ' H') ∧ ∀ v H', (ItzS k1 k2 K a b).yld i H v H' → g v σ H' fun σ2 H2 => tb { D with nx := N, ct := N, bk := D.nx } σ2 H2) := by
  refine ⟨fun i m σ H => m = xs.length - i ∧ i ≤ xs.length ∧ Pv i σ H, ⟨xs.length, rfl, Nat.zero_le _, h0⟩, ?_⟩
  rintro i m σ H ⟨rfl, hi, p⟩
  obtain ⟨qx, qy⟩ := hq i σ H p
  by_cases hlt : i < xs.length
  · have hx : xs[i]? = some xs[i] := List.getElem?_eq_getElem hlt
    have hlt2 : i < ys.length := by omega
    have hy : ys[i]? = some ys[i] := List.getElem?_eq_getElem hlt2
    refine .inr ⟨⟨xs, ys, _, _, qx, qy, hx, hy⟩, Pv (i + 1), fun σ' H' p' => ⟨xs.length - (i + 1), by omega, rfl, hlt, p'⟩, fun v H' y => ?_⟩
    obtain ⟨T, x', y', rfl, hT, rfl, f1, f2⟩ := y
    exact hs i x' y' T σ H (f1 xs qx) (f2 ys qy) p hT
  · obtain rfl : i = xs.length := by omega
    exact .inl ⟨⟨xs, ys, qx, qy, rfl, by omega⟩, hd σ H p⟩
end Q

set_option maxRecDepth 100000
set_option maxHeartbeats 4000000
/-! More that the laws share: own errors without arguments, repr of any data, small data, whole numbers in rows. -/
namespace Q
open PySem PySem.Spec PyProof.Rows L2
/-- X(), X an own exception class without own __init__ -/
theorem pmk_own0 {X : Cx} {C : Addr} {x : Str} {p pos : Pos} (q : PySem.W.excIn X.K C He.veBase "ValueError.__new__" = true) (gC : X.mg x = some (.ref C)) (kC : PySem.W.keepIn X.K (.ref C) = true) (r : Raises X (.ref C)) (hg : Gl X x := by rfl)
    (hdb : (x == ("__debug__" : Str)) = false := by decide) : PMk X (.Call (.Name x p) [] [] pos) (fun _ H Q => Q (.ref C) none H) := by
  intro pins s σ H Q I h
  refine wpAny_Call_Name_kw (ld_glob I hg gC ?_ hdb)
  refine PySem.W.callWith_K0 I.kIn kC ?_
  show wpAny _ _ (call (.ref C) []) _ _ _
  obtain ⟨bm, N, nm, qn, bs, hdct, sn, sub, ab, col, dd, k0, k1, k2, k3, k5, mN, hC, hN, hni, T⟩ := exc_obj I.kIn q
  refine wpAny_call_exc_subT PySem.F.excBase_ValueError T hC hN hni (fun h' e hm => ?_) (by show 0 ≤ sizeLine; exact Nat.zero_le _)
  exact mk_of I hm r h (I.hok.gone hm.new)
/-- repr of data: asked where no repr runs around -/
def rReprV (K : PySem.W.Frag) : List V → Hp → VK → Prop := fun xs H Q => ∃ (x : V) (d : PyData), xs = [x] ∧ Dp K H x d ∧ d.showable = true ∧ d.hasDict = false ∧ d.depth ≤ 60 ∧ d.shown.length ≤ sizeLine ∧ Q (.str d.shown) H
theorem call_reprV {X : Cx} (hg : X.A.guards = some []) (hu : X.A.units + 64 < cLine) : CallR X (.builtin "repr") (rReprV X.K) := by
  intro pins s σ H xs us Q I r h
  obtain ⟨x, d, rfl, hD, hs, hno, hdp, hl, q⟩ := h
  obtain ⟨u, rfl, r1⟩ := vals1 r
  have D := hD
  cases hD with
  | non =>
    obtain rfl : u = Value.none := r1
    exact PySem.P.repr_of_none ⟨.str _, H, I.tok _, ⟨_, rfl⟩, q⟩
  | bl b =>
    obtain rfl : u = Value.bool b := r1
    exact PySem.P.repr_of_bool ⟨.str _, H, I.tok _, ⟨_, by cases b <;> rfl⟩, q⟩
  | int i =>
    obtain ⟨t, rfl⟩ := r1
    exact PySem.P.repr_of_int (of_decide_eq_true hs) ⟨.str _, H, I.tok _, ⟨_, rfl⟩, q⟩
  | str z =>
    obtain ⟨t, rfl⟩ := r1
    exact PySem.P.repr_of_str ⟨.str _, H, I.tok _, ⟨_, rfl⟩, q⟩ hl
  | lst hq da =>
    exact call_reprD hg hu pins s σ H _ _ Q I r ⟨_, _, rfl, D, ⟨_, rfl⟩, hs, hno, hdp, hl, q⟩
  | tup hq da =>
    exact call_reprD hg hu pins s σ H _ _ Q I r ⟨_, _, rfl, D, ⟨_, rfl⟩, hs, hno, hdp, hl, q⟩
theorem call_reprVS {X : Cx} {a : Addr} {pn : List (Addr × Obj)} (hg : X.A.guards = some []) (hu : X.A.units + 64 < cLine) : CallR (X.suite a pn) (.builtin "repr") (rReprV X.K) := call_reprV (X := X.suite a pn) hg hu
/-! ### whole numbers, with bounds or without -/
def loB (lo : V) (i : Int) : Bool := match lo with
  | .int l => decide (l ≤ i)
  | _ => true
def hiB (hi : V) (i : Int) : Bool := match hi with
  | .int h => decide (i ≤ h)
  | _ => true
def wholeG (v lo hi : V) : Bool := match v with
  | .int i => loB lo i && hiB hi i
  | _ => false
def Bnd (v : V) : Prop := v = .non ∨ ∃ i, v = .int i
theorem wholeG_int {v : V} {lo hi : Int} : wholeG v (.int lo) (.int hi) = wholeV v lo hi := by cases v <;> rfl
theorem wholeG_no {v lo hi : V} (h : ∀ i, v ≠ .int i) : wholeG v lo hi = false := by
  cases v with
  | int i => exact absurd rfl (h i)
  | _ => rfl
def spWholeG : Sp := fun vs H Q _ => ∃ (v lo hi : V) (T : String), vs = [v, lo, hi] ∧ Kn H v T ∧ Bnd lo ∧ Bnd hi ∧ Q (.bl (wholeG v lo hi)) H
/-! ### rows and their numbers; both read from the back -/
def prodR : List Int → Int
  | [] => 1
  | w :: ws => prodR ws * w
def numR : List Int → List Int → Int
  | w :: ws, v :: vs => numR ws vs * w + v
  | _, _ => 0
def digs : List Int → Int → List Int
  | [], _ => []
  | w :: ws, n => n % w :: digs ws (n / w)
def quoR : List Int → Int → Int
  | [], n => n
  | w :: ws, n => quoR ws (n / w)
/-- each in its width -/
def InR : List Int → List Int → Prop
  | [], [] => True
  | w :: ws, v :: vs => 0 ≤ v ∧ v < w ∧ InR ws vs
  | _, _ => False
theorem InR.len : ∀ {ws vs : List Int}, InR ws vs → vs.length = ws.length
  | [], [], _ => rfl
  | [], _ :: _, h => h.elim
  | _ :: _, [], h => h.elim
  | _ :: ws, _ :: vs, h => by
    have := InR.len (ws := ws) (vs := vs) h.2.2
    simp [this]
theorem InR.get : ∀ {ws vs : List Int} {i : Nat} {w v : Int}, InR ws vs → ws[i]? = some w → vs[i]? = some v → 0 ≤ v ∧ v < w
  | [], _, _, _, _, _, h, _ => by simp at h
  | _ :: _, [], _, _, _, h, _, _ => h.elim
  | a :: ws, b :: vs, 0, w, v, h, h1, h2 => by
    simp at h1 h2
    subst h1 h2
    exact ⟨h.1, h.2.1⟩
  | a :: ws, b :: vs, i + 1, w, v, h, h1, h2 => InR.get (ws := ws) (vs := vs) (i := i) h.2.2 (by simpa using h1) (by simpa using h2)
theorem InR.of_get : ∀ {ws vs : List Int}, vs.length = ws.length → (∀ (i : Nat) (w v : Int), ws[i]? = some w → vs[i]? = some v → 0 ≤ v ∧ v < w) → InR ws vs
  | [], [], _, _ => trivial
  | [], _ :: _, h, _ => by simp at h
  | _ :: _, [], h, _ => by simp at h
  | a :: ws, b :: vs, h, k => by
    have z := k 0 a b rfl rfl
    exact ⟨z.1, z.2, InR.of_get (by simpa using h) fun i w v h1 h2 => k (i + 1) w v (by simpa using h1) (by simpa using h2)⟩
theorem InR.rev {ws vs : List Int} (h : InR ws vs) : InR ws.reverse vs.reverse := by
  have hl := h.len
  refine InR.of_get (by rw [List.length_reverse, List.length_reverse, hl]) fun i w v h1 h2 => ?_
  have hi : i < ws.length := by
    have := (List.getElem?_eq_some_iff.mp h1).1
    rwa [List.length_reverse] at this
  rw [List.getElem?_reverse hi] at h1
  rw [List.getElem?_reverse (by omega), hl] at h2
  exact h.get h1 h2
theorem num_bounds : ∀ {ws vs : List Int}, InR ws vs → 0 ≤ numR ws vs ∧ numR ws vs < prodR ws
  | [], [], _ => ⟨Int.le_refl _, by decide⟩
  | [], _ :: _, h => h.elim
  | _ :: _, [], h => h.elim
  | w :: ws, v :: vs, ⟨h0, h1, h⟩ => by
    obtain ⟨a, b⟩ := num_bounds (ws := ws) (vs := vs) h
    show 0 ≤ numR ws vs * w + v ∧ numR ws vs * w + v < prodR ws * w
    have w0 : 0 < w := by omega
    have e1 : 0 ≤ numR ws vs * w := Int.mul_nonneg a (Int.le_of_lt w0)
    have e2 : (numR ws vs + 1) * w ≤ prodR ws * w := Int.mul_le_mul_of_nonneg_right (by omega) (Int.le_of_lt w0)
    rw [Int.add_mul, Int.one_mul] at e2
    constructor <;> omega
theorem digs_num : ∀ {ws vs : List Int}, InR ws vs → digs ws (numR ws vs) = vs
  | [], [], _ => rfl
  | [], _ :: _, h => h.elim
  | _ :: _, [], h => h.elim
  | w :: ws, v :: vs, ⟨h0, h1, h⟩ => by
    have e1 : (numR ws vs * w + v) % w = v := by
      rw [Int.add_comm, Int.add_mul_emod_self_right]
      exact Int.emod_eq_of_lt h0 h1
    have e2 : (numR ws vs * w + v) / w = numR ws vs := by
      rw [Int.add_comm, Int.add_mul_ediv_right _ _ (by omega), Int.ediv_eq_zero_of_lt h0 h1, Int.zero_add]
    show (numR ws vs * w + v) % w :: digs ws ((numR ws vs * w + v) / w) = v :: vs
    rw [e1, e2, digs_num h]
theorem digs_len : ∀ (ws : List Int) (n : Int), (digs ws n).length = ws.length
  | [], _ => rfl
  | w :: ws, n => by
    show (digs ws (n / w)).length + 1 = ws.length + 1
    rw [digs_len]
theorem digs_in : ∀ {ws : List Int} {n : Int}, (∀ w ∈ ws, 0 < w) → 0 ≤ n → n < prodR ws → InR ws (digs ws n) ∧ numR ws (digs ws n) = n
  | [], n, _, h0, h1 => ⟨trivial, by
    have : n < 1 := h1
    show (0 : Int) = n
    omega⟩
  | w :: ws, n, hw, h0, h1 => by
    have w0 : 0 < w := hw w List.mem_cons_self
    have q0 : 0 ≤ n / w := Int.ediv_nonneg h0 (Int.le_of_lt w0)
    have q1 : n / w < prodR ws := Int.ediv_lt_of_lt_mul w0 h1
    obtain ⟨a, b⟩ := digs_in (ws := ws) (n := n / w) (fun x m => hw x (List.mem_cons_of_mem _ m)) q0 q1
    refine ⟨⟨Int.emod_nonneg _ (by omega), Int.emod_lt_of_pos _ w0, a⟩, ?_⟩
    show numR ws (digs ws (n / w)) * w + n % w = n
    rw [b, Int.mul_comm]
    exact Int.mul_ediv_add_emod n w
theorem digs_snoc : ∀ (ws : List Int) (w n : Int), digs (ws ++ [w]) n = digs ws n ++ [quoR ws n % w] ∧ quoR (ws ++ [w]) n = quoR ws n / w
  | [], w, n => ⟨rfl, rfl⟩
  | a :: ws, w, n => by
    obtain ⟨e1, e2⟩ := digs_snoc ws w (n / a)
    exact ⟨by show n % a :: digs (ws ++ [w]) (n / a) = n % a :: (digs ws (n / a) ++ [quoR ws (n / a) % w]); rw [e1], e2⟩
theorem prodR_pos : ∀ {ws : List Int}, (∀ w ∈ ws, 0 < w) → 0 < prodR ws
  | [], _ => by decide
  | w :: ws, h => Int.mul_pos (prodR_pos fun x m => h x (List.mem_cons_of_mem _ m)) (h w List.mem_cons_self)
theorem take_rev {α : Type} {l : List α} {i : Nat} {x : α} (h : l[i]? = some x) : (l.take (i + 1)).reverse = x :: (l.take i).reverse := by
  rw [List.take_add_one, h, List.reverse_append]
  rfl
theorem getMap {ws : List Int} {i : Nat} {x : V} (h : (ws.map V.int)[i]? = some x) : ∃ w, ws[i]? = some w ∧ x = .int w := by
  rw [List.getElem?_map] at h
  cases e : ws[i]? with
  | none => rw [e] at h; cases h
  | some w => rw [e] at h; exact ⟨w, rfl, (Option.some.inj h).symm⟩
/-! ### what check_widths and check_row look at -/
def unI : V → Int
  | .int i => i
  | _ => 0
def widthsOk (o : Option (List V)) : Bool := match o with
  | some xs => (decide (1 ≤ xs.length) && decide (xs.length ≤ 3)) && (xs.all (fun v => wholeV v 1 64) && decide (prodR (xs.map unI).reverse ≤ 4096))
  | none => false
def allIn : List Int → List V → Bool
  | w :: ws, x :: xs => wholeV x 0 (w - 1) && allIn ws xs
  | _, _ => true
def rowOk (ws : List Int) (o : Option (List V)) : Bool := match o with
  | some xs => decide (xs.length = ws.length) && allIn ws xs
  | none => false
theorem whole_is {v : V} {lo hi : Int} (h : wholeV v lo hi = true) : ∃ i, v = .int i ∧ lo ≤ i ∧ i ≤ hi := by
  cases v with
  | int i =>
    have z : (decide (lo ≤ i) && decide (i ≤ hi)) = true := h
    rw [Bool.and_eq_true] at z
    exact ⟨i, rfl, of_decide_eq_true z.1, of_decide_eq_true z.2⟩
  | _ => cases h
theorem all_whole {lo hi : Int} : ∀ {xs : List V}, xs.all (fun v => wholeV v lo hi) = true → xs = (xs.map unI).map V.int ∧ ∀ w ∈ xs.map unI, lo ≤ w ∧ w ≤ hi
  | [], _ => ⟨rfl, fun _ m => by cases m⟩
  | x :: xs, h => by
    rw [List.all_cons, Bool.and_eq_true] at h
    obtain ⟨i, rfl, h1, h2⟩ := whole_is h.1
    obtain ⟨e, k⟩ := all_whole h.2
    refine ⟨by rw [List.map_cons, List.map_cons, ← e]; rfl, fun w m => ?_⟩
    rcases List.mem_cons.mp (show w ∈ i :: xs.map unI from m) with rfl | m
    · exact ⟨h1, h2⟩
    · exact k w m
theorem unI_int (ns : List Int) : (ns.map V.int).map unI = ns := by
  rw [List.map_map]
  exact List.map_id'' (fun _ => rfl) ns
theorem allIn_is : ∀ {ws : List Int} {xs : List V}, xs.length = ws.length → allIn ws xs = true → xs = (xs.map unI).map V.int ∧ InR ws (xs.map unI)
  | [], [], _, _ => ⟨rfl, trivial⟩
  | [], _ :: _, h, _ => by simp at h
  | _ :: _, [], h, _ => by simp at h
  | w :: ws, x :: xs, hl, h => by
    have h' : (wholeV x 0 (w - 1) && allIn ws xs) = true := h
    rw [Bool.and_eq_true] at h'
    obtain ⟨i, rfl, h1, h2⟩ := whole_is h'.1
    obtain ⟨e, k⟩ := allIn_is (ws := ws) (xs := xs) (by simpa using hl) h'.2
    exact ⟨by rw [List.map_cons, List.map_cons, ← e]; rfl, h1, by show i < w; omega, k⟩
theorem allIn_of : ∀ {ws rs : List Int}, InR ws rs → allIn ws (rs.map V.int) = true
  | [], [], _ => rfl
  | [], _ :: _, h => h.elim
  | _ :: _, [], h => h.elim
  | w :: ws, r :: rs, ⟨h0, h1, h⟩ => by
    show ((decide (0 ≤ r) && decide (r ≤ w - 1)) && allIn ws (rs.map V.int)) = true
    rw [decide_eq_true h0, decide_eq_true (show r ≤ w - 1 by omega), allIn_of h]
    rfl
theorem rowOk_of {ws rs : List Int} (h : InR ws rs) : rowOk ws (some (rs.map V.int)) = true := by
  show (decide ((rs.map V.int).length = ws.length) && allIn ws (rs.map V.int)) = true
  rw [List.length_map, h.len, decide_eq_true rfl, allIn_of h]
  rfl
/-- the items of a list or a tuple are of known kinds -/
def Itm (H : Hp) (v : V) : Prop := ∀ xs, seqOf H v = some xs → ∀ x ∈ xs, ∃ T, Kn H x T
theorem Itm.ints {H : Hp} {v : V} {ns : List Int} (h : seqOf H v = some (ns.map V.int)) : Itm H v := fun xs hx x m => by
  rw [h] at hx
  cases hx
  obtain ⟨n, -, rfl⟩ := List.mem_map.mp m
  exact ⟨_, .int n⟩
theorem Itm.none {H : Hp} {v : V} (h : seqOf H v = none) : Itm H v := fun xs hx => by
  rw [h] at hx
  cases hx
theorem Itm.same {H H' : Hp} {v : V} {T : String} (h : Itm H v) (k : Kn H v T) (e : Same H H') : Itm H' v := fun xs hx x m => by
  rw [k.seqOf e] at hx
  obtain ⟨U, u⟩ := h xs hx x m
  exact ⟨U, u.same e⟩
/-! ### names -/
def lettersT : Str := "abcdefghijklmnopqrstuvwxyz"
def inLetters (c : Nat) : Bool := decide (c ∈ lettersT.cps.toList)
def nameV (v : V) : Bool := match v with
  | .str x => (decide (1 ≤ x.length) && decide (x.length ≤ 12)) && x.cps.toList.all inLetters
  | _ => false
theorem Kn.isStr {K : PySem.W.Frag} {H : Hp} {v : V} {T : String} (h : Kn H v T) : (∃ x, v = .str x ∧ PySem.W.kitOne K (.type T) (.type "str") = some true) ∨ (PySem.W.kitOne K (.type T) (.type "str") = some false ∧ nameV v = false) := by
  cases h with
  | str x => exact .inl ⟨x, rfl, kit_ty (by decide +kernel)⟩
  | int i => exact .inr ⟨kit_ty (by decide +kernel), rfl⟩
  | bl b => exact .inr ⟨kit_ty (by decide +kernel), rfl⟩
  | non => exact .inr ⟨kit_ty (by decide +kernel), rfl⟩
  | lst e => exact .inr ⟨kit_ty (by decide +kernel), rfl⟩
  | tup e => exact .inr ⟨kit_ty (by decide +kernel), rfl⟩
  | dct e => exact .inr ⟨kit_ty (by decide +kernel), rfl⟩
def spName : Sp := fun vs H Q _ => ∃ (v : V) (T : String), vs = [v] ∧ Kn H v T ∧ (∀ x, v = .str x → x.length ≤ 1000) ∧ ∀ H', Same H H' → Q (.bl (nameV v)) H'
end Q

set_option maxRecDepth 100000
set_option maxHeartbeats 4000000
/-! Small things that may stand in rows and lists, and what repr shows of them. -/
namespace Q
open PySem PySem.Spec PyProof.Rows L2
/-- data that repr shows in little room -/
structure Sm (d : PyData) (w : Nat) : Prop where
  sh : d.showable = true
  nd : d.hasDict = false
  dp : d.depth ≤ 1
  ls : d.leavesShort 60 = true
  wt : d.weight ≤ w
/-- data that repr shows -/
structure Shw (d : PyData) : Prop where
  sh : d.showable = true
  nd : d.hasDict = false
  dp : d.depth ≤ 60
  ln : d.shown.length ≤ sizeLine
theorem Sm.shw {d : PyData} {w : Nat} (h : Sm d w) (hw : w ≤ 100000) : Shw d := by
  have e := PyData.shown_le 60 (by decide) _ h.ls
  have := h.wt
  have := h.dp
  exact ⟨h.sh, h.nd, by omega, by rw [sizeLine_eq]; omega⟩
def smB (x : Str) : Bool := (PyData.str x).showable && ((PyData.str x).leavesShort 60 && decide ((PyData.str x).weight ≤ 200))
theorem sm_str {x : Str} (h : smB x = true) : Sm (.str x) 200 := by
  have z : ((PyData.str x).showable && ((PyData.str x).leavesShort 60 && decide ((PyData.str x).weight ≤ 200))) = true := h
  rw [Bool.and_eq_true, Bool.and_eq_true] at z
  exact ⟨z.1, rfl, Nat.zero_le _, z.2.1, of_decide_eq_true z.2.2⟩
theorem sm_int {i : Int} (h : i.natAbs < 10 ^ 40) : Sm (.int i) 200 := by
  have h1 : i.natAbs.log2 < 134 := PySem.Flt.log2_lt_of (by decide) (Nat.lt_of_lt_of_le h (by decide))
  refine ⟨?_, rfl, Nat.zero_le _, ?_, ?_⟩
  · show decide (i.natAbs.log2 < 1920) = true
    exact decide_eq_true (by omega)
  · have e := int_text_length_le10 (a := i) (k := 40) (by decide) h
    have e2 : (PyData.shown (.int i)).length = (toString i).length := PySem.ofString_length _
    exact decide_eq_true (by omega)
  · show (if i == 0 then 0 else i.natAbs.log2 + 1) ≤ 200
    split <;> omega
/-- what may stand in a row -/
inductive Odd (H : Hp) : V → Prop
  | non : Odd H .non
  | bl (b : Bool) : Odd H (.bl b)
  | str (x : Str) (h : smB x = true) : Odd H (.str x)
  | int (i : Int) (h : i.natAbs < 10 ^ 40) : Odd H (.int i)
  | tup {t : Addr} (n : Int) (h : n.natAbs < 10 ^ 40) (e : H t = some (.tup [.int n])) : Odd H (.ref t)
theorem Odd.kn {H : Hp} {v : V} (h : Odd H v) : ∃ T, Kn H v T := by
  cases h with
  | non => exact ⟨_, .non⟩
  | bl b => exact ⟨_, .bl b⟩
  | str x _ => exact ⟨_, .str _⟩
  | int i _ => exact ⟨_, .int i⟩
  | tup _ _ e => exact ⟨_, .tup e⟩
theorem Odd.keep {H H' : Hp} {v : V} (h : Odd H v) (k : ∀ t xs, H t = some (.tup xs) → H' t = some (.tup xs)) : Odd H' v := by
  cases h with
  | non => exact .non
  | bl b => exact .bl b
  | str x h => exact .str x h
  | int i h => exact .int i h
  | tup n h e => exact .tup n h (k _ _ e)
theorem Odd.same {H H' : Hp} {v : V} (h : Odd H v) (k : Same H H') : Odd H' v := h.keep fun t xs e => k _ _ e
theorem Odd.kb {H H' : Hp} {b c : Addr} {n : Int} {v : V} (h : Odd H v) (B : BagAt H b c n) (k : Kb b H H') : Odd H' v := h.keep fun t xs e => k t _ (fun z => by
  obtain ⟨ns, p, r, kk, m, h1, _⟩ := B
  rw [z, h1] at e
  cases e) e
theorem Odd.dat {K : PySem.W.Frag} {H : Hp} {v : V} (h : Odd H v) : ∃ d, Dp K H v d ∧ Sm d 200 := by
  cases h with
  | non => exact ⟨_, .non, by decide, by decide, by decide, by decide, by decide⟩
  | bl b => exact ⟨_, .bl b, by cases b <;> decide, by cases b <;> decide, by cases b <;> decide, by cases b <;> decide, by cases b <;> decide⟩
  | str x h => exact ⟨_, .str _, sm_str h⟩
  | int i h => exact ⟨_, .int i, sm_int h⟩
  | tup n h e =>
    have s := sm_int h
    refine ⟨.tuple [.int n], .tup (SqT.of e) (.cons (.int n) .nil), ?_, rfl, Nat.le_refl _, ?_, ?_⟩
    · show ((PyData.int n).showable && true) = true
      rw [s.sh]
      rfl
    · show ((PyData.int n).leavesShort 60 && true) = true
      rw [s.ls]
      rfl
    · show PyData.weightAll [.int n] ≤ 200
      have e1 : PyData.weightAll [.int n] = (PyData.int n).weight + 1 + 0 := rfl
      have h1 : n.natAbs.log2 < 134 := PySem.Flt.log2_lt_of (by decide) (Nat.lt_of_lt_of_le h (by decide))
      have e2 : (PyData.int n).weight ≤ 135 := by
        show (if n == 0 then 0 else n.natAbs.log2 + 1) ≤ 135
        split <;> omega
      omega
theorem odds_dat {K : PySem.W.Frag} {H : Hp} : ∀ {xs : List V}, (∀ x ∈ xs, Odd H x) → ∃ ds, DpAll K H xs ds ∧ PyData.showableAll ds = true ∧ PyData.hasDictAll ds = false ∧ PyData.depthAll ds ≤ 1 ∧ PyData.leavesShortAll 60 ds = true ∧ PyData.weightAll ds ≤ 201 * xs.length
  | [], _ => ⟨[], .nil, rfl, rfl, Nat.zero_le _, rfl, Nat.zero_le _⟩
  | x :: xs, h => by
    obtain ⟨d, D, S⟩ := (h x List.mem_cons_self).dat (K := K)
    obtain ⟨ds, E, e1, e2, e3, e4, e5⟩ := odds_dat (K := K) fun y hy => h y (List.mem_cons_of_mem _ hy)
    refine ⟨d :: ds, .cons D E, ?_, ?_, ?_, ?_, ?_⟩
    · show (d.showable && PyData.showableAll ds) = true
      rw [S.sh, e1]
      rfl
    · show (d.hasDict || PyData.hasDictAll ds) = false
      rw [S.nd, e2]
      rfl
    · exact Nat.max_le.mpr ⟨S.dp, e3⟩
    · show (d.leavesShort 60 && PyData.leavesShortAll 60 ds) = true
      rw [S.ls, e4]
      rfl
    · show d.weight + 1 + PyData.weightAll ds ≤ 201 * (xs.length + 1)
      have := S.wt
      omega
/-- a list or a tuple of such things, or one of them: what a caller hands in -/
inductive Arg (H : Hp) : V → Prop
  | one {v : V} (h : Odd H v) : Arg H v
  | lst {a : Addr} {xs : List V} (e : H a = some (.lst xs)) (h : ∀ x ∈ xs, Odd H x) (n : xs.length ≤ 100) : Arg H (.ref a)
  | tup {a : Addr} {xs : List V} (e : H a = some (.tup xs)) (h : ∀ x ∈ xs, Odd H x) (n : xs.length ≤ 100) : Arg H (.ref a)
theorem Arg.kn {H : Hp} {v : V} (h : Arg H v) : (∃ T, Kn H v T) ∧ Itm H v := by
  have io : ∀ {a : Addr} {xs : List V}, seqOf H (.ref a) = some xs → (∀ x ∈ xs, Odd H x) → Itm H (.ref a) := fun e h ys hy x m => by
    rw [e] at hy
    cases hy
    exact (h x m).kn
  cases h with
  | one h =>
    refine ⟨h.kn, ?_⟩
    cases h with
    | tup n hn e =>
      refine io (xs := [.int n]) (seqOf_tup e) fun x m => ?_
      obtain rfl := List.mem_singleton.mp m
      exact .int n hn
    | _ => exact Itm.none rfl
  | lst e h _ => exact ⟨⟨_, .lst e⟩, io (seqOf_lst e) h⟩
  | tup e h _ => exact ⟨⟨_, .tup e⟩, io (seqOf_tup e) h⟩
theorem Arg.dat {K : PySem.W.Frag} {H : Hp} {v : V} (h : Arg H v) : ∃ d, Dp K H v d ∧ Shw d := by
  have sq : ∀ {xs : List V} {ds : List PyData} {d : PyData}, xs.length ≤ 100 → (d = .list ds ∨ d = .tuple ds) → PyData.showableAll ds = true → PyData.hasDictAll ds = false → PyData.depthAll ds ≤ 1 → PyData.leavesShortAll 60 ds = true → PyData.weightAll ds ≤ 201 * xs.length → Shw d := fun {xs ds d} n e e1 e2 e3 e4 e5 => by
    have ls : d.leavesShort 60 = true := by rcases e with rfl | rfl <;> exact e4
    have w : d.weight = PyData.weightAll ds := by rcases e with rfl | rfl <;> rfl
    have dp : d.depth = PyData.depthAll ds + 1 := by rcases e with rfl | rfl <;> rfl
    have l := PyData.shown_le 60 (by decide) _ ls
    exact ⟨by rcases e with rfl | rfl <;> exact e1, by rcases e with rfl | rfl <;> exact e2, by omega, by rw [sizeLine_eq]; omega⟩
  cases h with
  | one h =>
    obtain ⟨d, D, s⟩ := h.dat (K := K)
    exact ⟨d, D, s.shw (by decide)⟩
  | lst e h n =>
    obtain ⟨ds, D, e1, e2, e3, e4, e5⟩ := odds_dat (K := K) h
    exact ⟨_, .lst (SqL.of e) D, sq n (.inl rfl) e1 e2 e3 e4 e5⟩
  | tup e h n =>
    obtain ⟨ds, D, e1, e2, e3, e4, e5⟩ := odds_dat (K := K) h
    exact ⟨_, .tup (SqT.of e) D, sq n (.inr rfl) e1 e2 e3 e4 e5⟩
theorem Arg.same {H H' : Hp} {v : V} (h : Arg H v) (k : Same H H') : Arg H' v := by
  cases h with
  | one h => exact .one (h.same k)
  | lst e h n => exact .lst (k _ _ e) (fun x m => (h x m).same k) n
  | tup e h n => exact .tup (k _ _ e) (fun x m => (h x m).same k) n
theorem ty_sqT {K : PySem.W.Frag} {H : Hp} {a : Addr} {xs : List V} (h : SqT K H a xs) : TyX K H (.ref a) (.type "tuple") := by
  rcases h with (h | ⟨o, h⟩) | ⟨o, its, n, h1, h2, _⟩
  · exact .base (.tup h)
  · exact .fTuple h
  · exact .kTuple h1 h2
end Q

set_option maxRecDepth 100000
set_option maxHeartbeats 4000000
/-! The rules whose relation names the written part, inside one comprehension (B) and inside two (BB).  Printed by mkblk.py. -/
namespace Q
open PySem PySem.Spec PyProof.Rows L2
section
variable {X : Cx} {s s2 : Shared} {H H2 : Hp} {sc sc2 : Scope} {ce ce2 : Env} {fp fp2 : List Addr}
theorem op_catAB : OpR (X.blk s H sc ce fp) (binaryOp .Add) (rCatA X.K) := op_catA (X := (X.blk s H sc ce fp))
theorem op_catABB : OpR ((X.blk s H sc ce fp).blk s2 H2 sc2 ce2 fp2) (binaryOp .Add) (rCatA X.K) := op_catA (X := ((X.blk s H sc ce fp).blk s2 H2 sc2 ce2 fp2))
theorem op_catTB : OpR (X.blk s H sc ce fp) (binaryOp .Add) (rCatT X.K) := op_catT (X := (X.blk s H sc ce fp))
theorem op_catTBB : OpR ((X.blk s H sc ce fp).blk s2 H2 sc2 ce2 fp2) (binaryOp .Add) (rCatT X.K) := op_catT (X := ((X.blk s H sc ce fp).blk s2 H2 sc2 ce2 fp2))
theorem ix_listB : IxR (X.blk s H sc ce fp)  (rIxL X.K) := ix_list (X := (X.blk s H sc ce fp))
theorem ix_listBB : IxR ((X.blk s H sc ce fp).blk s2 H2 sc2 ce2 fp2)  (rIxL X.K) := ix_list (X := ((X.blk s H sc ce fp).blk s2 H2 sc2 ce2 fp2))
theorem ix_tupB : IxR (X.blk s H sc ce fp)  (rIxT X.K) := ix_tup (X := (X.blk s H sc ce fp))
theorem ix_tupBB : IxR ((X.blk s H sc ce fp).blk s2 H2 sc2 ce2 fp2)  (rIxT X.K) := ix_tup (X := ((X.blk s H sc ce fp).blk s2 H2 sc2 ce2 fp2))
theorem ix_seqB : IxR (X.blk s H sc ce fp)  (rIx X.K) := ix_seq (X := (X.blk s H sc ce fp))
theorem ix_seqBB : IxR ((X.blk s H sc ce fp).blk s2 H2 sc2 ce2 fp2)  (rIx X.K) := ix_seq (X := ((X.blk s H sc ce fp).blk s2 H2 sc2 ce2 fp2))
theorem call_len_seqB : CallR (X.blk s H sc ce fp) (.builtin "len") (fun xs H Q => ∃ p ys, xs = [.ref p] ∧ (SqL X.K H p ys ∨ SqT X.K H p ys) ∧ Q (.int ys.length) H) := call_len_seq (X := (X.blk s H sc ce fp))
theorem call_len_seqBB : CallR ((X.blk s H sc ce fp).blk s2 H2 sc2 ce2 fp2) (.builtin "len") (fun xs H Q => ∃ p ys, xs = [.ref p] ∧ (SqL X.K H p ys ∨ SqT X.K H p ys) ∧ Q (.int ys.length) H) := call_len_seq (X := ((X.blk s H sc ce fp).blk s2 H2 sc2 ce2 fp2))
theorem call_tupOfB : CallR (X.blk s H sc ce fp) (.type "tuple") (rTupOf X.K) := call_tupOf (X := (X.blk s H sc ce fp))
theorem call_tupOfBB : CallR ((X.blk s H sc ce fp).blk s2 H2 sc2 ce2 fp2) (.type "tuple") (rTupOf X.K) := call_tupOf (X := ((X.blk s H sc ce fp).blk s2 H2 sc2 ce2 fp2))
theorem call_list_ofB : CallR (X.blk s H sc ce fp) (.type "list") (fun xs H Q => ∃ p ys, xs = [.ref p] ∧ (SqL X.K H p ys ∨ SqT X.K H p ys) ∧ ∀ l, H l = none → Q (.ref l) (upd H l (.lst ys))) := call_list_of (X := (X.blk s H sc ce fp))
theorem call_list_ofBB : CallR ((X.blk s H sc ce fp).blk s2 H2 sc2 ce2 fp2) (.type "list") (fun xs H Q => ∃ p ys, xs = [.ref p] ∧ (SqL X.K H p ys ∨ SqT X.K H p ys) ∧ ∀ l, H l = none → Q (.ref l) (upd H l (.lst ys))) := call_list_of (X := ((X.blk s H sc ce fp).blk s2 H2 sc2 ce2 fp2))
theorem call_isiB : CallR (X.blk s H sc ce fp) (.builtin "isinstance") (rIsi X.K) := call_isi (X := (X.blk s H sc ce fp))
theorem call_isiBB : CallR ((X.blk s H sc ce fp).blk s2 H2 sc2 ce2 fp2) (.builtin "isinstance") (rIsi X.K) := call_isi (X := ((X.blk s H sc ce fp).blk s2 H2 sc2 ce2 fp2))
theorem call_isiTB : CallR (X.blk s H sc ce fp) (.builtin "isinstance") (rIsiT X.K) := call_isiT (X := (X.blk s H sc ce fp))
theorem call_isiTBB : CallR ((X.blk s H sc ce fp).blk s2 H2 sc2 ce2 fp2) (.builtin "isinstance") (rIsiT X.K) := call_isiT (X := ((X.blk s H sc ce fp).blk s2 H2 sc2 ce2 fp2))
theorem pi_listB {tg l : Expr} {tl : TE} (hl : PE (X.blk s H sc ce fp) l tl) : PI (X.blk s H sc ce fp) tg l (iList X.K tl) := pi_list hl
theorem pi_listBB {tg l : Expr} {tl : TE} (hl : PE ((X.blk s H sc ce fp).blk s2 H2 sc2 ce2 fp2) l tl) : PI ((X.blk s H sc ce fp).blk s2 H2 sc2 ce2 fp2) tg l (iList X.K tl) := pi_list hl
theorem pi_tupB {tg l : Expr} {tl : TE} (hl : PE (X.blk s H sc ce fp) l tl) : PI (X.blk s H sc ce fp) tg l (iTup X.K tl) := pi_tup hl
theorem pi_tupBB {tg l : Expr} {tl : TE} (hl : PE ((X.blk s H sc ce fp).blk s2 H2 sc2 ce2 fp2) l tl) : PI ((X.blk s H sc ce fp).blk s2 H2 sc2 ce2 fp2) tg l (iTup X.K tl) := pi_tup hl
theorem pi_seqB {tg l : Expr} {tl : TE} (hl : PE (X.blk s H sc ce fp) l tl) : PI (X.blk s H sc ce fp) tg l (iSeq X.K tl) := pi_seq hl
theorem pi_seqBB {tg l : Expr} {tl : TE} (hl : PE ((X.blk s H sc ce fp).blk s2 H2 sc2 ce2 fp2) l tl) : PI ((X.blk s H sc ce fp).blk s2 H2 sc2 ce2 fp2) tg l (iSeq X.K tl) := pi_seq hl
end
end Q

set_option maxRecDepth 100000
set_option maxHeartbeats 4000000
/-! An exception that leaves a list comprehension. -/
namespace Q
open PySem PySem.Spec PyProof.Rows L2
theorem funFrames_less {h B B0 : Heap} (g : ∀ b, B.get? b = none → B0.get? b = none) : ∀ {l : List Env}, h.FunFrames B l → h.FunFrames B0 l
  | [], _ => trivial
  | e :: l, ⟨h1, ⟨L, o, h2, h3, h4, h5⟩, r⟩ => ⟨h1, ⟨L, o, h2, g L h3, h4, h5⟩, funFrames_less g r⟩
/-- a callee's exception, noted in the comprehension's frame, let go with its names, taken where the def takes it -/
theorem blk_raise {X : Cx} {W : WX} {E : XK} {pins pins' : List (Addr × Obj)} {σ σ' : L2.St} {H3 H : Hp} {s3 s s' : Shared} {scope : Scope} {ce : Env} {fp : List Addr} {xe' : Value → Shared → Prop} {u : Value} {E₁ : Value → Shared → Prop}
    (tk : Takes X W) (hs : X.stack = X.env :: X.outer) (hf : X.env.frame = some X.env.locals) (I3 : Inv X pins σ H3 s3) (hL : ce.locals = s3.heap.objs.size) (hcf : ce.frame = X.env.frame)
    (hfp : ∀ b ∈ fp, (b ∈ X.ex ∨ X.s_0.heap.objs.size ≤ b) ∧ b ≠ X.env.locals ∧ (∀ x c, X.env.cells.lookup x = some c → c ≠ b) ∧ ∀ p ∈ X.pn ++ pins, p.1 ≠ b)
    (hE : ∀ cls d H', E cls d H' → W cls d σ H') (I' : Inv ((X.blk s3 H3 scope ce fp).tr [] xe') pins' σ' H s) (c : L2.CX X.prog X.w X.stack H s E u s') :
    wpAny (model X.prog X.w) X.A (noteFrame u ce) (fun _ s'' => CompFails (model X.prog X.w) X.A X.xe ce u s'') E₁ s' := by
  obtain ⟨a, B, H', cls, d, rfl, fl, hok, ub, na, os, ag, hw⟩ := c
  have hfr : X.A.frames = some (X.env :: X.outer) := by rw [I3.ok.frames, hs]
  have frlt : ∀ b, b ∈ frs X.stack → b < s3.heap.objs.size := fun b hm => by
    rcases List.mem_cons.mp (I3.stkSub b hm) with z | z
    · obtain ⟨m, hn, _⟩ := I3.loc
      obtain ⟨o, es, ep, e, _⟩ := hn
      rw [z]
      exact Heap.lt_size e
    · obtain ⟨_, o, e, _⟩ := I3.ok.funs.mem z
      exact Nat.lt_of_lt_of_le (Heap.lt_size e) I3.sz
  have cN : ce.locals ∉ frs X.stack := fun z => by
    have := frlt _ z
    rw [hL] at this
    exact absurd this (Nat.lt_irrefl _)
  have lt3 : ∀ {b : Addr} {o : Obj}, s3.heap.get? b = some o → b ≠ ce.locals := fun {b o} e z => by
    have := Heap.lt_size e
    rw [z, hL] at this
    exact absurd this (Nat.lt_irrefl _)
  obtain ⟨m, hn, _⟩ := I'.loc
  have hn : s.heap.Ns ce.locals m := hn
  have hHC : H ce.locals = none := I'.free
  obtain ⟨oC, es, ep, eC, dC, rC⟩ := hn
  have eB : B.get? ce.locals = some oC := ub.keep _ _ eC hHC cN
  have hH'C : H' ce.locals = none := ub.free _ _ eC hHC
  obtain ⟨B0, g1, g2⟩ := restrict B fun b => decide (b ≠ ce.locals)
  have gk : ∀ b, b ≠ ce.locals → B0.get? b = B.get? b := fun b hb => g1 b (decide_eq_true hb)
  have gC : B0.get? ce.locals = none := g2 _ (decide_eq_false fun z => z rfl)
  have gs : ∀ b o, B0.get? b = some o → B.get? b = some o ∧ b ≠ ce.locals := fun b o e => by
    have hb : b ≠ ce.locals := fun z => by rw [z, gC] at e; cases e
    exact ⟨(gk b hb).symm.trans e, hb⟩
  have gn : ∀ b, B.get? b = none → B0.get? b = none := fun b e => by
    cases q : B0.get? b with
    | none => rfl
    | some o => rw [(gs b o q).1] at e; cases e
  have fl0 : HandSPX.FlyingZ B0 X.stack a (Zc cls d) s'.heap := by
    obtain ⟨f1, f2, f3, oe, vs, T, oT, ts, t1, t2, t3, t4, t5, t6⟩ := fl
    exact ⟨fun b o e => f1 b o (gs b o e).1, gn a f2, funFrames_less gn f3, oe, vs, T, oT, ts, t1, t2, t3, t4, gn T t5, t6⟩
  have flS := fl.1
  rw [hs] at fl0
  rw [noteFrame_env _ hcf]
  refine HandSPX.looks_onZ Zc.steady hfr hf fl0 fun h' held up => ?_
  have nf : ∀ vs, oC.data ≠ .fields vs := fun vs q => by rw [dC] at q; cases q
  obtain ⟨slC, eC'⟩ := up _ _ (flS _ _ eB) nf
  have hnC : h'.Ns ce.locals m := ⟨_, es, ep, eC', dC, rC⟩
  refine ⟨m, hnC, fun h₂ m₂ hn₂ hs₂ => ?_⟩
  have neD : ∀ {b : Addr} {o : Obj} {vs : Array Value}, h'.get? b = some o → o.data = .fields vs → b ≠ ce.locals := fun {b o vs} e q z => by
    rw [z, eC'] at e
    cases e
    rw [show ({ oC with slots := slC } : Obj).data = oC.data from rfl, dC] at q
    cases q
  have held2 : HandSPX.HeldZ B0 (X.env :: X.outer) a (Zc cls d) X.env.locals h₂ := by
    obtain ⟨f1, f2, f3, oe, vs, T, oT, ts, t1, t2, t3, t4, t5, t6, t7, t8, t9⟩ := held
    exact ⟨fun b o e => (hs₂.2 b (gs b o e).2).trans (f1 b o e), f2, Heap.FunFrames.sameBut hs₂ hn₂ f3, oe, vs, T, oT, ts, (hs₂.2 a (neD t1 t3)).trans t1, t2, t3, t4, t5, t6, (hs₂.2 T (neD t7 t8)).trans t7, t8, t9⟩
  unfold PySem.passOn
  obtain ⟨oe, vs, T, oT, ts, t1, t2, t3, t4, -⟩ := id held2.2.2.2
  refine wpAny_bind (wpAny_field t1 t3 t4 ?_)
  rw [if_neg (show ¬ ((Value.ref T == Value.none) = true) from by simp)]
  rw [hcf, hf]
  refine wpAny_bind (HandSPX.setFlight_onZ held2 fun h₃ held3 up3 => ?_)
  refine wpAny_throw (tk _ _ ?_)
  obtain ⟨G, k1, k2⟩ := restrict s'.heap fun b => (B0.get? b).isSome || decide (b ∈ frs X.stack)
  have st0 : ∀ b o, B0.get? b = some o → s'.heap.get? b = some o := fun b o e => flS b o (gs b o e).1
  have gB : ∀ b o, B0.get? b = some o → G.get? b = some o := fun b o e => by
    rw [k1 b (by simp [e])]
    exact st0 b o e
  have gF : ∀ b, b ∈ frs X.stack → G.get? b = s'.heap.get? b := fun b hb => k1 b (by simp [hb])
  have og : ∀ b o, G.get? b = some o → s'.heap.get? b = some o ∧ ((B0.get? b).isSome = true ∨ b ∈ frs X.stack) := fun b o e => by
    cases q : ((B0.get? b).isSome || decide (b ∈ frs X.stack)) with
    | false => rw [k2 b q] at e; cases e
    | true =>
      rw [k1 b q] at e
      exact ⟨e, by simpa [Bool.or_eq_true] using q⟩
  have oC' : ∀ b o, G.get? b = some o → b ≠ ce.locals := fun b o e z => by
    rcases (og b o e).2 with q | q
    · rw [z, gC] at q
      cases q
    · rw [z] at q
      exact cN q
  have base := I'.base
  have U : Un (frs X.stack) fp H3 H' s3.heap G := {
    keep := fun b o e n hb hx => gB b o (by rw [gk b (lt3 e)]; exact ub.keep b o (base.keep b o e n hb hx) (base.free b o e n hx) hb)
    slot := fun b o e n hb hx => by
      obtain ⟨sl, e1⟩ := base.slot b o e n hb hx
      obtain ⟨sl2, e2⟩ := ub.slot b _ e1 hb
      exact ⟨sl2, by rw [gF b hb]; exact e2⟩
    free := fun b o e n hx => by
      by_cases hb : b ∈ frs X.stack
      · obtain ⟨sl, e1⟩ := base.slot b o e n hb hx
        exact ub.free b _ e1 (base.free b o e n hx)
      · exact ub.free b o (base.keep b o e n hb hx) (base.free b o e n hx)
    there := fun b o e hx => by
      obtain ⟨o', e1⟩ := base.there b o e hx
      by_cases hb : b ∈ frs X.stack
      · obtain ⟨sl, e2⟩ := ub.slot b o' e1 hb
        exact ⟨_, by rw [gF b hb]; exact e2⟩
      · obtain ⟨o2, e2⟩ := ub.there b o' e1 hb
        exact ⟨o2, gB b o2 (by rw [gk b (lt3 e)]; exact e2)⟩
    tups := fun b xs e => ub.tups b xs (base.tups b xs e)
    frzs := fun b o v e => ub.frzs b o v (base.frzs b o v e)
    tbls := fun b ps e => by
      obtain ⟨m1, e1⟩ := base.tbls b ps e
      obtain ⟨m2, e2⟩ := ub.tbls b _ e1
      exact ⟨m1 ++ m2, by rw [e2, Array.append_assoc]⟩ }
  have hokG : HOk X.prog X.w H' G := fun b o z => (hok b o z).stay (fun x v hx e => by
      have nx : x ≠ ce.locals := fun q => by
        rcases hx with hx | hx
        · rw [← hx, q, hH'C] at z
          cases z
        · rw [q, hH'C] at hx
          cases hx
      exact gB x v (by rw [gk x nx]; exact e)) (fun _ h => h) fun _ _ h => h
  refine ⟨a, B0, { s3 with heap := G, gens := s'.gens, drawn := s'.drawn, toks := s'.toks }, pins, σ, H', cls, d, rfl, I3.call' (ch := fp) rfl U hokG ag hfp, fun b o e hb => ?_, ?_, .inr (.inr (by rw [hs]; exact held3)), na, os.trans I'.os, ag, hE _ _ _ hw⟩
  · obtain ⟨e1, q | q⟩ := og b o e
    · obtain ⟨o2, e2⟩ := Option.isSome_iff_exists.mp q
      have e3 := st0 b o2 e2
      rw [e1] at e3
      cases e3
      exact e2
    · exact absurd q hb
  · intro b o e nf'
    obtain ⟨sl, e1⟩ := up b o (og b o e).1 nf'
    obtain ⟨sl2, e2⟩ := up3 b _ ((hs₂.2 b (oC' b o e)).trans e1) nf'
    exact ⟨sl2, e2⟩
/-- the context of a comprehension's block from which an exception may come -/
abbrev blkX (X : Cx) (s : Shared) (H : Hp) (scope : Scope) (ce : Env) (fp : List Addr) (xe : Value → Shared → Prop) : Cx := (X.blk s H scope ce fp).tr [] xe
/-- what a callee within may let out -/
abbrev LetsOut (X : Cx) (E : XK) : Prop := ∀ σ, PassesAt (L2.CX X.prog X.w) X σ E
section
variable {X : Cx} {W : WX} {E : XK}
theorem lc_raise {pins : List (Addr × Obj)} {s : Shared} {σ : L2.St} {H : Hp} {Q : VK} {elt tg iter : Expr} {ifs : List Expr} {scope : Scope} {own : List (Str × Nat)} {pos pos2 : Pos} {wi : TI} {g : TG} {tt : TT} {te : TE} {use : Option (Value → Sem Unit)} {Qf : Value → Shared → Prop}
    (tk : Takes X W) (hW : ∀ cls d τ H', E cls d H' → W cls d τ H') (hs : X.stack = X.env :: X.outer) (hf : X.env.frame = some X.env.locals) (hc : X.calm = true) (hN : X.N.Nodup) (I : Inv X pins σ H s) (hi : PI X tg iter wi) (ok : BlkOk X.N X.env.scope scope own)
    (hg : ∀ (s : Shared) (H : Hp) (C : Addr) (cl : List (Str × Addr)) (fp : List Addr) (xe : Value → Shared → Prop), PG (blkX X s H scope (compEnvC scope cl C X.env) fp xe) tg g)
    (ht : ∀ (s : Shared) (H : Hp) (C : Addr) (cl : List (Str × Addr)) (fp : List Addr) (xe : Value → Shared → Prop), PTs (blkX X s H scope (compEnvC scope cl C X.env) fp xe) ifs tt)
    (he : ∀ (s : Shared) (H : Hp) (C : Addr) (cl : List (Str × Addr)) (fp : List Addr) (xe : Value → Shared → Prop), LetsOut (blkX X s H scope (compEnvC scope cl C X.env) fp xe) E → PE (blkX X s H scope (compEnvC scope cl C X.env) fp xe) elt te)
    (hset : ∀ x, foldedSetIterable iter X.env x = pure x) (h : tLc wi g tt te (own.map (·.2)) σ H Q)
    (fin : ∀ (D : Addr) (ce : Env) (s' : Shared) (m : Str → Option Value) (H' : Hp), Inv X pins σ H' s' → Q (.ref D) H' → s'.heap.Ns ce.locals m → FpOk X pins H' ce.locals → compEnds (model X.prog X.w) X.A X.xe use Qf (.ref D) ce (.ok .next) s') :
    wpAny (model X.prog X.w) X.A (comprehension (.ListComp elt [⟨tg, iter, ifs, 0⟩] scope pos) scope X.env pos2 (newList []) false (eval iter X.env) use) Qf X.xe s := by
  have cells : ∀ y ∈ scope.names, y.2 = .free → ∃ c, X.env.cells.lookup y.1 = some c := fun y hy e => (ok.free y hy e).elim (fun k => I.ok.has _ (.inl k)) fun k => I.ok.has _ (.inr k)
  refine comprehension_at (use := use) rfl hset (closure_ok cells) ok.kind (fun y hy e => by rw [ok.uniq y hy, e]) (thn (hi.run pins s σ H _ I h) fun xv s1 hx => thn hx fun itv s2 ⟨it, fp, tn, J, H2, e, I2, T, st2, f2, q⟩ => ?_)
  subst e
  refine wpAny_newObj_type (newEnv_comp ?_) (by show 0 ≤ sizeLine; exact Nat.zero_le _)
  generalize hD : s2.heap.objs.size = D
  have freeD : H2 D = none := I2.hok.fresh (Nat.le_of_eq hD)
  obtain ⟨V2, ⟨m0, v0⟩, turn⟩ := q D freeD
  generalize hl3 : ({ s2 with heap := s2.heap.push { cls := .type "list", data := .seq ([] : List Value).toArray } } : Shared) = s3
  have h3 : s3.heap = s2.heap.push { cls := .type "list", data := .seq ([] : List Value).toArray } := by rw [← hl3]
  have J3 : Inv X pins σ (upd H2 D (.lst [])) s3 := by
    subst hl3
    refine I2.laid (t' := s2.toks) (fun b o e => Heap.get?_push_of_some _ e) (Nat.le_of_eq hD) ⟨Nat.zero_le _, [], 0, .nil, ?_⟩
    exact hD ▸ Heap.get?_push_size _ rfl
  have low : ∀ b ∈ fp, b < s2.heap.objs.size := fun b hb => (T.obj _ _ st2 b hb).elim fun o e => Heap.lt_size e.1
  have F3 : ∀ b ∈ fp, FpOk X pins (upd H2 D (.lst [])) b ∧ b < s3.heap.objs.size := fun b hb =>
    ⟨⟨by rw [upd_ne (by rw [← hD]; exact Nat.ne_of_lt (low b hb))]; exact (f2 b hb).1, (f2 b hb).2⟩, by rw [h3, Heap.size_push]; exact Nat.lt_succ_of_lt (low b hb)⟩
  have st3 : tn 0 s3.heap := T.keep _ _ _ st2 fun b _ o e => by rw [h3]; exact Heap.get?_push_of_some _ e
  have J4 := block_start J3 ok hN F3
  generalize hce : compEnvC scope (cellsFrom (s3.heap.objs.size + 1) scope.names (cloFrom X.env.cells scope.names [])) s3.heap.objs.size X.env = ce at J4
  have gce : ∃ C cl, ce = compEnvC scope cl C X.env := ⟨_, _, hce.symm⟩
  have cL : ce.locals = s3.heap.objs.size := by rw [← hce]; rfl
  have cF : ce.frame = X.env.frame := by rw [← hce]; rfl
  show codeAny _ _ (.compStart (.ListComp elt [⟨tg, iter, ifs, 0⟩] scope pos) 0 (.ref it) (.ref D) (compEnvC scope (cellsFrom (s3.heap.objs.size + 1) scope.names (cloFrom X.env.cells scope.names [])) s3.heap.objs.size X.env)) (compEnds (model X.prog X.w) X.A X.xe use Qf (.ref D) (compEnvC scope (cellsFrom (s3.heap.objs.size + 1) scope.names (cloFrom X.env.cells scope.names [])) s3.heap.objs.size X.env)) { s3 with heap := pushCells (s3.heap.push { cls := .type "dict", data := .dict #[] }) scope.names }
  rw [hce]
  generalize hH3 : upd H2 D (.lst []) = H3 at J3 J4 v0 F3
  generalize hs4 : ({ s3 with heap := pushCells (s3.heap.push { cls := .type "dict", data := .dict #[] }) scope.names } : Shared) = s4 at J4 ⊢
  obtain ⟨xe', hxe⟩ : ∃ xe', xe' = notedBy (model X.prog X.w) X.A ce (fun e s' => compEnds (model X.prog X.w) X.A X.xe use Qf (.ref D) ce (.error e) s') := ⟨_, rfl⟩
  have J5 : Inv (blkX X s3 H3 scope ce fp xe') [] (wipe σ (own.map (·.2))) H3 s4 := J4.toTry xe'
  have st4 : tn 0 s4.heap := T.keep _ _ _ st3 fun b _ o e => by rw [← hs4]; exact pushCells_keeps _ _ _ _ (Heap.get?_push_of_some _ e)
  have none3 : ∀ b ∈ fp, H3 b = none := fun b hb => (F3 b hb).1.1
  have out3 : ∀ b ∈ fp, (b ∈ X.ex ∨ X.s_0.heap.objs.size ≤ b) ∧ b ≠ X.env.locals ∧ (∀ x c, X.env.cells.lookup x = some c → c ≠ b) ∧ ∀ p ∈ X.pn ++ pins, p.1 ≠ b := fun b hb => let z := (F3 b hb).1; ⟨z.2.2.2.1, z.2.1, z.2.2.2.2.1, z.2.2.2.2.2⟩
  have lets : LetsOut (blkX X s3 H3 scope ce fp xe') E := fun τ ps Hc sc u s' Ic cx => by
    show xe' u s'
    rw [hxe]
    have z := blk_raise (E₁ := fun e s' => compEnds (model X.prog X.w) X.A X.xe use Qf (.ref D) ce (.error e) s') tk hs hf J3 cL cF out3 (fun c d H' q => hW c d σ H' q) Ic cx
    show wpAny _ _ (noteFrame u ce) _ _ s'
    exact wpAny_mono z (fun _ s'' y => by cases use <;> exact y) fun _ _ y => y
  obtain ⟨C, cl, rfl⟩ := gce
  have pg := hg s3 H3 C cl fp xe'
  have pt := ht s3 H3 C cl fp xe'
  have pe := he s3 H3 C cl fp xe' lets
  have stat : ∀ {τ : L2.St} {H' : Hp} {s' : Shared}, Inv (blkX X s3 H3 scope (compEnvC scope cl C X.env) fp xe') [] τ H' s' → (∀ b ∈ fp, H' b = none) → ∀ b ∈ fp, FpOk (blkX X s3 H3 scope (compEnvC scope cl C X.env) fp xe') [] H' b := fun {τ H' s'} Ix nx b hb =>
    ⟨nx b hb, (Ix.ok.exf b hb).1, Ix.ok.exfs b hb, .inl hb, fun x c e => (Ix.ok.exf b hb).2 x c e, fun p hp => absurd (show p ∈ ([] : List (Addr × Obj)) from hp) (by simp)⟩
  have loop : codeAny (model X.prog X.w) X.A (.compLoop (.ListComp elt [⟨tg, iter, ifs, 0⟩] scope pos) 0 (.ref it) (.ref D) (compEnvC scope cl C X.env)) (compEnds (model X.prog X.w) X.A X.xe use Qf (.ref D) (compEnvC scope cl C X.env)) s4 := by
    refine compLoop_any (fun n s' => ∃ i H', Inv (blkX X s3 H3 scope (compEnvC scope cl C X.env) fp xe') [] (wipe σ (own.map (·.2))) H' s' ∧ tn i s'.heap ∧ (∀ b ∈ fp, H' b = none) ∧ V2 i n H') ?_ m0 ⟨0, H3, J5, st4, none3, v0⟩
    rintro n s5 ⟨i, H5, I5, st5, n5, v5⟩
    rw [← hxe]
    rcases turn i n H5 v5 with ⟨stop, qq⟩ | ⟨go, Nx, hNx, step⟩
    · refine wpAny_mono (T.done (blkX X s3 H3 scope (compEnvC scope cl C X.env) fp xe') rfl rfl rfl hc i [] s5 _ H5 xe' I5 (stat I5 n5) st5 stop) (fun r s6 ⟨hr, I6⟩ => ?_) fun _ _ z => z
      subst hr
      have I7 : Inv X pins σ H5 s6 := J3.call' (ch := fp) I6.os I6.base I6.hok I6.bare out3
      obtain ⟨m, hn, _⟩ := I6.loc
      have nC : H5 (compEnvC scope cl C X.env).locals = none := I6.free
      exact fin D _ s6 m H5 I7 qq hn (J3.fpOk (Nat.le_of_eq cL.symm) nC)
    · refine wpAny_mono (T.item (blkX X s3 H3 scope (compEnvC scope cl C X.env) fp xe') rfl rfl rfl hc i [] s5 _ H5 xe' I5 (stat I5 n5) st5 go) (fun r s6 ⟨u, hr, h6⟩ => ?_) fun _ _ z => z
      subst hr
      refine wpAny_mono h6 (fun _ s7 ⟨x, H7, I7, r7, y7, st7, n7⟩ => ?_) fun _ _ z => z
      have P7 := I7.pinned (stat I7 n7) (T.obj _ _ st7)
      refine thn (pg.run _ s7 _ H7 x u _ P7 r7 (step x H7 y7)) fun _ s8 ⟨σ8, H8, I8, hw8, q8⟩ => ?_
      refine thn (pt.run _ s8 σ8 H8 _ I8 q8) fun b s9 ⟨H9, I9, q9⟩ => ?_
      have ends : ∀ {s' : Shared} {H' : Hp}, Inv (blkX X s3 H3 scope (compEnvC scope cl C X.env) fp xe') ([] ++ pinsAt fp s7.heap) σ8 H' s' → Nx H' → ∃ m, m < n ∧ ∃ i H', Inv (blkX X s3 H3 scope (compEnvC scope cl C X.env) fp xe') [] (wipe σ (own.map (·.2))) H' s' ∧ tn i s'.heap ∧ (∀ b ∈ fp, H' b = none) ∧ V2 i m H' := fun {s' H'} Ix nx => by
        obtain ⟨m', hm, w'⟩ := hNx H' nx
        have pin' : ∀ b ∈ fp, ∀ o, s7.heap.get? b = some o → s'.heap.get? b = some o ∧ H' b = none := fun b hb o e =>
          let z := Ix.pin (b, o) (List.mem_append_right _ (List.mem_append_right _ (mem_pinsAt hb e)))
          ⟨z.1, z.2.1⟩
        refine ⟨m', hm, i + 1, H', (Ix.unpinned (pins := [])).weak (by rw [← hw8, wipe_length]) (fun j v e => (wipe_some (by rw [hw8]; exact e)).1), T.keep _ _ _ st7 fun b hb o e => (pin' b hb o e).1, fun b hb => ?_, w'⟩
        obtain ⟨o, e, _⟩ := T.obj _ _ st7 b hb
        exact (pin' b hb o e).2
      cases b with
      | false => exact ends I9 q9
      | true =>
        refine thn (pe.run _ s9 σ8 H9 _ I9 q9) fun z s10 ⟨yv, H10, I10, r10, acc, hD10, hz10, nx⟩ => ?_
        exact app_ok (X := blkX X s3 H3 scope (compEnvC scope cl C X.env) fp xe') I10 hD10 hz10 r10 fun s11 I11 => ends I11 nx
  exact codeAny_compStart_list loop (T.self X.A 0 _ _ _ st4 loop)
/-- [elt for target in iter if ..], its element a call that may raise: the exception goes where the def's own goes -/
theorem pe_lcX {elt tg iter : Expr} {ifs : List Expr} {scope : Scope} {own : List (Str × Nat)} {pos : Pos} {wi : TI} {g : TG} {tt : TT} {te : TE} (tk : Takes X W) (hW : ∀ cls d τ H', E cls d H' → W cls d τ H') (hs : X.stack = X.env :: X.outer) (hf : X.env.frame = some X.env.locals)
    (hc : X.calm = true) (hN : X.N.Nodup) (hi : PI X tg iter wi) (ok : BlkOk X.N X.env.scope scope own)
    (hg : ∀ (s : Shared) (H : Hp) (C : Addr) (cl : List (Str × Addr)) (fp : List Addr) (xe : Value → Shared → Prop), PG (blkX X s H scope (compEnvC scope cl C X.env) fp xe) tg g)
    (ht : ∀ (s : Shared) (H : Hp) (C : Addr) (cl : List (Str × Addr)) (fp : List Addr) (xe : Value → Shared → Prop), PTs (blkX X s H scope (compEnvC scope cl C X.env) fp xe) ifs tt)
    (he : ∀ (s : Shared) (H : Hp) (C : Addr) (cl : List (Str × Addr)) (fp : List Addr) (xe : Value → Shared → Prop), LetsOut (blkX X s H scope (compEnvC scope cl C X.env) fp xe) E → PE (blkX X s H scope (compEnvC scope cl C X.env) fp xe) elt te)
    (hset : ∀ x, foldedSetIterable iter X.env x = pure x := by intro _; rfl) : PE X (.ListComp elt [⟨tg, iter, ifs, 0⟩] scope pos) (tLc wi g tt te (own.map (·.2))) := by
  refine ⟨fun pins s σ H Q I h => ?_⟩
  rw [eval_ListComp]
  refine lc_raise tk hW hs hf hc hN I hi ok hg ht he hset h fun D ce s' m H' I' q hn ⟨f0, f1, f2, f3, f4, f5⟩ => ⟨m, hn, fun h2 sb => ?_⟩
  exact ⟨.ref D, H', I'.turned (t' := s'.toks) (fun b o hb e => (sb.2 b hb).trans e) f0 f1 f3 f4 f5, rfl, q⟩
end
/-- a callee that may raise, and does not here -/
theorem passX {P : Program} {w : World} {X : Cx} : Passes (L2.CX P w) X (fun _ _ _ => False) := fun _ _ _ _ _ _ _ h => by
  obtain ⟨_, _, _, _, _, h⟩ := h
  exact h.2.2.2.2.2.2.2.elim
/-! isinstance in an except suite -/
theorem call_isiS {X : Cx} {a : Addr} {pn : List (Addr × Obj)} : CallR (X.suite a pn) (.builtin "isinstance") (rIsi X.K) := call_isi (X := X.suite a pn)
theorem call_isiTS {X : Cx} {a : Addr} {pn : List (Addr × Obj)} : CallR (X.suite a pn) (.builtin "isinstance") (rIsiT X.K) := call_isiT (X := X.suite a pn)
section
variable {X : Cx} {CX : CXT} {k : Nat} {ps : List Str} {sp : Sp} {dvs : List V} {E : L2.St → XK} {x : Str} {p pos : Pos} {e : Expr} {es : List Expr} {t : TA}
theorem pe_calSD (C : Cal X.prog X.w X.K X.mg X.base CX k x ps dvs sp) (hr : Room k X.A) (hx : ∀ σ, PassesAt CX X σ (E σ)) (ha : PA X (e :: es) t) (hg : Gl X x := by rfl) (hdb : (x == ("__debug__" : Str)) = false := by decide)
    (he : starEach (e :: es) X.env = (false, eval e X.env) :: starEach es X.env := by rfl) (hpl : (backTo pos (starEach es X.env)).any (·.1) = false := by rfl) :
    PE X (.Call (.Name x p) (e :: es) [] pos) (tCallSD sp dvs E t) := by
  obtain ⟨f, fd, ds, G, g, kp, b, v⟩ := C.ex
  exact pe_callSD G hr hg g kp b v hx ha hdb he hpl
end
end Q

set_option maxRecDepth 100000
set_option maxHeartbeats 4000000
/-! Data that stand apart from what is still changed. -/
namespace Q
open PySem PySem.Spec PyProof.Rows L2
/-- what stands elsewhere than at S -/
def hideS (S : List Addr) (H : Hp) : Hp := fun a => if a ∈ S then none else H a
theorem hideS_out {S : List Addr} {H : Hp} {a : Addr} (h : a ∉ S) : hideS S H a = H a := if_neg h
theorem hideS_some {S : List Addr} {H : Hp} {a : Addr} {o : HO} (h : hideS S H a = some o) : a ∉ S ∧ H a = some o := by
  unfold hideS at h
  split at h
  · cases h
  · rename_i c
    exact ⟨c, h⟩
theorem hideS_same (S : List Addr) (H : Hp) : Same (hideS S H) H := fun _ _ e => (hideS_some e).2
/-- what was there stays, but at S -/
def KbS (S : List Addr) (H H' : Hp) : Prop := ∀ a o, a ∉ S → H a = some o → H' a = some o
theorem KbS.refl (S : List Addr) (H : Hp) : KbS S H H := fun _ _ _ e => e
theorem KbS.trans {S : List Addr} {H H1 H2 : Hp} (h : KbS S H H1) (k : KbS S H1 H2) : KbS S H H2 := fun a o n e => k a o n (h a o n e)
theorem KbS.of_same {S : List Addr} {H H' : Hp} (h : Same H H') : KbS S H H' := fun a o _ e => h a o e
theorem KbS.sub {S S' : List Addr} {H H' : Hp} (h : KbS S H H') (k : ∀ a ∈ S, a ∈ S') : KbS S' H H' := fun a o n e => h a o (fun m => n (k a m)) e
theorem KbS.of_kb {b : Addr} {S : List Addr} {H H' : Hp} (h : Kb b H H') (m : b ∈ S) : KbS S H H' := fun a o n e => h a o (fun q => n (by rw [q]; exact m)) e
theorem KbS.kb {b : Addr} {H H' : Hp} (h : KbS [b] H H') : Kb b H H' := fun a o n e => h a o (fun m => n (List.mem_singleton.mp m)) e
theorem KbS.upd {S : List Addr} {H : Hp} {a : Addr} {o : HO} (h : a ∈ S) : KbS S H (L2.upd H a o) := fun x y n e => by
  rw [upd_ne (fun q => n (by rw [q]; exact h))]
  exact e
/-- a change of what was not there -/
theorem KbS.put {S : List Addr} {H H' : Hp} {a : Addr} {o : HO} (h : KbS S H H') (n : H a = none) : KbS S H (L2.upd H' a o) := fun x y m e => by
  rw [upd_ne (fun q => by rw [q, n] at e; cases e)]
  exact h x y m e
theorem hideS_kb {S T : List Addr} {H H' : Hp} (k : KbS T H H') (s : ∀ a ∈ T, a ∈ S) : Same (hideS S H) (hideS S H') := fun a o e => by
  obtain ⟨n, e⟩ := hideS_some e
  rw [hideS_out n]
  exact k a o (fun m => n (s a m)) e
theorem hideS_of {S : List Addr} {H H' : Hp} (k : Same H H') : Same (hideS S H) (hideS S H') := hideS_kb (T := []) (.of_same k) (by simp)
theorem hideS_sub {S S' : List Addr} {H : Hp} (k : ∀ a ∈ S, a ∈ S') : Same (hideS S' H) (hideS S H) := fun a o e => by
  obtain ⟨n, e⟩ := hideS_some e
  rw [hideS_out fun m => n (k a m)]
  exact e
/-- all of S is there -/
def Trk (H : Hp) (S : List Addr) : Prop := ∀ a ∈ S, ∃ o, H a = some o
theorem Trk.new {H : Hp} {S : List Addr} {p : Addr} (h : Trk H S) (n : H p = none) : p ∉ S := fun m => by
  obtain ⟨o, e⟩ := h p m
  rw [n] at e
  cases e
theorem Trk.same {H H' : Hp} {S : List Addr} (h : Trk H S) (s : Same H H') : Trk H' S := fun a m => by
  obtain ⟨o, e⟩ := h a m
  exact ⟨o, s _ _ e⟩
theorem Trk.kb {H H' : Hp} {S T : List Addr} (h : Trk H S) (k : KbS T H H') (t : Trk H' T) : Trk H' S := fun a m => by
  by_cases c : a ∈ T
  · exact t a c
  · obtain ⟨o, e⟩ := h a m
    exact ⟨o, k _ _ c e⟩
theorem Trk.cons {H : Hp} {S : List Addr} {a : Addr} {o : HO} (e : H a = some o) (h : Trk H S) : Trk H (a :: S) := fun x m => by
  rcases List.mem_cons.mp m with rfl | m
  · exact ⟨o, e⟩
  · exact h x m
theorem Trk.nil {H : Hp} : Trk H [] := fun _ m => by simp at m
theorem hideS_new {S : List Addr} {H : Hp} {p : Addr} {o : HO} (h : Trk H S) (n : H p = none) : hideS S (L2.upd H p o) p = some o := by
  rw [hideS_out (h.new n)]
  exact upd_same
theorem BagAt.trk {H : Hp} {b c : Addr} {n : Int} (B : BagAt H b c n) : Trk H [b] := .cons (B.there.1.choose_spec) .nil
end Q

set_option maxRecDepth 100000
set_option maxHeartbeats 4000000
/-! Words drawn letter by letter. -/
namespace Q
open PySem PySem.Spec PyProof.Rows L2 RZ RT
theorem joinL_one : ∀ cs : List Nat, TL.joinL [] (cs.map fun c => [c]) = cs
  | [] => rfl
  | [_] => rfl
  | a :: b :: r => by
    show [a] ++ ([] ++ TL.joinL [] ((b :: r).map fun c => [c])) = a :: b :: r
    rw [joinL_one (b :: r)]
    rfl
def sgn (c : Nat) : Str := ⟨#[c]⟩
theorem join_sgn (cs : List Nat) : Txt.join (Str.ofString "") (cs.map sgn) = SX.S cs := by
  have e := SX.join_S [] (cs.map fun c => [c])
  rw [joinL_one, List.map_map] at e
  exact e
theorem sum_ones (cs : List Nat) : ((cs.map sgn).map (·.length)).sum = cs.length := by
  induction cs with
  | nil => rfl
  | cons a r ih =>
    rw [List.map_cons, List.map_cons, List.sum_cons, ih]
    show 1 + r.length = r.length + 1
    omega
theorem name_S {cs : List Nat} (h : ∀ c ∈ cs, inLetters c = true) : nameV (.str (SX.S cs)) = (decide (1 ≤ cs.length) && decide (cs.length ≤ 12)) := by
  have e1 : (SX.S cs).length = cs.length := List.size_toArray ..
  have e2 : (SX.S cs).cps.toList.all inLetters = true := by
    rw [List.all_eq_true]
    exact fun c m => h c m
  show ((decide (1 ≤ (SX.S cs).length) && decide ((SX.S cs).length ≤ 12)) && (SX.S cs).cps.toList.all inLetters) = _
  rw [e1, e2, Bool.and_true]
theorem name_odd {a b : Str} {c : Nat} (h : inLetters c = false) : nameV (.str (a ++ sgn c ++ b)) = false := by
  have : (a ++ sgn c ++ b).cps.toList.all inLetters = false := by
    rw [List.all_eq_false]
    refine ⟨c, ?_, by rw [h]; exact Bool.false_ne_true⟩
    show c ∈ TL.tl (a ++ sgn c ++ b)
    rw [TL.tl_append, TL.tl_append]
    exact List.mem_append_left _ (List.mem_append_right _ (List.mem_singleton.mpr rfl))
  show (_ && _) = false
  rw [this, Bool.and_false]
theorem name_odd1 {a : Str} {c : Nat} (h : inLetters c = false) : nameV (.str (a ++ sgn c)) = false := by
  have : (a ++ sgn c).cps.toList.all inLetters = false := by
    rw [List.all_eq_false]
    refine ⟨c, ?_, by rw [h]; exact Bool.false_ne_true⟩
    show c ∈ TL.tl (a ++ sgn c)
    rw [TL.tl_append]
    exact List.mem_append_right _ (List.mem_singleton.mpr rfl)
  show (_ && _) = false
  rw [this, Bool.and_false]
/-- an item of the odd signs -/
theorem odd_sign {r : Int} (h0 : 0 ≤ r) (h7 : r < 7) : ∃ c : Nat, atI [V.str "A", V.str "1", V.str "_", V.str " ", V.str "-", V.str "\n", V.str "\t"] r = some (.str (sgn c)) ∧ inLetters c = false := by
  obtain ⟨m, rfl⟩ : ∃ m : Nat, r = (m : Int) := ⟨r.toNat, by omega⟩
  have hm : m < 7 := by omega
  match m, hm with
  | 0, _ => exact ⟨65, rfl, by decide +kernel⟩
  | 1, _ => exact ⟨49, rfl, by decide +kernel⟩
  | 2, _ => exact ⟨95, rfl, by decide +kernel⟩
  | 3, _ => exact ⟨32, rfl, by decide +kernel⟩
  | 4, _ => exact ⟨45, rfl, by decide +kernel⟩
  | 5, _ => exact ⟨10, rfl, by decide +kernel⟩
  | 6, _ => exact ⟨9, rfl, by decide +kernel⟩
theorem letter_at {r : Int} (h0 : 0 ≤ r) (h26 : r < 26) : ∃ c : Nat, atI lettersT.cps.toList r = some c ∧ inLetters c = true := by
  obtain ⟨m, rfl⟩ : ∃ m : Nat, r = (m : Int) := ⟨r.toNat, by omega⟩
  have hl : lettersT.cps.toList.length = 26 := by decide +kernel
  have hm : m < lettersT.cps.toList.length := by omega
  exact ⟨lettersT.cps.toList[m], atI_nat (List.getElem?_eq_getElem hm), decide_eq_true (List.getElem_mem hm)⟩
end Q

set_option maxRecDepth 100000
set_option maxHeartbeats 4000000
/-! Texts repeated, great powers. -/
namespace Q
open PySem PySem.Spec PyProof.Rows L2
def rMulS : R2 := fun x y H Q => ∃ a n, x = .str a ∧ y = .int n ∧ MulOk a n ∧ Q (.str (Txt.mul a n)) H
theorem op_mulS {X : Cx} : OpR X (binaryOp .Mult) rMulS := by
  intro pins s σ H x y v u Q I rx ry h
  obtain ⟨a, n, rfl, rfl, hm, q⟩ := h
  obtain ⟨t, rfl⟩ := rx
  obtain ⟨t2, rfl⟩ := ry
  exact SB.mul hm fun t' k => ⟨.str _, H, I.tok _, ⟨_, rfl⟩, q⟩
theorem mul_len (x : Str) {n : Int} (h : 1 ≤ n) : (Txt.mul x n).length ≤ x.length * n.toNat := by
  unfold Txt.mul
  rw [if_neg (by omega)]
  split
  · exact Nat.le_mul_of_pos_right _ (by omega)
  · have e : ∀ (k : Nat) (acc : Array Nat), ((List.replicate k x.cps).foldl (· ++ ·) acc).size = acc.size + x.cps.size * k := by
      intro k
      induction k with
      | zero => intro acc; rfl
      | succ k ih =>
        intro acc
        rw [List.replicate_succ, List.foldl_cons, ih, Array.size_append, Nat.mul_succ]
        omega
    show ((List.replicate n.toNat x.cps).foldl (· ++ ·) #[]).size ≤ _
    rw [e]
    show 0 + _ ≤ _
    rw [Nat.zero_add]
    exact Nat.le_refl _
theorem op_powW {X : Cx} : OpR X (binaryOp .Pow) (rI (fun i j => 0 ≤ j ∧ (Builtin.Int.intBits i : Int) * j ≤ 2 ^ 27) fun i j => .int (i ^ j.toNat)) := opI fun _ _ _ _ _ _ _ hc q => pow_int hc.1 hc.2 q
/-- a power whose value is told -/
theorem op_powR {X : Cx} : OpR X (binaryOp .Pow) (fun x y H Q => ∃ i j r, x = .int i ∧ y = .int j ∧ (0 ≤ j ∧ (Builtin.Int.intBits i : Int) * j ≤ 2 ^ 27) ∧ i ^ j.toNat = r ∧ Q (.int r) H) := by
  intro pins s σ H x y v u Q I rx ry h
  obtain ⟨i, j, r, rfl, rfl, hc, rfl, q⟩ := h
  exact op_powW pins s σ H _ _ v u Q I rx ry ⟨i, j, rfl, rfl, hc, q⟩
end Q

set_option maxRecDepth 100000
set_option maxHeartbeats 4000000
namespace K04
open PySem PySem.Spec PyProof.Rows L2 Q
def topS (i : Nat) : Stmt := PySem.Challenge.pw_fewfetches_k04_wrong_data_texts_at_their.main.body.getD i (.Pass ⟨0, 0, 0, 0⟩)
abbrev FnP (K : PySem.W.Frag) (x qual : Str) (st : Stmt) (dvs : List V) (f : Addr) (fd : FuncData) : Prop := FunD K x qual (defArgs st) (defBody st) (defScope st) dvs [] f fd
abbrev s_BadText___init__ : Stmt := inClass (topS 3) 0
theorem sc_BadText___init__ : FnScope ["self", "place"] ["self", "place"] (defScope s_BadText___init__) := ⟨rfl, rfl, rfl, by decide +kernel, rfl, by decide +kernel, by decide +kernel⟩
abbrev s_is_whole : Stmt := topS 7
theorem sc_is_whole : FnScope ["thing", "low", "high"] ["thing", "low", "high"] (defScope s_is_whole) := ⟨rfl, rfl, rfl, by decide +kernel, rfl, by decide +kernel, by decide +kernel⟩
abbrev s_is_name : Stmt := topS 8
theorem sc_is_name : FnScope ["thing", "sign"] ["thing"] (defScope s_is_name) := ⟨rfl, rfl, rfl, by decide +kernel, rfl, by decide +kernel, by decide +kernel⟩
abbrev s_data_text : Stmt := topS 16
theorem sc_data_text : FnScope ["data", "around", "item"] ["data", "around"] (defScope s_data_text) := ⟨rfl, rfl, rfl, by decide +kernel, rfl, by decide +kernel, by decide +kernel⟩
abbrev s_name_from : Stmt := topS 17
theorem sc_name_from : FnScope ["text", "at", "end"] ["text", "at"] (defScope s_name_from) := ⟨rfl, rfl, rfl, by decide +kernel, rfl, by decide +kernel, by decide +kernel⟩
abbrev s_number_from : Stmt := topS 18
theorem sc_number_from : FnScope ["text", "at", "start", "end"] ["text", "at"] (defScope s_number_from) := ⟨rfl, rfl, rfl, by decide +kernel, rfl, by decide +kernel, by decide +kernel⟩
abbrev s_item_from : Stmt := topS 19
theorem sc_item_from : FnScope ["text", "at", "around", "parts", "part"] ["text", "at", "around"] (defScope s_item_from) := ⟨rfl, rfl, rfl, by decide +kernel, rfl, by decide +kernel, by decide +kernel⟩
abbrev s_read_data : Stmt := topS 20
theorem sc_read_data : FnScope ["text", "data", "end"] ["text"] (defScope s_read_data) := ⟨rfl, rfl, rfl, by decide +kernel, rfl, by decide +kernel, by decide +kernel⟩
abbrev s__law_bag : Stmt := topS 22
theorem sc__law_bag : FnScope ["script", "cell"] ["script"] (defScope s__law_bag) := ⟨rfl, rfl, rfl, by decide +kernel, rfl, by decide +kernel, by decide +kernel⟩
abbrev s__law_draw : Stmt := topS 23
theorem sc__law_draw : FnScope ["bag", "limit", "digit", "cell", "mixed", "twice"] ["bag", "limit"] (defScope s__law_draw) := ⟨rfl, rfl, rfl, by decide +kernel, rfl, by decide +kernel, by decide +kernel⟩
abbrev s__law_step : Stmt := topS 24
theorem sc__law_step : FnScope ["now", "sign", "what", "many", "deep", "letter", "figure"] ["now", "sign"] (defScope s__law_step) := ⟨rfl, rfl, rfl, by decide +kernel, rfl, by decide +kernel, by decide +kernel⟩
abbrev s__law_place : Stmt := topS 25
theorem sc__law_place : FnScope ["text", "now", "at"] ["text"] (defScope s__law_place) := ⟨rfl, rfl, rfl, by decide +kernel, rfl, by decide +kernel, by decide +kernel⟩
abbrev s__law_right : Stmt := topS 26
theorem sc__law_right : FnScope ["text", "due", "data", "e"] ["text"] (defScope s__law_right) := ⟨rfl, rfl, rfl, by decide +kernel, rfl, by decide +kernel, by decide +kernel⟩
abbrev s__law_piece : Stmt := topS 27
theorem sc__law_piece : FnScope ["bag", "deep", "way", "k"] ["bag", "deep"] (defScope s__law_piece) := ⟨rfl, rfl, rfl, by decide +kernel, rfl, by decide +kernel, by decide +kernel⟩
abbrev s__law_spoil : Stmt := topS 28
theorem sc__law_spoil : FnScope ["bag", "text", "at", "sign", "way"] ["bag", "text"] (defScope s__law_spoil) := ⟨rfl, rfl, rfl, by decide +kernel, rfl, by decide +kernel, by decide +kernel⟩
abbrev s__law_ends_right : Stmt := topS 29
theorem sc__law_ends_right : FnScope ["bag", "k", "name", "number", "minus", "opened", "closed", "text", "odd", "place", "e"] ["bag"] (defScope s__law_ends_right) := ⟨rfl, rfl, rfl, by decide +kernel, rfl, by decide +kernel, by decide +kernel⟩
abbrev s_law : Stmt := topS 30
theorem sc_law : FnScope ["script", "bag", "k", "text", "step", "at", "turn", "small", "signs"] ["script"] (defScope s_law) := ⟨rfl, rfl, rfl, by decide +kernel, rfl, by decide +kernel, by decide +kernel⟩
/-! ### what the top has written -/
structure Tx (K : PySem.W.Frag) (mg : Str → Option Value) : Prop where
  n_ValueError : mg "ValueError" = none
  n_abs : mg "abs" = none
  n_all : mg "all" = none
  n_bool : mg "bool" = none
  n_int : mg "int" = none
  n_isinstance : mg "isinstance" = none
  n_len : mg "len" = none
  n_list : mg "list" = none
  n_range : mg "range" = none
  n_str : mg "str" = none
  n_tuple : mg "tuple" = none
  c_LETTERS : ∃ t, mg "LETTERS" = some (.str "abcdefghijklmnopqrstuvwxyz" t)
  c_LONGEST_NAME : ∃ t, mg "LONGEST_NAME" = some (.int (12) t)
  c_SMALL : ∃ t, mg "SMALL" = some (.str "abcdefghijklmnopqrstuvwxyz" t)
  c_FIGURES : ∃ t, mg "FIGURES" = some (.str "0123456789" t)
  c_MOST_LETTERS : ∃ t, mg "MOST_LETTERS" = some (.int (12) t)
  c_MOST_FIGURES : ∃ t, mg "MOST_FIGURES" = some (.int (400) t)
  c_DEEPEST : ∃ t, mg "DEEPEST" = some (.int (40) t)
  c_TOO_GREAT : ∃ t, mg "TOO_GREAT" = some (.int (10 ^ 400) t)
  g_FetchError : mg "FetchError" = some (.ref (He.ga K "FetchError"))
  x_FetchError : ExcC K (He.ga K "FetchError")
  e_FetchError : PySem.W.exmOne K (.ref (He.ga K "FetchError")) (.ref (He.ga K "FetchError")) = some true
  b_FetchError : PySem.W.excIn K (He.ga K "FetchError") He.veBase "ValueError.__new__" = true
  k_FetchError : PySem.W.keepIn K (.ref (He.ga K "FetchError")) = true
  ty_FetchError : PySem.W.typeIn K (.ref (He.ga K "FetchError")) = some (.type "type")
  g_BadData : mg "BadData" = some (.ref (He.ga K "BadData"))
  x_BadData : ExcC K (He.ga K "BadData")
  e_BadData : PySem.W.exmOne K (.ref (He.ga K "BadData")) (.ref (He.ga K "BadData")) = some true
  b_BadData : PySem.W.excIn K (He.ga K "BadData") He.veBase "ValueError.__new__" = true
  k_BadData : PySem.W.keepIn K (.ref (He.ga K "BadData")) = true
  ty_BadData : PySem.W.typeIn K (.ref (He.ga K "BadData")) = some (.type "type")
  g_BadText : mg "BadText" = some (.ref (He.ga K "BadText"))
  x_BadText : ExcC K (He.ga K "BadText")
  e_BadText : PySem.W.exmOne K (.ref (He.ga K "BadText")) (.ref (He.ga K "BadText")) = some true
  o_BadText : OexC K (He.ga K "BadText")
  i_BadText : PySem.W.findIn K (.ref (He.ga K "BadText")) "__init__" = some (some (.ref (He.ma K (He.ga K "BadText") "__init__")))
  t_BadText : PySem.W.typeIn K (.ref (He.ma K (He.ga K "BadText") "__init__")) = some (.type "function")
  noat_BadText_place : PySem.W.findIn K (.ref (He.ga K "BadText")) "place" = some none
  d_BadText___init__ : ∃ fd, FnP K "__init__" "BadText.__init__" s_BadText___init__ [] (He.ma K (He.ga K "BadText") "__init__") fd
  g_is_whole : mg "is_whole" = some (.ref (He.ga K "is_whole"))
  d_is_whole : ∃ fd, FnP K "is_whole" "is_whole" s_is_whole [.non, .non] (He.ga K "is_whole") fd
  g_is_name : mg "is_name" = some (.ref (He.ga K "is_name"))
  d_is_name : ∃ fd, FnP K "is_name" "is_name" s_is_name [] (He.ga K "is_name") fd
  g_data_text : mg "data_text" = some (.ref (He.ga K "data_text"))
  d_data_text : ∃ fd, FnP K "data_text" "data_text" s_data_text [.int (0)] (He.ga K "data_text") fd
  g_name_from : mg "name_from" = some (.ref (He.ga K "name_from"))
  d_name_from : ∃ fd, FnP K "name_from" "name_from" s_name_from [] (He.ga K "name_from") fd
  g_number_from : mg "number_from" = some (.ref (He.ga K "number_from"))
  d_number_from : ∃ fd, FnP K "number_from" "number_from" s_number_from [] (He.ga K "number_from") fd
  g_item_from : mg "item_from" = some (.ref (He.ga K "item_from"))
  d_item_from : ∃ fd, FnP K "item_from" "item_from" s_item_from [] (He.ga K "item_from") fd
  g_read_data : mg "read_data" = some (.ref (He.ga K "read_data"))
  d_read_data : ∃ fd, FnP K "read_data" "read_data" s_read_data [] (He.ga K "read_data") fd
  g__law_bag : mg "_law_bag" = some (.ref (He.ga K "_law_bag"))
  d__law_bag : ∃ fd, FnP K "_law_bag" "_law_bag" s__law_bag [] (He.ga K "_law_bag") fd
  g__law_draw : mg "_law_draw" = some (.ref (He.ga K "_law_draw"))
  d__law_draw : ∃ fd, FnP K "_law_draw" "_law_draw" s__law_draw [] (He.ga K "_law_draw") fd
  g__law_step : mg "_law_step" = some (.ref (He.ga K "_law_step"))
  d__law_step : ∃ fd, FnP K "_law_step" "_law_step" s__law_step [] (He.ga K "_law_step") fd
  g__law_place : mg "_law_place" = some (.ref (He.ga K "_law_place"))
  d__law_place : ∃ fd, FnP K "_law_place" "_law_place" s__law_place [] (He.ga K "_law_place") fd
  g__law_right : mg "_law_right" = some (.ref (He.ga K "_law_right"))
  d__law_right : ∃ fd, FnP K "_law_right" "_law_right" s__law_right [] (He.ga K "_law_right") fd
  g__law_piece : mg "_law_piece" = some (.ref (He.ga K "_law_piece"))
  d__law_piece : ∃ fd, FnP K "_law_piece" "_law_piece" s__law_piece [] (He.ga K "_law_piece") fd
  g__law_spoil : mg "_law_spoil" = some (.ref (He.ga K "_law_spoil"))
  d__law_spoil : ∃ fd, FnP K "_law_spoil" "_law_spoil" s__law_spoil [] (He.ga K "_law_spoil") fd
  g__law_ends_right : mg "_law_ends_right" = some (.ref (He.ga K "_law_ends_right"))
  d__law_ends_right : ∃ fd, FnP K "_law_ends_right" "_law_ends_right" s__law_ends_right [] (He.ga K "_law_ends_right") fd
  g_law : mg "law" = some (.ref (He.ga K "law"))
  d_law : ∃ fd, FnP K "law" "law" s_law [] (He.ga K "law") fd
def fb0 (K : PySem.W.Frag) : Bool := (He.Fa.free "ValueError").ok K && ((He.Fa.free "abs").ok K && ((He.Fa.free "all").ok K && ((He.Fa.free "bool").ok K && ((He.Fa.free "int").ok K && ((He.Fa.free "isinstance").ok K && ((He.Fa.free "len").ok K && ((He.Fa.free "list").ok K && ((He.Fa.free "range").ok K && ((He.Fa.free "str").ok K && ((He.Fa.free "tuple").ok K && ((He.Fa.str "LETTERS" "abcdefghijklmnopqrstuvwxyz").ok K)))))))))))
def fb1 (K : PySem.W.Frag) : Bool := (He.Fa.int "LONGEST_NAME" (12)).ok K && ((He.Fa.str "SMALL" "abcdefghijklmnopqrstuvwxyz").ok K && ((He.Fa.str "FIGURES" "0123456789").ok K && ((He.Fa.int "MOST_LETTERS" (12)).ok K && ((He.Fa.int "MOST_FIGURES" (400)).ok K && ((He.Fa.int "DEEPEST" (40)).ok K && ((He.Fa.int "TOO_GREAT" (10 ^ 400)).ok K && ((He.Fa.glo "FetchError").ok K && (excB K (He.ga K "FetchError") && (decide (PySem.W.exmOne K (.ref (He.ga K "FetchError")) (.ref (He.ga K "FetchError")) = some true) && (PySem.W.excIn K (He.ga K "FetchError") He.veBase "ValueError.__new__" && (PySem.W.keepIn K (.ref (He.ga K "FetchError")))))))))))))
def fb2 (K : PySem.W.Frag) : Bool := decide (PySem.W.typeIn K (.ref (He.ga K "FetchError")) = some (.type "type")) && ((He.Fa.glo "BadData").ok K && (excB K (He.ga K "BadData") && (decide (PySem.W.exmOne K (.ref (He.ga K "BadData")) (.ref (He.ga K "BadData")) = some true) && (PySem.W.excIn K (He.ga K "BadData") He.veBase "ValueError.__new__" && (PySem.W.keepIn K (.ref (He.ga K "BadData")) && (decide (PySem.W.typeIn K (.ref (He.ga K "BadData")) = some (.type "type")) && ((He.Fa.glo "BadText").ok K && (excB K (He.ga K "BadText") && (decide (PySem.W.exmOne K (.ref (He.ga K "BadText")) (.ref (He.ga K "BadText")) = some true) && (oexB K (He.ga K "BadText") && (decide (PySem.W.findIn K (.ref (He.ga K "BadText")) "__init__" = some (some (.ref (He.ma K (He.ga K "BadText") "__init__")))))))))))))))
def fb3 (K : PySem.W.Frag) : Bool := decide (PySem.W.typeIn K (.ref (He.ma K (He.ga K "BadText") "__init__")) = some (.type "function")) && (decide (PySem.W.findIn K (.ref (He.ga K "BadText")) "place" = some none) && ((He.Fa.glo "is_whole").ok K && ((He.Fa.glo "is_name").ok K && ((He.Fa.glo "data_text").ok K && ((He.Fa.glo "name_from").ok K && ((He.Fa.glo "number_from").ok K && ((He.Fa.glo "item_from").ok K && ((He.Fa.glo "read_data").ok K && ((He.Fa.glo "_law_bag").ok K && ((He.Fa.glo "_law_draw").ok K && ((He.Fa.glo "_law_step").ok K)))))))))))
def fb4 (K : PySem.W.Frag) : Bool := (He.Fa.glo "_law_place").ok K && ((He.Fa.glo "_law_right").ok K && ((He.Fa.glo "_law_piece").ok K && ((He.Fa.glo "_law_spoil").ok K && ((He.Fa.glo "_law_ends_right").ok K && ((He.Fa.glo "law").ok K)))))
def fb (K : PySem.W.Frag) : Bool := fb0 K && (fb1 K && (fb2 K && (fb3 K && (fb4 K))))
def dd_BadText___init__ : He.DefD := ⟨("BadText", some "__init__"), "__init__", "BadText.__init__", defArgs s_BadText___init__, defBody s_BadText___init__, defScope s_BadText___init__, [], []⟩
def dd_is_whole : He.DefD := ⟨("is_whole", none), "is_whole", "is_whole", defArgs s_is_whole, defBody s_is_whole, defScope s_is_whole, [.non, .non], []⟩
def dd_is_name : He.DefD := ⟨("is_name", none), "is_name", "is_name", defArgs s_is_name, defBody s_is_name, defScope s_is_name, [], []⟩
def dd_data_text : He.DefD := ⟨("data_text", none), "data_text", "data_text", defArgs s_data_text, defBody s_data_text, defScope s_data_text, [.int (0)], []⟩
def dd_name_from : He.DefD := ⟨("name_from", none), "name_from", "name_from", defArgs s_name_from, defBody s_name_from, defScope s_name_from, [], []⟩
def dd_number_from : He.DefD := ⟨("number_from", none), "number_from", "number_from", defArgs s_number_from, defBody s_number_from, defScope s_number_from, [], []⟩
def dd_item_from : He.DefD := ⟨("item_from", none), "item_from", "item_from", defArgs s_item_from, defBody s_item_from, defScope s_item_from, [], []⟩
def dd_read_data : He.DefD := ⟨("read_data", none), "read_data", "read_data", defArgs s_read_data, defBody s_read_data, defScope s_read_data, [], []⟩
def dd__law_bag : He.DefD := ⟨("_law_bag", none), "_law_bag", "_law_bag", defArgs s__law_bag, defBody s__law_bag, defScope s__law_bag, [], []⟩
def dd__law_draw : He.DefD := ⟨("_law_draw", none), "_law_draw", "_law_draw", defArgs s__law_draw, defBody s__law_draw, defScope s__law_draw, [], []⟩
def dd__law_step : He.DefD := ⟨("_law_step", none), "_law_step", "_law_step", defArgs s__law_step, defBody s__law_step, defScope s__law_step, [], []⟩
def dd__law_place : He.DefD := ⟨("_law_place", none), "_law_place", "_law_place", defArgs s__law_place, defBody s__law_place, defScope s__law_place, [], []⟩
def dd__law_right : He.DefD := ⟨("_law_right", none), "_law_right", "_law_right", defArgs s__law_right, defBody s__law_right, defScope s__law_right, [], []⟩
def dd__law_piece : He.DefD := ⟨("_law_piece", none), "_law_piece", "_law_piece", defArgs s__law_piece, defBody s__law_piece, defScope s__law_piece, [], []⟩
def dd__law_spoil : He.DefD := ⟨("_law_spoil", none), "_law_spoil", "_law_spoil", defArgs s__law_spoil, defBody s__law_spoil, defScope s__law_spoil, [], []⟩
def dd__law_ends_right : He.DefD := ⟨("_law_ends_right", none), "_law_ends_right", "_law_ends_right", defArgs s__law_ends_right, defBody s__law_ends_right, defScope s__law_ends_right, [], []⟩
def dd_law : He.DefD := ⟨("law", none), "law", "law", defArgs s_law, defBody s_law, defScope s_law, [], []⟩
def fn : List He.DefD := [dd_BadText___init__, dd_is_whole, dd_is_name, dd_data_text, dd_name_from, dd_number_from, dd_item_from, dd_read_data, dd__law_bag, dd__law_draw, dd__law_step, dd__law_place, dd__law_right, dd__law_piece, dd__law_spoil, dd__law_ends_right, dd_law]
theorem tx_of {K : PySem.W.Frag} {h : Heap} {mg : Str → Option Value} (X : K.In h) (G : h.Ns mainGlobals mg) (c : SaysF fb fn K) : Tx K mg := by
  have top := c.all.1
  obtain ⟨z0, top⟩ := He.ba top
  obtain ⟨z1, top⟩ := He.ba top
  obtain ⟨z2, top⟩ := He.ba top
  obtain ⟨z3, top⟩ := He.ba top
  have z4 := top
  obtain ⟨q0_0, z0⟩ := He.ba z0
  obtain ⟨q0_1, z0⟩ := He.ba z0
  obtain ⟨q0_2, z0⟩ := He.ba z0
  obtain ⟨q0_3, z0⟩ := He.ba z0
  obtain ⟨q0_4, z0⟩ := He.ba z0
  obtain ⟨q0_5, z0⟩ := He.ba z0
  obtain ⟨q0_6, z0⟩ := He.ba z0
  obtain ⟨q0_7, z0⟩ := He.ba z0
  obtain ⟨q0_8, z0⟩ := He.ba z0
  obtain ⟨q0_9, z0⟩ := He.ba z0
  obtain ⟨q0_10, z0⟩ := He.ba z0
  have q0_11 := z0
  obtain ⟨q1_0, z1⟩ := He.ba z1
  obtain ⟨q1_1, z1⟩ := He.ba z1
  obtain ⟨q1_2, z1⟩ := He.ba z1
  obtain ⟨q1_3, z1⟩ := He.ba z1
  obtain ⟨q1_4, z1⟩ := He.ba z1
  obtain ⟨q1_5, z1⟩ := He.ba z1
  obtain ⟨q1_6, z1⟩ := He.ba z1
  obtain ⟨q1_7, z1⟩ := He.ba z1
  obtain ⟨q1_8, z1⟩ := He.ba z1
  obtain ⟨q1_9, z1⟩ := He.ba z1
  obtain ⟨q1_10, z1⟩ := He.ba z1
  have q1_11 := z1
  obtain ⟨q2_0, z2⟩ := He.ba z2
  obtain ⟨q2_1, z2⟩ := He.ba z2
  obtain ⟨q2_2, z2⟩ := He.ba z2
  obtain ⟨q2_3, z2⟩ := He.ba z2
  obtain ⟨q2_4, z2⟩ := He.ba z2
  obtain ⟨q2_5, z2⟩ := He.ba z2
  obtain ⟨q2_6, z2⟩ := He.ba z2
  obtain ⟨q2_7, z2⟩ := He.ba z2
  obtain ⟨q2_8, z2⟩ := He.ba z2
  obtain ⟨q2_9, z2⟩ := He.ba z2
  obtain ⟨q2_10, z2⟩ := He.ba z2
  have q2_11 := z2
  obtain ⟨q3_0, z3⟩ := He.ba z3
  obtain ⟨q3_1, z3⟩ := He.ba z3
  obtain ⟨q3_2, z3⟩ := He.ba z3
  obtain ⟨q3_3, z3⟩ := He.ba z3
  obtain ⟨q3_4, z3⟩ := He.ba z3
  obtain ⟨q3_5, z3⟩ := He.ba z3
  obtain ⟨q3_6, z3⟩ := He.ba z3
  obtain ⟨q3_7, z3⟩ := He.ba z3
  obtain ⟨q3_8, z3⟩ := He.ba z3
  obtain ⟨q3_9, z3⟩ := He.ba z3
  obtain ⟨q3_10, z3⟩ := He.ba z3
  have q3_11 := z3
  obtain ⟨q4_0, z4⟩ := He.ba z4
  obtain ⟨q4_1, z4⟩ := He.ba z4
  obtain ⟨q4_2, z4⟩ := He.ba z4
  obtain ⟨q4_3, z4⟩ := He.ba z4
  obtain ⟨q4_4, z4⟩ := He.ba z4
  have q4_5 := z4
  exact ⟨He.free_ok X G q0_0,
    He.free_ok X G q0_1,
    He.free_ok X G q0_2,
    He.free_ok X G q0_3,
    He.free_ok X G q0_4,
    He.free_ok X G q0_5,
    He.free_ok X G q0_6,
    He.free_ok X G q0_7,
    He.free_ok X G q0_8,
    He.free_ok X G q0_9,
    He.free_ok X G q0_10,
    He.str_ok X G q0_11,
    He.int_ok X G q1_0,
    He.str_ok X G q1_1,
    He.str_ok X G q1_2,
    He.int_ok X G q1_3,
    He.int_ok X G q1_4,
    He.int_ok X G q1_5,
    He.int_ok X G q1_6,
    He.glo_ok X G q1_7,
    excB_ok q1_8,
    of_decide_eq_true q1_9,
    q1_10,
    q1_11,
    of_decide_eq_true q2_0,
    He.glo_ok X G q2_1,
    excB_ok q2_2,
    of_decide_eq_true q2_3,
    q2_4,
    q2_5,
    of_decide_eq_true q2_6,
    He.glo_ok X G q2_7,
    excB_ok q2_8,
    of_decide_eq_true q2_9,
    oexB_ok q2_10,
    of_decide_eq_true q2_11,
    of_decide_eq_true q3_0,
    of_decide_eq_true q3_1,
    c.def_ (d := dd_BadText___init__) (by simp only [fn, List.mem_cons, true_or, or_true]),
    He.glo_ok X G q3_2,
    c.def_ (d := dd_is_whole) (by simp only [fn, List.mem_cons, true_or, or_true]),
    He.glo_ok X G q3_3,
    c.def_ (d := dd_is_name) (by simp only [fn, List.mem_cons, true_or, or_true]),
    He.glo_ok X G q3_4,
    c.def_ (d := dd_data_text) (by simp only [fn, List.mem_cons, true_or, or_true]),
    He.glo_ok X G q3_5,
    c.def_ (d := dd_name_from) (by simp only [fn, List.mem_cons, true_or, or_true]),
    He.glo_ok X G q3_6,
    c.def_ (d := dd_number_from) (by simp only [fn, List.mem_cons, true_or, or_true]),
    He.glo_ok X G q3_7,
    c.def_ (d := dd_item_from) (by simp only [fn, List.mem_cons, true_or, or_true]),
    He.glo_ok X G q3_8,
    c.def_ (d := dd_read_data) (by simp only [fn, List.mem_cons, true_or, or_true]),
    He.glo_ok X G q3_9,
    c.def_ (d := dd__law_bag) (by simp only [fn, List.mem_cons, true_or, or_true]),
    He.glo_ok X G q3_10,
    c.def_ (d := dd__law_draw) (by simp only [fn, List.mem_cons, true_or, or_true]),
    He.glo_ok X G q3_11,
    c.def_ (d := dd__law_step) (by simp only [fn, List.mem_cons, true_or, or_true]),
    He.glo_ok X G q4_0,
    c.def_ (d := dd__law_place) (by simp only [fn, List.mem_cons, true_or, or_true]),
    He.glo_ok X G q4_1,
    c.def_ (d := dd__law_right) (by simp only [fn, List.mem_cons, true_or, or_true]),
    He.glo_ok X G q4_2,
    c.def_ (d := dd__law_piece) (by simp only [fn, List.mem_cons, true_or, or_true]),
    He.glo_ok X G q4_3,
    c.def_ (d := dd__law_spoil) (by simp only [fn, List.mem_cons, true_or, or_true]),
    He.glo_ok X G q4_4,
    c.def_ (d := dd__law_ends_right) (by simp only [fn, List.mem_cons, true_or, or_true]),
    He.glo_ok X G q4_5,
    c.def_ (d := dd_law) (by simp only [fn, List.mem_cons, true_or, or_true])⟩
section
variable {P : Program} {w : World} {K : PySem.W.Frag} {mg : Str → Option Value} {base : Heap} {f : Addr} {fd : FuncData}
/-! ### the law's bag of draws -/
theorem ok_bag (T : Tx K mg) : ∃ fd, FnOk P w K mg base CX0 1 (He.ga K "_law_bag") fd ["script"] (spBag K) ∧ FnP K "_law_bag" "_law_bag" s__law_bag [] (He.ga K "_law_bag") fd := by
  obtain ⟨fd, F⟩ := T.d__law_bag
  refine ⟨fd, F.ok sc__law_bag (fun vs H Q E h => ?_) (fun cdv A outer s H vs Q E hr h => ?_), F⟩
  · obtain ⟨a, ns, rfl, _⟩ := h
    rfl
  · obtain ⟨a, ns, rfl, hS, k⟩ := h
    refine ⟨_, PSs.nox (pss_one (ps_ret (pe_lst (pa_cons (pe_lc (own := [("cell", 1)]) (g := gName 1) (tt := tYes) (by rfl) sc__law_bag.nd (pi_list (pe_slice sl_list (pv 0) po_none (po_some pe_int))) (blkOk_by (N := ["script", "cell"]) (sc := defScope s__law_bag) (by decide +kernel)) (fun _ _ _ _ _ => (pg_name (i := 1) sc__law_bag.nd rfl (Or.inl rfl))) (fun _ _ _ _ _ => pts_nil) (fun _ _ _ _ _ => (pe_callTy call_int1 (by rfl) T.n_int (by decide +kernel) (pa_cons (pv 1) pa_nil)))) (pa_cons pe_int (pa_cons pe_int (pa_cons pe_int (pa_cons pe_int pa_nil)))))))), ?_⟩
    refine ⟨_, rfl, 63, rfl, a, _, rfl, hS, fun q nq => ?_⟩
    rw [cut63]
    obtain ⟨l, hl, hl63⟩ : ∃ l, l = ns.take 63 ∧ l.length ≤ 63 := ⟨_, rfl, by rw [List.length_take]; omega⟩
    rw [← hl]
    have s1 : Same H (upd H q (.lst (l.map V.int))) := same_new nq
    refine ⟨q, rfl, ⟨_, .inl (.inl upd_same)⟩, fun D nD => ?_⟩
    have nDq : D ≠ q := fun z => by
      rw [z, upd_same] at nD
      cases nD
    have nDH : H D = none := by
      rw [upd_ne nDq] at nD
      exact nD
    refine lc_list (K := K) (a := q) (xs := l.map V.int) (fun i H' => Same H H' ∧ H' q = some (.lst (l.map V.int)) ∧ H' D = some (.lst ((l.take i).map V.int))) ⟨?_, ?_, ?_⟩ (fun i H' _ h => .inl (.inl h.2.1)) ?_ ?_
    · exact s1.trans (same_new nD)
    · rw [upd_ne nDq.symm, upd_same]
    · rw [upd_same]
      rfl
    · rintro i x H' hx ⟨e1, e2, e3⟩
      obtain ⟨z, hz, rfl⟩ : ∃ z, l[i]? = some z ∧ x = V.int z := by
        rw [List.getElem?_map] at hx
        cases e : l[i]? with
        | none =>
          rw [e] at hx
          cases hx
        | some z =>
          rw [e] at hx
          exact ⟨z, rfl, (Option.some.inj hx).symm⟩
      have hi : i < 63 := by
        have h1 := (List.getElem?_eq_some_iff.mp hz).1
        omega
      refine ⟨rfl, ⟨_, rfl, .inl ⟨z, rfl, _, e3, ?_, ?_, ?_, ?_⟩⟩⟩
      · rw [List.length_map, List.length_take]
        exact small1000 (by omega)
      · exact fun b o h => by
          rw [upd_ne (ne_of_none h nDH)]
          exact e1 b o h
      · rw [upd_ne nDq.symm]
        exact e2
      · rw [upd_same, List.take_add_one, hz, List.map_append]
        rfl
    · rintro H' ⟨e1, e2, e3⟩
      rw [List.length_map, List.take_length] at e3
      refine ⟨by show 5 ≤ sizeLine; decide, fun b nb => ?_⟩
      have nbD : b ≠ D := (ne_of_none e3 nb).symm
      refine k b D _ (e1.free nb) nDH (e1.trans (same_new nb)) ⟨l, 0, 0, 0, 20021, upd_same, by rw [upd_ne nbD.symm]; exact e3, by decide, by decide, by decide, by decide⟩
theorem C_bag (T : Tx K mg) : Cal P w K mg base CX0 1 "_law_bag" ["script"] [] (spBag K) := by
  obtain ⟨fd, G, F⟩ := ok_bag (P := P) (w := w) (base := base) T
  exact ⟨_, fd, [], G, T.g__law_bag, F.kp, F.bindsN fun _ _ _ _ _ _ us hl => match us, hl with | [_], _ => rfl, .nil⟩
theorem ok_draw (T : Tx K mg) : ∃ fd, FnOk P w K mg base CX0 1 (He.ga K "_law_draw") fd ["bag", "limit"] spDraw ∧ FnP K "_law_draw" "_law_draw" s__law_draw [] (He.ga K "_law_draw") fd := by
  obtain ⟨fd, F⟩ := T.d__law_draw
  refine ⟨fd, F.ok sc__law_draw (fun vs H Q E h => ?_) (fun cdv A outer s H vs Q E hr h => ?_), F⟩
  · obtain ⟨b, c, lim, n, rfl, _⟩ := h
    rfl
  · obtain ⟨b, c, lim, n, rfl, B, h0, h200, hn, k⟩ := h
    have wd : ∀ i : Int, CDivW i lim := fun i => wide_div h0 (b := 200) (by have := h200; omega) (by decide) (by decide)
    have hcb := B.two
    obtain ⟨ns, p, r, kk, m, hb, hc, k0, kn, m0, m1⟩ := B
    have md : ∀ i : Int, 0 ≤ i % lim ∧ i % lim < lim := fun i => ⟨Int.emod_nonneg i (by omega), Int.emod_lt_of_pos i h0⟩
    refine ⟨_, PSs.nox (pss_cons (ps_asg (pe_op op_add (pe_ix ix_list (pv 0) pe_int (fun _ _ => rfl)) pe_int) (pg_sub (pv 0) pe_int set_list))
      (pss_cons (ps_if (pt_cmpR op_gt (pe_ix ix_list (pv 0) pe_int (fun _ _ => rfl)) pe_int (nomark _))
        (pss_cons (ps_set (i := 2) sc__law_draw.nd rfl (Or.inl rfl) (pe_op op_mod (pe_callTy call_int1 (by rfl) T.n_int (by decide +kernel) (pa_cons (pe_ix ix_list (pv 0) pe_int (fun _ _ => rfl)) pa_nil)) (pv 1)))
        (pss_cons (ps_asg (pe_op op_fdivW (pe_ix ix_list (pv 0) pe_int (fun _ _ => rfl)) (pv 1)) (pg_sub (pv 0) pe_int set_list))
        (pss_one (ps_ret (pv 2)))))
        pss_nil)
      (pss_cons (ps_set (i := 3) sc__law_draw.nd rfl (Or.inl rfl) (pe_ix ix_list (pv 0) pe_int (fun _ _ => rfl)))
      (pss_cons (ps_if (pt_cmpR op_lt (pe_ix ix_list (pv 0) pe_int (fun _ _ => rfl)) (pe_callB call_len_seq (by rfl) T.n_len (by decide +kernel) (pa_cons (pe_ix ix_list (pv 0) pe_int (fun _ _ => rfl)) pa_nil)) (nomark _))
        (pss_cons (ps_set (i := 3) sc__law_draw.nd rfl (Or.inl rfl) (pe_ix ix_list (pe_ix ix_list (pv 0) pe_int (fun _ _ => rfl)) (pe_ix ix_list (pv 0) pe_int (fun _ _ => rfl)) (fun _ _ => rfl)))
        (pss_cons (ps_asg (pe_op op_add (pe_ix ix_list (pv 0) pe_int (fun _ _ => rfl)) pe_int) (pg_sub (pv 0) pe_int set_list))
        (pss_one (ps_if (pt_cmpR op_ge (pe_callB call_abs (by rfl) T.n_abs (by decide +kernel) (pa_cons (pv 3) pa_nil)) (pe_op op_pow pe_int pe_int) (nomark _))
          (pss_cons (ps_asg (pe_op op_fdivW (pe_callB call_abs (by rfl) T.n_abs (by decide +kernel) (pa_cons (pv 3) pa_nil)) (pv 1)) (pg_sub (pv 0) pe_int set_list))
          (pss_one (ps_ret (pe_op op_mod (pe_callTy call_int1 (by rfl) T.n_int (by decide +kernel) (pa_cons (pe_callB call_abs (by rfl) T.n_abs (by decide +kernel) (pa_cons (pv 3) pa_nil)) pa_nil)) (pv 1)))))
          pss_nil))))
        pss_nil)
      (pss_cons (ps_set (i := 4) sc__law_draw.nd rfl (Or.inl rfl) (pe_op op_mod (pe_callTy call_int1 (by rfl) T.n_int (by decide +kernel) (pa_cons (pe_op op_add (pe_op op_add (pe_op op_add (pe_op op_mul (pe_ix ix_list (pv 0) pe_int (fun _ _ => rfl)) pe_int) (pe_op op_mul (pe_op op_mod (pe_callTy call_int1 (by rfl) T.n_int (by decide +kernel) (pa_cons (pv 3) pa_nil)) pe_int) pe_int)) (pe_op op_mul (pe_ix ix_list (pv 0) pe_int (fun _ _ => rfl)) pe_int)) pe_int) pa_nil)) pe_int))
      (pss_cons (ps_asg (pv 4) (pg_sub (pv 0) pe_int set_list))
      (pss_cons (ps_set (i := 5) sc__law_draw.nd rfl (Or.inl rfl) (pe_op op_mod (pe_callTy call_int1 (by rfl) T.n_int (by decide +kernel) (pa_cons (pe_op op_add (pe_op op_add (pe_op op_mul (pv 4) pe_int) (pe_op op_mul (pe_op op_mul (pe_ix ix_list (pv 0) pe_int (fun _ _ => rfl)) (pe_ix ix_list (pv 0) pe_int (fun _ _ => rfl))) pe_int)) (pe_op op_fdiv (pv 4) pe_int)) pa_nil)) pe_int))
      (pss_one (ps_ret (pe_op op_mod (pe_callTy call_int1 (by rfl) T.n_int (by decide +kernel) (pa_cons (pe_op op_fdiv (pv 5) pe_int) pa_nil)) (pv 1))))))))))), ?_⟩
    -- bag[3] = bag[3] + 1
    refine ⟨_, rfl, b, _, 3, _, rfl, rfl, SqL.of hb, rfl, _, _, rfl, rfl, _, rfl, b, _, 3, 3, rfl, rfl, hb, rfl, ?_⟩
    -- the end, from any cell and any state that the branch between has left
    have fin : ∀ (σ2 σ3 σ5 : Option V) (cell : Int) (p' : Nat) (H1 : Hp), Off b H H1 → H1 b = some (bagO c p' r (kk + 1) m) →
        tSeq (tAsg (tOp (rI (fun _ j => 0 < j) fun i j => .int (i % j)) (tCB (fun xs H Q => (∃ i, xs = [.int i] ∧ Q (.int i) H) ∨ ∃ k, xs = [.bl k] ∧ Q (.int (if k then 1 else 0)) H) (tCons (tOp (rI0 fun i j => .int (i + j)) (tOp (rI0 fun i j => .int (i + j)) (tOp (rI0 fun i j => .int (i + j))
          (tOp (rI CMul fun i j => .int (i * j)) (tOp (rIxL K) (tVar 0) (tC (.int 4))) (tC (.int 48271)))
          (tOp (rI CMul fun i j => .int (i * j)) (tOp (rI (fun _ j => 0 < j) fun i j => .int (i % j)) (tCB (fun xs H Q => (∃ i, xs = [.int i] ∧ Q (.int i) H) ∨ ∃ k, xs = [.bl k] ∧ Q (.int (if k then 1 else 0)) H) (tCons (tVar 3) tNil)) (tC (.int 2147483629))) (tC (.int 69621))))
          (tOp (rI CMul fun i j => .int (i * j)) (tOp (rIxL K) (tVar 0) (tC (.int 3))) (tC (.int 7919)))) (tC (.int 11))) tNil)) (tC (.int 2147483647))) (gName 4))
        (tSeq (tAsg (tVar 4) (gSub (tVar 0) (tC (.int 4)) rSetL))
        (tSeq (tAsg (tOp (rI (fun _ j => 0 < j) fun i j => .int (i % j)) (tCB (fun xs H Q => (∃ i, xs = [.int i] ∧ Q (.int i) H) ∨ ∃ k, xs = [.bl k] ∧ Q (.int (if k then 1 else 0)) H) (tCons (tOp (rI0 fun i j => .int (i + j)) (tOp (rI0 fun i j => .int (i + j))
          (tOp (rI CMul fun i j => .int (i * j)) (tVar 4) (tC (.int 16807)))
          (tOp (rI CMul fun i j => .int (i * j)) (tOp (rI CMul fun i j => .int (i * j)) (tOp (rIxL K) (tVar 0) (tC (.int 3))) (tOp (rIxL K) (tVar 0) (tC (.int 3)))) (tC (.int 104729))))
          (tOp (rI CDiv fun i j => .int (i / j)) (tVar 4) (tC (.int 65536)))) tNil)) (tC (.int 998244353))) (gName 5))
        (tRet (tOp (rI (fun _ j => 0 < j) fun i j => .int (i % j)) (tCB (fun xs H Q => (∃ i, xs = [.int i] ∧ Q (.int i) H) ∨ ∃ k, xs = [.bl k] ∧ Q (.int (if k then 1 else 0)) H) (tCons (tOp (rI CDiv fun i j => .int (i / j)) (tVar 5) (tC (.int 7))) tNil)) (tVar 1))))) { nx := fun _ H' => Q .non H', rt := Q }
          [some (.ref b), some (.int lim), σ2, some (.int cell), σ3, σ5] H1 := fun σ2 σ3 σ5 cell p' H1 off e1 => by
      refine ⟨_, rfl, b, _, 4, _, rfl, rfl, SqL.of e1, rfl, _, _, rfl, rfl, .inr ⟨by decide, by decide⟩, ?_⟩
      refine ⟨_, rfl, .inl ⟨_, rfl, _, _, rfl, rfl, (by show (0 : Int) < 2147483629; decide), _, _, rfl, rfl, .inr ⟨by decide, by decide⟩, _, _, rfl, rfl, ?_⟩⟩
      refine ⟨_, rfl, b, _, 3, _, rfl, rfl, SqL.of e1, rfl, _, _, rfl, rfl, .inr ⟨by decide, by decide⟩, _, _, rfl, rfl, _, _, rfl, rfl, .inl ⟨_, rfl, _, _, rfl, rfl, (by show (0 : Int) < 2147483647; decide), ?_⟩⟩
      generalize hm : (m * 48271 + cell % 2147483629 * 69621 + (kk + 1) * 7919 + 11) % 2147483647 = mm
      have mm0 : 0 ≤ mm := by rw [← hm]; exact Int.emod_nonneg _ (by decide)
      have mm1 : mm < 2147483647 := by rw [← hm]; exact Int.emod_lt_of_pos _ (by decide)
      refine ⟨_, rfl, _, rfl, b, _, 4, 4, rfl, rfl, e1, rfl, ?_⟩
      have c1 : CMul (kk + 1) (kk + 1) := .inl ⟨by omega, by omega⟩
      refine ⟨_, rfl, _, _, rfl, rfl, .inr ⟨by decide, by decide⟩, _, rfl, b, _, 3, _, rfl, rfl, SqL.of upd_same, rfl, _, rfl, b, _, 3, _, rfl, rfl, SqL.of upd_same, rfl, _, _, rfl, rfl, c1, _, _, rfl, rfl, .inr ⟨by decide, by decide⟩, _, _, rfl, rfl,
        _, rfl, _, _, rfl, rfl, ⟨by decide, by decide⟩, _, _, rfl, rfl, .inl ⟨_, rfl, _, _, rfl, rfl, (by show (0 : Int) < 998244353; decide), ?_⟩⟩
      refine ⟨_, rfl, _, _, rfl, rfl, ⟨by decide, by decide⟩, .inl ⟨_, rfl, _, rfl, _, _, rfl, rfl, h0, ?_⟩⟩
      exact k _ _ (md _).1 (md _).2 (off.trans Off.upd) ⟨ns, p', r, kk + 1, mm, by rw [← hm]; exact upd_same, by rw [upd_ne hcb]; exact off.at hcb hc, by omega, by omega, mm0, mm1⟩
    -- if bag[2] > 0
    refine ⟨_, rfl, b, _, 2, _, rfl, rfl, SqL.of upd_same, rfl, _, _, rfl, rfl, _, rfl, ite2 (fun c2 => ?_) (fun c2 => ?_)⟩
    · refine ⟨_, rfl, b, _, 2, _, rfl, rfl, SqL.of upd_same, rfl, .inl ⟨_, rfl, _, rfl, _, _, rfl, rfl, h0, ?_⟩⟩
      refine ⟨_, rfl, b, _, 2, _, rfl, rfl, SqL.of upd_same, rfl, _, rfl, _, _, rfl, rfl, wd _, _, rfl, b, _, 2, 2, rfl, rfl, upd_same, rfl, ?_⟩
      rw [upd_upd]
      exact ⟨_, rfl, k _ _ (md r).1 (md r).2 Off.upd ⟨ns, p, r / lim, kk + 1, m, upd_same, by rw [upd_ne hcb]; exact hc, by omega, by omega, m0, m1⟩⟩
    -- cell = bag[3]; if bag[1] < len(bag[0])
    refine ⟨_, rfl, b, _, 3, _, rfl, rfl, SqL.of upd_same, rfl, ?_⟩
    have hc1 : (upd H b (bagO c p r (kk + 1) m)) c = some (.lst (ns.map V.int)) := by rw [upd_ne hcb]; exact hc
    refine ⟨_, rfl, b, _, 1, _, rfl, rfl, SqL.of upd_same, rfl, _, rfl, b, _, 0, _, rfl, rfl, SqL.of upd_same, rfl, c, _, rfl, .inl (SqL.of hc1), _, _, rfl, rfl, _, rfl, ite2 (fun c3 => ?_) (fun c3 => ?_)⟩
    · have hp : p < ns.length := by
        have z := of_decide_eq_true c3
        rw [List.length_map] at z
        omega
      have at_ : atI (ns.map V.int) ((p : Nat) : Int) = some (.int ns[p]) := atI_nat (by rw [List.getElem?_map, List.getElem?_eq_getElem hp]; rfl)
      refine ⟨_, rfl, b, _, 0, _, rfl, rfl, SqL.of upd_same, rfl, _, rfl, b, _, 1, _, rfl, rfl, SqL.of upd_same, rfl, c, _, _, _, rfl, rfl, SqL.of hc1, at_, ?_⟩
      refine ⟨_, rfl, b, _, 1, _, rfl, rfl, SqL.of upd_same, rfl, _, _, rfl, rfl, _, rfl, b, _, 1, 1, rfl, rfl, upd_same, rfl, ?_⟩
      rw [upd_upd]
      refine ⟨_, rfl, _, rfl, _, _, rfl, rfl, ⟨by decide, by decide, by decide⟩, _, _, rfl, rfl, _, rfl, ite2 (fun c4 => ?_) (fun c4 => ?_)⟩
      · refine ⟨_, rfl, _, rfl, _, rfl, _, _, rfl, rfl, wd _, _, rfl, b, _, 2, 2, rfl, rfl, upd_same, rfl, ?_⟩
        rw [upd_upd]
        refine ⟨_, rfl, _, rfl, .inl ⟨_, rfl, _, rfl, _, _, rfl, rfl, h0, ?_⟩⟩
        exact k _ _ (md _).1 (md _).2 Off.upd ⟨ns, p + 1, _, kk + 1, m, upd_same, by rw [upd_ne hcb]; exact hc, by omega, by omega, m0, m1⟩
      · exact fin _ _ _ _ (p + 1) _ Off.upd upd_same
    · exact fin _ _ _ _ p _ Off.upd upd_same
theorem C_draw (T : Tx K mg) : Cal P w K mg base CX0 1 "_law_draw" ["bag", "limit"] [] spDraw := by
  obtain ⟨fd, G, F⟩ := ok_draw (P := P) (w := w) (base := base) T
  exact ⟨_, fd, [], G, T.g__law_draw, F.kp, F.bindsN fun _ _ _ _ _ _ us hl => match us, hl with | [_, _], _ => rfl, .nil⟩

end
end K04

set_option maxRecDepth 100000
set_option maxHeartbeats 0
namespace K04
open PySem PySem.Spec PyProof.Rows L2 Q
def ob (s : PySem.W.SharedT) : He.AlD := obsFG 6 fb fn (HandSHeadRun.getT s)
abbrev hk : PySem.W.Hook := hookF 6 fb fn
theorem ob_eq (s : PySem.W.SharedT) : ob s = hk.obs s.abs := obsFG_eq (HandSHeadRun.getT_eq s)
abbrev RowQ : PySem.W.OpenRow := PySem.W.OpenLaw.row PySem.Challenge.rw_fewfetches_k04_wrong_data_texts_at_their
theorem run (w : World) : HandSHeadRun.RunEq RowQ (PySem.W.view RowQ.prog [30]) hk ob 4000 ["FetchError", "BadData", "BadText", "LETTERS", "LONGEST_NAME", "is_whole", "is_name", "SMALL", "FIGURES", "MOST_LETTERS", "MOST_FIGURES", "DEEPEST", "TOO_GREAT", "data_text", "name_from", "number_from", "item_from", "read_data", "_law_bag", "_law_draw", "_law_step", "_law_place", "_law_right", "_law_piece", "_law_spoil", "_law_ends_right"] w := by
  intro os
  kernel_rfl

end K04

set_option maxRecDepth 100000
set_option maxHeartbeats 4000000
namespace K04
open PySem PySem.Spec PyProof.Rows L2 Q RZ RT
section
variable {P : Program} {w : World} {K : PySem.W.Frag} {mg : Str → Option Value} {base : Heap} {f : Addr} {fd : FuncData}
/-! ### is_whole, its bounds given or not -/
theorem ok_wholeG (T : Tx K mg) : ∃ fd, FnOk P w K mg base CX0 1 (He.ga K "is_whole") fd ["thing", "low", "high"] spWholeG ∧ FnP K "is_whole" "is_whole" s_is_whole [.non, .non] (He.ga K "is_whole") fd := by
  obtain ⟨fd, F⟩ := T.d_is_whole
  refine ⟨fd, F.ok sc_is_whole (fun vs H Q E h => ?_) (fun cdv A outer s H vs Q E hr h => ?_), F⟩
  · obtain ⟨v, lo, hi, t, rfl, _⟩ := h
    rfl
  · obtain ⟨v, lo, hi, t, rfl, kn, bl, bh, q⟩ := h
    refine ⟨_, PSs.nox (pss_cons (ps_if (PW.pt (pw_or (pt_not (pt_val (pe_callB call_isi (by rfl) T.n_isinstance (by decide +kernel) (pa_cons (pv 0) (pa_cons (pe_bltn (v := .ty "int") (u := .type "int") (by rfl) T.n_int (by decide +kernel) rfl) pa_nil))))) (pw_or1 (pt_val (pe_callB call_isi (by rfl) T.n_isinstance (by decide +kernel) (pa_cons (pv 0) (pa_cons (pe_bltn (v := .ty "bool") (u := .type "bool") (by rfl) T.n_bool (by decide +kernel) rfl) pa_nil)))))))
        (pss_one (ps_ret pe_bl))
        pss_nil)
      (pss_cons (ps_if (PW.pt (pw_and (pt_cmpR op_notN (pv 1) pe_non (nomark _)) (pw_and1 (pt_cmpR op_lt (pv 0) (pv 1) (nomark _)))))
        (pss_one (ps_ret pe_bl))
        pss_nil)
      (pss_one (ps_ret (pe_or (pe_cmpR op_isN (pv 2) pe_non (nomark _)) (pe_one (pe_cmpR op_le (pv 0) (pv 2) (nomark _)))))))), ?_⟩
    rcases kn.whole (K := K) with ⟨i, rfl, a1, a2⟩ | ⟨a, nv, no⟩
    · refine ⟨_, rfl, _, _, _, _, _, rfl, .ty _, kn.ty, a1, _, rfl, iteF ⟨_, rfl, _, _, _, _, _, rfl, .ty _, kn.ty, a2, _, rfl, iteF ?_⟩⟩
      have q' : Q (.bl (loB lo i && hiB hi i)) H := q
      rcases bl with rfl | ⟨l, rfl⟩
      · refine ⟨_, rfl, rfl, _, rfl, iteF ?_⟩
        rcases bh with rfl | ⟨h, rfl⟩
        · exact ⟨_, rfl, rfl, _, rfl, iteT q'⟩
        · exact ⟨_, rfl, rfl, _, rfl, iteF ⟨_, rfl, _, rfl, _, _, rfl, rfl, q'⟩⟩
      · refine ⟨_, rfl, rfl, _, rfl, iteT ⟨_, rfl, _, rfl, _, _, rfl, rfl, _, rfl, ite2 (fun c => ?_) (fun c => ?_)⟩⟩
        · have z := of_decide_eq_true c
          have e : loB (.int l) i = false := decide_eq_false (by omega)
          rw [e, Bool.false_and] at q'
          exact q'
        · have z : ¬ i < l := fun z => c (decide_eq_true z)
          have e : loB (.int l) i = true := decide_eq_true (by omega)
          rw [e, Bool.true_and] at q'
          rcases bh with rfl | ⟨h, rfl⟩
          · exact ⟨_, rfl, rfl, _, rfl, iteT q'⟩
          · exact ⟨_, rfl, rfl, _, rfl, iteF ⟨_, rfl, _, rfl, _, _, rfl, rfl, q'⟩⟩
    · rw [wholeG_no nv] at q
      rcases a with ⟨a1, a2⟩ | a1
      · exact ⟨_, rfl, _, _, _, _, _, rfl, .ty _, kn.ty, a1, _, rfl, iteF ⟨_, rfl, _, _, _, _, _, rfl, .ty _, kn.ty, a2, _, rfl, iteT q⟩⟩
      · exact ⟨_, rfl, _, _, _, _, _, rfl, .ty _, kn.ty, a1, _, rfl, iteT (iteT q)⟩
theorem C_is_wholeG (T : Tx K mg) : Cal P w K mg base CX0 1 "is_whole" ["thing", "low", "high"] [] spWholeG := by
  obtain ⟨fd, G, F⟩ := ok_wholeG (P := P) (w := w) (base := base) T
  obtain ⟨ds, v, b⟩ := F.binds1 (ps := ["thing", "low", "high"]) 3 2 (List.cons_ne_nil _ _) rfl fun _ _ _ _ _ _ _ us its hu hi => match us, hu, its, hi with | [_, _, _], _, [_, _], _ => ⟨_, rfl, rfl⟩
  exact ⟨_, fd, ds, G, T.g_is_whole, F.kp, b, v⟩
theorem C_is_whole2 (T : Tx K mg) : Cal P w K mg base CX0 1 "is_whole" ["thing", "low", "high"] [.non] spWholeG := by
  obtain ⟨fd, G, F⟩ := ok_wholeG (P := P) (w := w) (base := base) T
  obtain ⟨ds, v, b⟩ := F.binds1 (ps := ["thing", "low", "high"]) 2 1 (List.cons_ne_nil _ _) rfl fun _ _ _ _ _ _ _ us its hu hi => match us, hu, its, hi with | [_, _], _, [_, _], _ => ⟨_, rfl, rfl⟩
  exact ⟨_, fd, ds, G, T.g_is_whole, F.kp, b, v⟩
theorem C_is_whole1 (T : Tx K mg) : Cal P w K mg base CX0 1 "is_whole" ["thing", "low", "high"] [.non, .non] spWholeG := by
  obtain ⟨fd, G, F⟩ := ok_wholeG (P := P) (w := w) (base := base) T
  obtain ⟨ds, v, b⟩ := F.binds1 (ps := ["thing", "low", "high"]) 1 0 (List.cons_ne_nil _ _) rfl fun _ _ _ _ _ _ _ us its hu hi => match us, hu, its, hi with | [_], _, [_, _], _ => ⟨_, rfl, rfl⟩
  exact ⟨_, fd, ds, G, T.g_is_whole, F.kp, b, v⟩
theorem C_is_whole (T : Tx K mg) : Cal P w K mg base CX0 1 "is_whole" ["thing", "low", "high"] [] spWhole := by
  obtain ⟨f, fd, ds, G, g, kp, b, v⟩ := (C_is_wholeG (P := P) (w := w) (base := base) T).ex
  exact ⟨f, fd, ds, FnOk.imp G fun vs H Q E ⟨x, lo, hi, t, e, kn, q⟩ => ⟨x, .int lo, .int hi, t, e, kn, .inr ⟨_, rfl⟩, .inr ⟨_, rfl⟩, by rw [wholeG_int]; exact q⟩, g, kp, b, v⟩

/-! ### is_name -/
theorem C_is_name (T : Tx K mg) : Cal P w K mg base CX0 1 "is_name" ["thing"] [] spName := by
  obtain ⟨fd, F⟩ := T.d_is_name
  refine ⟨_, fd, [], F.ok sc_is_name (fun vs H Q E h => ?_) (fun cdv A outer s H vs Q E hr h => ?_), T.g_is_name, F.kp, F.bindsN fun _ _ _ _ _ _ us hl => match us, hl with | [_], _ => rfl, .nil⟩
  · obtain ⟨v, t, rfl, _⟩ := h
    rfl
  · obtain ⟨v, t, rfl, kn, hz, q⟩ := h
    refine ⟨_, PSs.nox (pss_cons (ps_if (PW.pt (pw_or (pt_not (pt_val (pe_callB call_isi (by rfl) T.n_isinstance (by decide +kernel) (pa_cons (pv 0) (pa_cons (pe_bltn (v := .ty "str") (u := .type "str") (by rfl) T.n_str (by decide +kernel) rfl) pa_nil))))) (pw_or1 (pt_not (pt_chain op_le op_le pe_int (pe_callB call_len_str (by rfl) T.n_len (by decide +kernel) (pa_cons (pv 0) pa_nil)) (pe_gint T.c_LONGEST_NAME))))))
        (pss_one (ps_ret pe_bl))
        pss_nil)
      (pss_one (ps_ret (pe_callB (cr_all rfl) (by rfl) T.n_all (by decide +kernel) (pa_cons (pe_lc (own := [("sign", 1)]) (g := gName 1) (tt := tYes) (by rfl) sc_is_name.nd (pi_str (pv 0)) (blkOk_by (N := ["thing", "sign"]) (sc := defScope s_is_name) (by decide +kernel)) (fun _ _ _ _ _ => (pg_name (i := 1) sc_is_name.nd rfl (Or.inl rfl))) (fun _ _ _ _ _ => pts_nil) (fun _ _ _ _ _ => (pe_cmpR op_in_sign (pv 1) (pe_gstr T.c_LETTERS) rfl))) pa_nil))))), ?_⟩
    rcases kn.isStr (K := K) with ⟨x, rfl, a1⟩ | ⟨a1, no⟩
    case inr =>
      refine ⟨_, rfl, _, _, _, _, _, rfl, .ty _, kn.ty, a1, _, rfl, iteT (iteT ?_)⟩
      have := q H (Same.refl H)
      rw [no] at this
      exact this
    have hx := hz x rfl
    have h16 : x.length ≤ sizeLine := Nat.le_trans hx (by decide)
    have nm : nameV (.str x) = ((decide (1 ≤ x.length) && decide (x.length ≤ 12)) && x.cps.toList.all inLetters) := rfl
    rw [nm] at q
    refine ⟨_, rfl, _, _, _, _, _, rfl, .ty _, kn.ty, a1, _, rfl, iteF ?_⟩
    refine ⟨_, rfl, x, rfl, h16, _, _, rfl, rfl, _, rfl, ite2 (fun c => ?_) (fun c => ?_)⟩
    case refine_2 =>
      refine ⟨_, rfl, iteT ?_⟩
      have c' : ¬ 1 ≤ x.length := fun z => c (decide_eq_true (by omega))
      have := q H (Same.refl H)
      rw [decide_eq_false c', Bool.false_and, Bool.false_and] at this
      exact this
    have l1 : 1 ≤ x.length := by
      have := of_decide_eq_true c
      omega
    refine ⟨_, _, rfl, rfl, _, rfl, ?_⟩
    by_cases c3 : x.length ≤ 12
    case neg =>
      rw [decide_eq_false (show ¬ ((x.length : Nat) : Int) ≤ 12 by omega)]
      refine iteT ?_
      have := q H (Same.refl H)
      rw [decide_eq_false c3, Bool.and_false, Bool.false_and] at this
      exact this
    rw [decide_eq_true l1, decide_eq_true c3, Bool.true_and, Bool.true_and] at q
    rw [decide_eq_true (show ((x.length : Nat) : Int) ≤ 12 by omega)]
    refine iteF ?_
    refine ⟨_, rfl, x, rfl, fun D nD => ?_⟩
    refine lc_it walk_str (fun i H' => Same H H' ∧ H' D = some (.lst (((x.cps.toList.take i).map inLetters).map V.bl))) ⟨same_new nD, upd_same⟩ (fun _ _ _ _ => trivial) ?_ ?_
    · rintro i y H1 H2 hi ⟨sm, hD⟩ ⟨rfl, c, hc, rfl⟩
      have hc' : x.cps.toList[i]? = some c := by rw [Array.getElem?_toList]; exact hc
      refine ⟨rfl, ⟨_, rfl, c, _, rfl, rfl, _, hD, ?_, ?_, ?_⟩⟩
      · rw [List.length_map, List.length_map, List.length_take]
        have e : x.cps.toList.length = x.length := Array.length_toList
        exact small1000 (by omega)
      · exact fun b o e => by
          have nb := ne_of_none e nD
          rw [upd_ne nb]
          exact sm b o e
      · rw [upd_same, List.take_add_one, hc', List.map_append, List.map_append]
        rfl
    · rintro H1 ⟨sm, hD⟩
      have e : x.cps.toList.take x.cps.size = x.cps.toList := by rw [← Array.length_toList, List.take_length]
      rw [e] at hD
      refine ⟨D, _, rfl, SqL.of hD, ?_⟩
      have := q H1 sm
      rw [List.all_map]
      exact this

end
end K04

set_option maxRecDepth 100000
set_option maxHeartbeats 4000000
namespace K04
open PySem PySem.Spec PyProof.Rows L2 Q RZ RT
/-- data as a tree -/
inductive PT
  | name (x : Str)
  | num (i : Int)
  | bad
  | seq (ds : List PT)
def comma : Str := ","
mutual
/-- the text, n levels deep at most; none: refused -/
def textOf : Nat → PT → Option Str
  | _, .name x => some x
  | _, .num i => some (toString i : String)
  | _, .bad => none
  | 0, .seq _ => none
  | n + 1, .seq ds => (textAll n ds).map fun zs => Str.ofString "[" ++ Txt.join comma zs ++ Str.ofString "]"
def textAll : Nat → List PT → Option (List Str)
  | _, [] => some []
  | n, d :: ds => match textOf n d, textAll n ds with
    | some z, some zs => some (z :: zs)
    | _, _ => none
end
mutual
def size : PT → Nat
  | .name _ => 500
  | .num _ => 500
  | .bad => 0
  | .seq ds => sizeAll ds + 2
def sizeAll : List PT → Nat
  | [] => 0
  | d :: ds => size d + 1 + sizeAll ds
end
mutual
/-- the value at v is the data t -/
inductive Tr (K : PySem.W.Frag) (H : Hp) : V → PT → Prop
  | name (x : Str) (h : nameV (.str x) = true) : Tr K H (.str x) (.name x)
  | num (i : Int) (h : 1 - 10 ^ 400 ≤ i ∧ i ≤ 10 ^ 400 - 1) : Tr K H (.int i) (.num i)
  | bad {v : V} {T : String} (k : Kn H v T) (n : nameV v = false) (w : wholeV v (1 - 10 ^ 400) (10 ^ 400 - 1) = false) (q : seqT T = false) (z : ∀ x, v = .str x → x.length ≤ 1000) : Tr K H v .bad
  | lst {a : Addr} {xs : List V} {ds : List PT} (e : H a = some (.lst xs)) (r : TrAll K H xs ds) : Tr K H (.ref a) (.seq ds)
  | tup {a : Addr} {xs : List V} {ds : List PT} (e : H a = some (.tup xs)) (r : TrAll K H xs ds) : Tr K H (.ref a) (.seq ds)
inductive TrAll (K : PySem.W.Frag) (H : Hp) : List V → List PT → Prop
  | nil : TrAll K H [] []
  | cons {v : V} {t : PT} {vs : List V} {ts : List PT} (h : Tr K H v t) (r : TrAll K H vs ts) : TrAll K H (v :: vs) (t :: ts)
end
theorem textAll_none : ∀ {n : Nat} {ds : List PT} {i : Nat} {d : PT}, ds[i]? = some d → textOf n d = none → textAll n ds = none
  | _, [], _, _, h, _ => by simp at h
  | n, e :: ds, 0, d, h, z => by
    simp at h
    subst h
    unfold textAll
    rw [z]
  | n, e :: ds, i + 1, d, h, z => by
    unfold textAll
    rw [textAll_none (ds := ds) (i := i) (by simpa using h) z]
    cases textOf n e <;> rfl
theorem textAll_snoc : ∀ {n : Nat} {ds : List PT} {d : PT} {zs : List Str} {z : Str}, textAll n ds = some zs → textOf n d = some z → textAll n (ds ++ [d]) = some (zs ++ [z])
  | n, [], d, zs, z, h, e => by
    unfold textAll at h
    cases h
    show textAll n [d] = some [z]
    unfold textAll
    rw [e]
    unfold textAll
    rfl
  | n, c :: ds, d, zs, z, h, e => by
    unfold textAll at h
    cases h1 : textOf n c with
    | none => rw [h1] at h; cases h
    | some y =>
      cases h2 : textAll n ds with
      | none => rw [h1, h2] at h; cases h
      | some ys =>
        rw [h1, h2] at h
        cases h
        show textAll n (c :: (ds ++ [d])) = some (y :: (ys ++ [z]))
        unfold textAll
        rw [h1, textAll_snoc h2 e]
theorem TrAll.len {K : PySem.W.Frag} {H : Hp} : ∀ {xs : List V} {ds : List PT}, TrAll K H xs ds → xs.length = ds.length
  | [], [], _ => rfl
  | _ :: _, _ :: _, h => by
    cases h with
    | cons a r => simp [TrAll.len r]
theorem TrAll.at_ {K : PySem.W.Frag} {H : Hp} : ∀ {xs : List V} {ds : List PT} {i : Nat} {x : V}, TrAll K H xs ds → xs[i]? = some x → ∃ d, ds[i]? = some d ∧ Tr K H x d
  | _, _, i, _, .nil, e => by simp at e
  | _, _, 0, _, .cons a _, e => by
    simp at e
    subst e
    exact ⟨_, rfl, a⟩
  | _, _, i + 1, _, .cons _ r, e => TrAll.at_ (i := i) r (by simpa using e)
theorem size_at : ∀ {ds : List PT} {i : Nat} {d : PT}, ds[i]? = some d → size d ≤ sizeAll ds
  | [], _, _, h => by simp at h
  | c :: ds, 0, d, h => by
    simp at h
    subst h
    show size c ≤ size c + 1 + sizeAll ds
    omega
  | c :: ds, i + 1, d, h => by
    have := size_at (ds := ds) (i := i) (d := d) (by simpa using h)
    show size d ≤ size c + 1 + sizeAll ds
    omega
mutual
theorem tr_same {K : PySem.W.Frag} {H H' : Hp} (e : Same H H') : ∀ (t : PT) (v : V), Tr K H v t → Tr K H' v t
  | _, _, .name x h => .name x h
  | _, _, .num i h => .num i h
  | _, _, .bad k n w q z => .bad (k.same e) n w q z
  | _, _, .lst a r => .lst (e _ _ a) (trAll_same e _ _ r)
  | _, _, .tup a r => .tup (e _ _ a) (trAll_same e _ _ r)
theorem trAll_same {K : PySem.W.Frag} {H H' : Hp} (e : Same H H') : ∀ (ts : List PT) (vs : List V), TrAll K H vs ts → TrAll K H' vs ts
  | _, _, .nil => .nil
  | _, _, .cons a r => .cons (tr_same e _ _ a) (trAll_same e _ _ r)
end
theorem lc_seq {K : PySem.W.Frag} {k : Bool} {a : Addr} {xs : List V} {g : TG} {tt : TT} {te : TE} {vs : List Nat} {σ : L2.St} {H1 : Hp} {D : Addr} {Qd : Hp → Prop} (Pv : Nat → Hp → Prop) (h0 : Pv 0 (upd H1 D (.lst []))) (hl : ∀ i H, i ≤ xs.length → Pv i H → SqB k K H a xs)
    (hs : ∀ i x H, xs[i]? = some x → Pv i H → g x (wipe σ vs) H fun σ2 H2 => wipe σ2 vs = wipe σ vs ∧ tt σ2 H2 fun b H3 =>
      if b = true then te σ2 H3 fun y H4 => ∃ acc, H4 D = some (.lst acc) ∧ acc.length < sizeLine ∧ Pv (i + 1) (upd H4 D (.lst (acc ++ [y]))) else Pv (i + 1) H3) (hd : ∀ H, Pv xs.length H → Qd H) :
    ∃ W : Nat → Nat → Hp → Prop, (∃ m, W 0 m (upd H1 D (.lst []))) ∧ ∀ i m H, W i m H →
      ((ItS k K a).stop i H ∧ Qd H) ∨ ((ItS k K a).go i H ∧ ∃ Nx : Hp → Prop, (∀ H', Nx H' → ∃ m', m' < m ∧ W (i + 1) m' H') ∧ ∀ x H', (ItS k K a).yld i H x H' → g x (wipe σ vs) H' fun σ2 H2 => wipe σ2 vs = wipe σ vs ∧ tt σ2 H2 fun b H3 =>
        if b = true then te σ2 H3 fun y H4 => ∃ acc, H4 D = some (.lst acc) ∧ acc.length < sizeLine ∧ Nx (upd H4 D (.lst (acc ++ [y]))) else Nx H3) := by
  cases k with
  | true => exact lc_list Pv h0 hl hs hd
  | false => exact lc_tup Pv h0 hl hs hd
theorem join_le : ∀ ts : List Str, (Str.join comma ts).length ≤ (ts.map (·.length)).sum + ts.length
  | [] => Nat.zero_le _
  | [x] => by
    show x.length ≤ _
    simp
  | x :: y :: r => by
    have ih := join_le (y :: r)
    have e : (Str.join comma (x :: y :: r)).length = x.length + comma.length + (Str.join comma (y :: r)).length := by
      show (x ++ comma ++ Str.join comma (y :: r)).length = _
      rw [strLen_append, strLen_append]
    have c : comma.length = 1 := rfl
    rw [e, List.map_cons, List.sum_cons, List.length_cons]
    omega
theorem num_len {i : Int} (h : 1 - 10 ^ 400 ≤ i ∧ i ≤ 10 ^ 400 - 1) : (Str.ofString (toString i)).length ≤ 500 := by
  have h2 : ((10 : Int) ^ 400) = ((10 ^ 400 : Nat) : Int) := by push_cast; rfl
  have h4 : i.natAbs < 10 ^ 400 := by
    obtain ⟨a1, a2⟩ := h
    rw [h2] at a1 a2
    generalize (10 : Nat) ^ 400 = big at a1 a2 ⊢
    omega
  have e := int_text_length_le10 (a := i) (k := 400) (by decide) h4
  have e2 : (Str.ofString (toString i)).length = (toString i).length := PySem.ofString_length _
  omega
mutual
theorem tx_len {K : PySem.W.Frag} {H : Hp} : ∀ (n : Nat) (t : PT) (v : V) (z : Str), Tr K H v t → textOf n t = some z → z.length ≤ size t
  | n, .name x, _, z, h, e => by
    have e' : some x = some z := by cases n <;> exact e
    cases e'
    cases h with
    | name _ hx =>
      have z : ((decide (1 ≤ x.length) && decide (x.length ≤ 12)) && x.cps.toList.all inLetters) = true := hx
      rw [Bool.and_eq_true, Bool.and_eq_true] at z
      have := of_decide_eq_true z.1.2
      show x.length ≤ 500
      omega
  | n, .num i, _, z, h, e => by
    have e' : some (Str.ofString (toString i)) = some z := by cases n <;> exact e
    cases e'
    cases h with
    | num _ hi => exact num_len hi
  | n, .bad, _, z, _, e => by
    have e' : (none : Option Str) = some z := by cases n <;> exact e
    cases e'
  | 0, .seq ds, _, z, _, e => by cases e
  | n + 1, .seq ds, v, z, h, e => by
    have e' : (textAll n ds).map (fun zs => Str.ofString "[" ++ Txt.join comma zs ++ Str.ofString "]") = some z := e
    cases q : textAll n ds with
    | none => rw [q] at e'; cases e'
    | some zs =>
      rw [q] at e'
      cases e'
      have l : (zs.map (·.length)).sum + zs.length ≤ sizeAll ds := by
        cases h with
        | lst a r => exact txs_len n ds _ zs r q
        | tup a r => exact txs_len n ds _ zs r q
      have j := join_le zs
      rw [← TL.join_eq] at j
      have o1 : (Str.ofString "[").length = 1 := by decide +kernel
      have o2 : (Str.ofString "]").length = 1 := by decide +kernel
      rw [strLen_append, strLen_append]
      show _ ≤ sizeAll ds + 2
      omega
theorem txs_len {K : PySem.W.Frag} {H : Hp} : ∀ (n : Nat) (ds : List PT) (vs : List V) (zs : List Str), TrAll K H vs ds → textAll n ds = some zs → (zs.map (·.length)).sum + zs.length ≤ sizeAll ds
  | n, [], _, zs, _, e => by
    unfold textAll at e
    cases e
    exact Nat.le_refl _
  | n, d :: ds, _, zs, .cons a r, e => by
    unfold textAll at e
    cases h1 : textOf n d with
    | none => rw [h1] at e; cases e
    | some y =>
      cases h2 : textAll n ds with
      | none => rw [h1, h2] at e; cases e
      | some ys =>
        rw [h1, h2] at e
        cases e
        have l1 := tx_len n d _ y a h1
        have l2 := txs_len n ds _ ys r h2
        rw [List.map_cons, List.sum_cons, List.length_cons]
        show _ ≤ size d + 1 + sizeAll ds
        omega
end
section
variable {P : Program} {w : World} {K : PySem.W.Frag} {mg : Str → Option Value} {base : Heap} {f : Addr} {fd : FuncData}
def spText (K : PySem.W.Frag) (n : Nat) : Sp := fun vs H Q E => ∃ (v : V) (t : PT), vs = [v, .int (40 - (n : Int))] ∧ n ≤ 40 ∧ Tr K H v t ∧ size t ≤ 4000000 ∧
  (textOf n t = none → ∀ H', Same H H' → E (.ref (He.ga K "BadData")) none H') ∧ ∀ z, textOf n t = some z → ∀ H', Same H H' → Q (.str z) H'
theorem text_void (T : Tx K mg) : Cal P w K mg base (L2.CX P w) 1 "data_text" ["data", "around"] [] (fun _ _ _ _ => False) := by
  obtain ⟨fd, F⟩ := T.d_data_text
  obtain ⟨ds, v, b⟩ := F.binds1 (ps := ["data", "around"]) 2 1 (List.cons_ne_nil _ _) rfl fun _ _ _ _ _ _ _ us its hu hi => match us, hu, its, hi with | [_, _], _, [_], _ => ⟨_, rfl, rfl⟩
  exact ⟨_, fd, ds, ⟨fun _ _ _ _ z => z.elim, fun _ _ _ _ _ _ _ _ _ _ _ _ _ z => z.elim⟩, T.g_data_text, F.kp, b, v⟩
theorem text_ok (T : Tx K mg) {n : Nat} {sp : Sp} (C_data_text : Cal P w K mg base (L2.CX P w) (n + 1) "data_text" ["data", "around"] [] sp) (up : n = 0 ∨ ∃ m, n = m + 1 ∧ sp = spText K m) : ∃ fd, FnOk P w K mg base (L2.CX P w) (n + 2) (He.ga K "data_text") fd ["data", "around"] (spText K n) ∧ FnP K "data_text" "data_text" s_data_text [.int 0] (He.ga K "data_text") fd := by
  obtain ⟨fd, F⟩ := T.d_data_text
  have C_is_whole := C_is_whole (P := P) (w := w) (base := base) T
  have C_is_name := C_is_name (P := P) (w := w) (base := base) T
  refine ⟨fd, F.ok sc_data_text (fun vs H Q E h => ?_) (fun cdv A outer s H vs Q E hr h => ?_), F⟩
  · obtain ⟨v, t, rfl, _⟩ := h
    rfl
  · obtain ⟨v, t, rfl, hn, tr, sz, kE, kQ⟩ := h
    refine ⟨_, (pss_cons (ps_if (pt_val (pe_cal C_is_whole (hr.mono (by omega)) pass0 (pa_cons (pv 0) (pa_cons (pe_op op_sub pe_int (pe_gint T.c_TOO_GREAT)) (pa_cons (pe_op op_sub (pe_gint T.c_TOO_GREAT) pe_int) pa_nil)))))
        (pss_one (ps_ret (pe_callTy call_str_int (by rfl) T.n_str (by decide +kernel) (pa_cons (pv 0) pa_nil))))
        pss_nil)
      (pss_cons (ps_if (pt_val (pe_cal C_is_name (hr.mono (by omega)) pass0 (pa_cons (pv 0) pa_nil)))
        (pss_one (ps_ret (pv 0)))
        pss_nil)
      (pss_cons (ps_if (PW.pt (pw_or (pt_not (pt_val (pe_callB call_isiT (by rfl) T.n_isinstance (by decide +kernel) (pa_cons (pv 0) (pa_cons (pe_tup (pa_cons (pe_bltn (v := .ty "list") (u := .type "list") (by rfl) T.n_list (by decide +kernel) rfl) (pa_cons (pe_bltn (v := .ty "tuple") (u := .type "tuple") (by rfl) T.n_tuple (by decide +kernel) rfl) pa_nil))) pa_nil))))) (pw_or1 (pt_cmpR op_eq (pv 1) (pe_gint T.c_DEEPEST) (nomark _)))))
        (pss_one (ps_raise rfl (takes_of rfl rfl rfl rfl) (pmk_own0 T.b_BadData T.g_BadData T.k_BadData (raises_own T.x_BadData.hs T.ty_BadData))))
        pss_nil)
      (pss_one (ps_ret (pe_op op_add_str (pe_op op_add_str pe_str (pe_bm PySem.F.plainAttrs_str PySem.F.slot_str_join PySem.F.type_str_join mt_join pe_str (pa_cons (pe_lcX (own := [("item", 2)]) (g := gName 2) (tt := tYes) (takes_of rfl rfl rfl rfl) (fun _ _ _ _ h => h) rfl rfl (by rfl) sc_data_text.nd (pi_seq (pv 0)) (blkOk_by (N := ["data", "around", "item"]) (sc := defScope s_data_text) (by decide +kernel)) (fun _ _ _ _ _ _ => (pg_name (i := 2) sc_data_text.nd rfl (Or.inl rfl))) (fun _ _ _ _ _ _ => pts_nil) (fun _ _ _ _ _ _ lets => (pe_calS C_data_text (hr.mono (by omega)) lets (pa_cons (pv 2) (pa_cons (pe_op op_add (pv 1) pe_int) pa_nil))))) pa_nil))) pe_str)))))), ?_⟩
    cases tr with
    | name x hx =>
      have kn : Kn H (.str x) "str" := .str x
      refine ⟨_, rfl, _, _, rfl, rfl, _, _, rfl, rfl, _, _, _, "str", rfl, kn, _, rfl, iteF ?_⟩
      have l : x.length ≤ 1000 := by
        have z : ((decide (1 ≤ x.length) && decide (x.length ≤ 12)) && x.cps.toList.all inLetters) = true := hx
        rw [Bool.and_eq_true, Bool.and_eq_true] at z
        have := of_decide_eq_true z.1.2
        omega
      refine ⟨_, rfl, _, _, rfl, kn, (fun y e => by cases e; exact l), fun H1 s1 => ⟨_, rfl, ?_⟩⟩
      rw [hx]
      exact iteT ⟨_, rfl, kQ x (by cases n <;> rfl) H1 s1⟩
    | num i hi =>
      have kn : Kn H (.int i) "int" := .int i
      have e : wholeV (.int i) (1 - 10 ^ 400) (10 ^ 400 - 1) = true := by
        show (decide (1 - 10 ^ 400 ≤ i) && decide (i ≤ 10 ^ 400 - 1)) = true
        rw [decide_eq_true hi.1, decide_eq_true hi.2]
        rfl
      refine ⟨_, rfl, _, _, rfl, rfl, _, _, rfl, rfl, _, _, _, "int", rfl, kn, _, rfl, ?_⟩
      rw [e]
      have lg : i.natAbs.log2 < 1920 := by
        have h1 : i.natAbs < 2 ^ 1400 := by
          have h2 : ((10 : Int) ^ 400) = ((10 ^ 400 : Nat) : Int) := by push_cast; rfl
          have h3 : (10 : Nat) ^ 400 ≤ 2 ^ 1400 := by decide +kernel
          have h4 : i.natAbs < 10 ^ 400 := by
            obtain ⟨a1, a2⟩ := hi
            rw [h2] at a1 a2
            generalize (10 : Nat) ^ 400 = big at a1 a2 h3 ⊢
            omega
          exact Nat.lt_of_lt_of_le h4 h3
        have := PySem.Flt.log2_lt_of (by decide) h1
        omega
      exact iteT ⟨_, rfl, i, rfl, lg, kQ _ (by cases n <;> rfl) H (Same.refl H)⟩
    | bad k nn ww qq zz =>
      refine ⟨_, rfl, _, _, rfl, rfl, _, _, rfl, rfl, _, _, _, _, rfl, k, _, rfl, ?_⟩
      rw [ww]
      refine iteF ⟨_, rfl, _, _, rfl, k, zz, fun H1 s1 => ⟨_, rfl, ?_⟩⟩
      rw [nn]
      have z := (k.same s1).seq (K := K)
      rw [qq] at z
      refine iteF ⟨_, rfl, by show 2 ≤ sizeLine; decide, fun p np => ⟨_, p, _, _, _, _, rfl, upd_same, .cons (.ty _) (.cons (.ty _) .nil), ((k.same s1).same (same_new np)).ty, z, _, rfl, iteT (iteT ?_)⟩⟩
      exact kE (by cases n <;> rfl) _ (s1.trans (same_new np))
    | @lst a xs ds e r =>
      have kn : Kn H (.ref a) "list" := .lst e
      have hh : H a = some (.lst xs) ∨ H a = some (.tup xs) := .inl e
      have qq : seqT "list" = true := rfl
      refine ⟨_, rfl, _, _, rfl, rfl, _, _, rfl, rfl, _, _, _, _, rfl, kn, _, rfl, iteF ?_⟩
      refine ⟨_, rfl, _, _, rfl, kn, (fun x z => nomatch z), fun H1 s1 => ⟨_, rfl, iteF ?_⟩⟩
      have z := (kn.same s1).seq (K := K)
      rw [qq] at z
      refine ⟨_, rfl, by show 2 ≤ sizeLine; decide, fun p np => ⟨_, p, _, _, _, _, rfl, upd_same, .cons (.ty _) (.cons (.ty _) .nil), ((kn.same s1).same (same_new np)).ty, z, _, rfl, iteF ?_⟩⟩
      have s2 := s1.trans (same_new (o := HO.tup [V.ty "list", V.ty "tuple"]) np)
      generalize upd H1 p (HO.tup [V.ty "list", V.ty "tuple"]) = H2 at s2 ⊢
      refine ⟨_, rfl, rfl, _, rfl, ite2 (fun c => ?_) (fun c => ?_)⟩
      · have c' : (40 : Int) - (n : Int) = 40 := by
          have := of_decide_eq_true c
          injection this
        obtain rfl : n = 0 := by omega
        exact kE rfl H2 s2
      have n0 : n ≠ 0 := fun q => c (by subst q; exact decide_eq_true rfl)
      rcases up with up | ⟨m, rfl, rfl⟩
      · exact absurd up n0
      obtain ⟨k, hk⟩ := (sq_of (K := K) hh).b
      refine ⟨rfl, _, rfl, a, xs, k, rfl, hk.same s2, fun D nD => ?_⟩
      have ll := r.len
      refine lc_seq (fun i H' => Same H2 H' ∧ ∃ zs, textAll m (ds.take i) = some zs ∧ H' D = some (.lst (zs.map V.str)) ∧ zs.length = i) ⟨same_new nD, [], by rw [List.take_zero]; rfl, upd_same, rfl⟩ (fun i H' _ h => hk.same (s2.trans h.1)) ?_ ?_
      · rintro i x H3 hx ⟨s3, zs, ez, hD, zl⟩
        obtain ⟨d, hd, tr⟩ := r.at_ hx
        have sz' : sizeAll ds + 2 ≤ 4000000 := sz
        have szd := size_at hd
        have s23 := s2.trans s3
        refine ⟨rfl, _, rfl, _, rfl, _, _, rfl, rfl, x, d, by show [x, V.int ((40 : Int) - ((m + 1 : Nat) : Int) + 1)] = _; rw [show (40 : Int) - ((m + 1 : Nat) : Int) + 1 = 40 - (m : Int) by omega], by omega, tr_same s23 d x tr, by omega, fun e9 H4 s4 => ?_, fun w9 e9 H4 s4 => ?_⟩
        · refine kE ?_ H4 (s23.trans s4)
          show (textAll m ds).map _ = none
          rw [textAll_none hd e9]
          rfl
        · refine ⟨_, s4 _ _ hD, ?_, fun b o q => ?_, zs ++ [w9], ?_, by rw [upd_same, List.map_append]; rfl, by rw [List.length_append, zl]; rfl⟩
          · rw [List.length_map, sizeLine_eq]
            have := (List.getElem?_eq_some_iff.mp hd).1
            have cnt : ∀ es : List PT, es.length ≤ sizeAll es := fun es => by
              induction es with
              | nil => exact Nat.le_refl _
              | cons c es ih => show es.length + 1 ≤ size c + 1 + sizeAll es; omega
            have := cnt ds
            omega
          · rw [upd_ne (ne_of_none q nD)]
            exact s4 _ _ (s3 _ _ q)
          · rw [List.take_add_one, hd]
            exact textAll_snoc ez e9
      · rintro H3 ⟨s3, zs, ez, hD, zl⟩
        rw [ll, List.take_length] at ez
        have s23 := s2.trans s3
        have l := txs_len m ds xs zs r ez
        have sz' : sizeAll ds + 2 ≤ 4000000 := sz
        have cl : comma.length = 1 := rfl
        have j := join_le zs
        rw [← TL.join_eq] at j
        have o1 : (Str.ofString "[").length = 1 := by decide +kernel
        have o2 : (Str.ofString "]").length = 1 := by decide +kernel
        refine ⟨comma, D, zs, rfl, rfl, .inl (SqL.of hD), by rw [cl]; omega, _, _, rfl, rfl, by rw [o1, sizeLine_eq]; omega, _, _, rfl, rfl, by rw [strLen_append, o1, o2, sizeLine_eq]; omega, ?_⟩
        refine kQ _ ?_ H3 s23
        show (textAll m ds).map _ = _
        rw [ez]
        rfl
    | @tup a xs ds e r =>
      have kn : Kn H (.ref a) "tuple" := .tup e
      have hh : H a = some (.lst xs) ∨ H a = some (.tup xs) := .inr e
      have qq : seqT "tuple" = true := rfl
      refine ⟨_, rfl, _, _, rfl, rfl, _, _, rfl, rfl, _, _, _, _, rfl, kn, _, rfl, iteF ?_⟩
      refine ⟨_, rfl, _, _, rfl, kn, (fun x z => nomatch z), fun H1 s1 => ⟨_, rfl, iteF ?_⟩⟩
      have z := (kn.same s1).seq (K := K)
      rw [qq] at z
      refine ⟨_, rfl, by show 2 ≤ sizeLine; decide, fun p np => ⟨_, p, _, _, _, _, rfl, upd_same, .cons (.ty _) (.cons (.ty _) .nil), ((kn.same s1).same (same_new np)).ty, z, _, rfl, iteF ?_⟩⟩
      have s2 := s1.trans (same_new (o := HO.tup [V.ty "list", V.ty "tuple"]) np)
      generalize upd H1 p (HO.tup [V.ty "list", V.ty "tuple"]) = H2 at s2 ⊢
      refine ⟨_, rfl, rfl, _, rfl, ite2 (fun c => ?_) (fun c => ?_)⟩
      · have c' : (40 : Int) - (n : Int) = 40 := by
          have := of_decide_eq_true c
          injection this
        obtain rfl : n = 0 := by omega
        exact kE rfl H2 s2
      have n0 : n ≠ 0 := fun q => c (by subst q; exact decide_eq_true rfl)
      rcases up with up | ⟨m, rfl, rfl⟩
      · exact absurd up n0
      obtain ⟨k, hk⟩ := (sq_of (K := K) hh).b
      refine ⟨rfl, _, rfl, a, xs, k, rfl, hk.same s2, fun D nD => ?_⟩
      have ll := r.len
      refine lc_seq (fun i H' => Same H2 H' ∧ ∃ zs, textAll m (ds.take i) = some zs ∧ H' D = some (.lst (zs.map V.str)) ∧ zs.length = i) ⟨same_new nD, [], by rw [List.take_zero]; rfl, upd_same, rfl⟩ (fun i H' _ h => hk.same (s2.trans h.1)) ?_ ?_
      · rintro i x H3 hx ⟨s3, zs, ez, hD, zl⟩
        obtain ⟨d, hd, tr⟩ := r.at_ hx
        have sz' : sizeAll ds + 2 ≤ 4000000 := sz
        have szd := size_at hd
        have s23 := s2.trans s3
        refine ⟨rfl, _, rfl, _, rfl, _, _, rfl, rfl, x, d, by show [x, V.int ((40 : Int) - ((m + 1 : Nat) : Int) + 1)] = _; rw [show (40 : Int) - ((m + 1 : Nat) : Int) + 1 = 40 - (m : Int) by omega], by omega, tr_same s23 d x tr, by omega, fun e9 H4 s4 => ?_, fun w9 e9 H4 s4 => ?_⟩
        · refine kE ?_ H4 (s23.trans s4)
          show (textAll m ds).map _ = none
          rw [textAll_none hd e9]
          rfl
        · refine ⟨_, s4 _ _ hD, ?_, fun b o q => ?_, zs ++ [w9], ?_, by rw [upd_same, List.map_append]; rfl, by rw [List.length_append, zl]; rfl⟩
          · rw [List.length_map, sizeLine_eq]
            have := (List.getElem?_eq_some_iff.mp hd).1
            have cnt : ∀ es : List PT, es.length ≤ sizeAll es := fun es => by
              induction es with
              | nil => exact Nat.le_refl _
              | cons c es ih => show es.length + 1 ≤ size c + 1 + sizeAll es; omega
            have := cnt ds
            omega
          · rw [upd_ne (ne_of_none q nD)]
            exact s4 _ _ (s3 _ _ q)
          · rw [List.take_add_one, hd]
            exact textAll_snoc ez e9
      · rintro H3 ⟨s3, zs, ez, hD, zl⟩
        rw [ll, List.take_length] at ez
        have s23 := s2.trans s3
        have l := txs_len m ds xs zs r ez
        have sz' : sizeAll ds + 2 ≤ 4000000 := sz
        have cl : comma.length = 1 := rfl
        have j := join_le zs
        rw [← TL.join_eq] at j
        have o1 : (Str.ofString "[").length = 1 := by decide +kernel
        have o2 : (Str.ofString "]").length = 1 := by decide +kernel
        refine ⟨comma, D, zs, rfl, rfl, .inl (SqL.of hD), by rw [cl]; omega, _, _, rfl, rfl, by rw [o1, sizeLine_eq]; omega, _, _, rfl, rfl, by rw [strLen_append, o1, o2, sizeLine_eq]; omega, ?_⟩
        refine kQ _ ?_ H3 s23
        show (textAll m ds).map _ = _
        rw [ez]
        rfl
theorem text_step (T : Tx K mg) {n : Nat} {sp : Sp} (C_data_text : Cal P w K mg base (L2.CX P w) (n + 1) "data_text" ["data", "around"] [] sp) (up : n = 0 ∨ ∃ m, n = m + 1 ∧ sp = spText K m) : Cal P w K mg base (L2.CX P w) (n + 2) "data_text" ["data", "around"] [] (spText K n) := by
  obtain ⟨fd, G, F⟩ := text_ok T C_data_text up
  obtain ⟨dsv, vv, bb⟩ := F.binds1 (ps := ["data", "around"]) 2 1 (List.cons_ne_nil _ _) rfl fun _ _ _ _ _ _ _ us its hu hi => match us, hu, its, hi with | [_, _], _, [_], _ => ⟨_, rfl, rfl⟩
  exact ⟨_, fd, dsv, G, T.g_data_text, F.kp, bb, vv⟩
theorem C_data_text (T : Tx K mg) : ∀ n : Nat, Cal P w K mg base (L2.CX P w) (n + 2) "data_text" ["data", "around"] [] (spText K n)
  | 0 => text_step T (n := 0) (text_void T) (.inl rfl)
  | n + 1 => text_step T (n := n + 1) (C_data_text T n) (.inr ⟨n, rfl, rfl⟩)
theorem C_data_text1 (T : Tx K mg) : Cal P w K mg base (L2.CX P w) 42 "data_text" ["data", "around"] [.int 0] (spText K 40) := by
  obtain ⟨fd, G, F⟩ := text_ok (P := P) (w := w) (base := base) T (n := 40) (C_data_text T 39) (.inr ⟨39, rfl, rfl⟩)
  obtain ⟨ds, v, b⟩ := F.binds1 (ps := ["data", "around"]) 1 0 (List.cons_ne_nil _ _) rfl fun _ _ _ _ _ _ _ us its hu hi => match us, hu, its, hi with | [_], _, [_], _ => ⟨_, rfl, rfl⟩
  exact ⟨_, fd, ds, G, T.g_data_text, F.kp, b, v⟩
end
end K04

set_option maxRecDepth 100000
set_option maxHeartbeats 4000000
namespace K04
open PySem PySem.Spec PyProof.Rows L2 Q RZ RT
/-- how many signs at the head of l are p, k at most -/
def runLen (p : Nat → Bool) : Nat → List Nat → Nat
  | 0, _ => 0
  | _, [] => 0
  | k + 1, c :: l => if p c = true then runLen p k l + 1 else 0
theorem run_le (p : Nat → Bool) : ∀ (k : Nat) (l : List Nat), runLen p k l ≤ k ∧ runLen p k l ≤ l.length
  | 0, _ => ⟨Nat.le_refl _, Nat.zero_le _⟩
  | k + 1, [] => ⟨Nat.zero_le _, Nat.le_refl _⟩
  | k + 1, c :: l => by
    obtain ⟨a, b⟩ := run_le p k l
    unfold runLen
    split
    · rw [List.length_cons]
      omega
    · exact ⟨Nat.zero_le _, Nat.zero_le _⟩
theorem run_step (p : Nat → Bool) : ∀ (k : Nat) (l : List Nat) (j : Nat), j ≤ runLen p k l → (j < runLen p k l ↔ j < k ∧ ∃ c, l[j]? = some c ∧ p c = true)
  | 0, l, j, h => by
    unfold runLen at h ⊢
    constructor
    · intro z; omega
    · rintro ⟨z, -⟩; omega
  | k + 1, [], j, h => by
    unfold runLen at h ⊢
    constructor
    · intro z; omega
    · rintro ⟨-, c, z, -⟩; simp at z
  | k + 1, c :: l, j, h => by
    by_cases hc : p c = true
    · have e : runLen p (k + 1) (c :: l) = runLen p k l + 1 := by
        show (if p c = true then runLen p k l + 1 else 0) = _
        rw [if_pos hc]
      rw [e] at h ⊢
      cases j with
      | zero =>
        constructor
        · intro _; exact ⟨by omega, c, rfl, hc⟩
        · intro _; omega
      | succ j =>
        have ih := run_step p k l j (by omega)
        constructor
        · intro z
          obtain ⟨a, d, b1, b2⟩ := ih.mp (by omega)
          exact ⟨by omega, d, by simpa using b1, b2⟩
        · rintro ⟨a, d, b1, b2⟩
          have := ih.mpr ⟨by omega, d, by simpa using b1, b2⟩
          omega
    · have e : runLen p (k + 1) (c :: l) = 0 := by
        show (if p c = true then runLen p k l + 1 else 0) = _
        rw [if_neg hc]
      rw [e] at h ⊢
      constructor
      · intro z; omega
      · rintro ⟨-, d, b1, b2⟩
        obtain rfl : j = 0 := by omega
        simp at b1
        subst b1
        exact absurd b2 hc
section
variable {P : Program} {w : World} {K : PySem.W.Frag} {mg : Str → Option Value} {base : Heap} {f : Addr} {fd : FuncData}
def small (c : Nat) : Bool := decide (c ∈ lettersT.cps.toList)
/-- the name that begins at a place: its text and its end -/
def spNameFrom : Sp := fun vs H Q _ => ∃ (z : Str) (i : Nat), vs = [.str z, .int i] ∧ z.length ≤ 4000000 ∧ i ≤ z.length ∧ ∀ p, H p = none → Q (.ref p) (upd H p (.tup [.str (cutS z (some (i : Int)) (some ((i : Int) + (runLen small 12 (z.cps.toList.drop i) : Int)))), .int ((i : Int) + (runLen small 12 (z.cps.toList.drop i) : Int))]))
theorem C_name_from (T : Tx K mg) : Cal P w K mg base CX0 1 "name_from" ["text", "at"] [] spNameFrom := by
  obtain ⟨fd, F⟩ := T.d_name_from
  refine ⟨_, fd, [], F.ok sc_name_from (fun vs H Q E h => ?_) (fun cdv A outer s H vs Q E hr h => ?_), T.g_name_from, F.kp, F.bindsN fun _ _ _ _ _ _ us hl => match us, hl with | [_, _], _ => rfl, .nil⟩
  · obtain ⟨z, i, rfl, _⟩ := h
    rfl
  · obtain ⟨z, i, rfl, hz, hi, q⟩ := h
    have z16 : z.length ≤ sizeLine := Nat.le_trans hz (by decide)
    have zl : z.cps.toList.length = z.length := Array.length_toList
    obtain ⟨r1, r2⟩ := run_le small 12 (z.cps.toList.drop i)
    rw [List.length_drop, zl] at r2
    refine ⟨_, PSs.nox (pss_cons (ps_set (i := 2) sc_name_from.nd rfl (Or.inl rfl) (pv 1))
      (pss_cons (ps_while PassesOwn.never (PW.pt (pw_and (pt_cmpR op_lt (pv 2) (pe_callB call_len_str (by rfl) T.n_len (by decide +kernel) (pa_cons (pv 0) pa_nil)) (nomark _)) (pw_and (pt_cmpR op_lt (pv 2) (pe_op op_add (pv 1) (pe_gint T.c_MOST_LETTERS)) (nomark _)) (pw_and1 (pt_cmpR op_in_sign (pe_ix ix_str (pv 0) (pv 2) (fun _ _ => rfl)) (pe_gstr T.c_SMALL) rfl)))))
        (pss_one (ps_aug (i := 2) sc_name_from.nd rfl (Or.inl rfl) pe_int ip_add)))
      (pss_one (ps_ret (pe_tup (pa_cons (pe_slice sl_str (pv 0) (po_some (pv 1)) (po_some (pv 2))) (pa_cons (pv 2) pa_nil))))))), ?_⟩
    generalize hL : runLen small 12 (z.cps.toList.drop i) = L at q r1 r2
    refine ⟨_, rfl, fun m σ H' => H' = H ∧ ∃ j, j ≤ L ∧ m = L - j ∧ σ = [some (.str z), some (.int i), some (.int ((i : Int) + (j : Int)))], ⟨L, rfl, 0, Nat.zero_le _, rfl, by rw [show ((i : Int) + ((0 : Nat) : Int)) = (i : Int) by omega]; rfl⟩, ?_⟩
    rintro m σ H' ⟨rfl, j, hj, rfl, rfl⟩
    have stp := run_step small 12 (z.cps.toList.drop i) j (by rw [hL]; exact hj)
    rw [hL] at stp
    have ends : ¬ j < L → j = L := fun k => by omega
    refine ⟨_, rfl, _, rfl, z, rfl, z16, _, _, rfl, rfl, _, rfl, ite2 (fun c1 => ?_) (fun c1 => ?_)⟩
    case refine_2 =>
      have k1 : ¬ ((i : Int) + (j : Int) < (z.length : Int)) := fun k => c1 (decide_eq_true k)
      obtain rfl : j = L := by omega
      exact ⟨_, rfl, _, rfl, _, rfl, _, rfl, _, rfl, z, rfl, z16, _, rfl, by show 2 ≤ sizeLine; decide, fun p np => q p np⟩
    have k1 : (i : Int) + (j : Int) < (z.length : Int) := of_decide_eq_true c1
    refine ⟨_, rfl, _, rfl, _, _, rfl, rfl, _, _, rfl, rfl, _, rfl, ite2 (fun c2 => ?_) (fun c2 => ?_)⟩
    case refine_2 =>
      have k2 : ¬ ((i : Int) + (j : Int) < (i : Int) + 12) := fun k => c2 (decide_eq_true k)
      obtain rfl : j = L := by omega
      exact ⟨_, rfl, _, rfl, _, rfl, _, rfl, _, rfl, z, rfl, z16, _, rfl, by show 2 ≤ sizeLine; decide, fun p np => q p np⟩
    have k2 : (i : Int) + (j : Int) < (i : Int) + 12 := of_decide_eq_true c2
    have hin : i + j < z.cps.toList.length := by omega
    have gt : (z.cps.toList.drop i)[j]? = some z.cps.toList[i + j] := by rw [List.getElem?_drop, List.getElem?_eq_getElem hin]
    have at_ : atI z.cps.toList ((i : Int) + (j : Int)) = some z.cps.toList[i + j] := by
      rw [show (i : Int) + (j : Int) = ((i + j : Nat) : Int) by omega]
      exact atI_nat (List.getElem?_eq_getElem hin)
    refine ⟨_, rfl, _, rfl, z, _, _, rfl, rfl, z16, at_, _, lettersT, rfl, rfl, _, rfl, ite2 (fun c3 => ?_) (fun c3 => ?_)⟩
    · have lt : j < L := stp.mpr ⟨by omega, _, gt, c3⟩
      refine ⟨fun σ' H2 => H2 = H' ∧ σ' = [some (.str z), some (.int i), some (.int ((i : Int) + ((j + 1 : Nat) : Int)))], fun σ' H2 ⟨e1, e2⟩ => ⟨L - (j + 1), by omega, e1, j + 1, lt, rfl, e2⟩, ?_⟩
      refine ⟨_, rfl, _, _, rfl, rfl, rfl, ?_⟩
      rw [show (i : Int) + ((j + 1 : Nat) : Int) = (i : Int) + (j : Int) + 1 by omega]
      rfl
    · have nl : ¬ j < L := fun k => by
        obtain ⟨-, c, e1, e2⟩ := stp.mp k
        rw [gt] at e1
        cases e1
        exact c3 e2
      obtain rfl : j = L := by omega
      exact ⟨_, rfl, _, rfl, _, rfl, _, rfl, _, rfl, z, rfl, z16, _, rfl, by show 2 ≤ sizeLine; decide, fun p np => q p np⟩
end
end K04

set_option maxRecDepth 100000
set_option maxHeartbeats 4000000
namespace K04
open PySem PySem.Spec PyProof.Rows L2 Q RZ RT
/-- a figure -/
def figC (c : Nat) : Bool := decide (c ∈ (("0123456789" : Str)).cps.toList)
/-- the figures that begin at st -/
def numTail (l : List Nat) (neg : Bool) (st : Nat) : Except Nat (Int × Nat) :=
  match l[st]? with
  | none => .error st
  | some c => if figC c = true ∧ c ≠ 48 then .ok ((if neg = true then -1 else 1) * ((PySem.NumText.digitsVal ((l.drop st).take (runLen figC 400 (l.drop st))) : Nat) : Int), st + runLen figC 400 (l.drop st)) else .error st
/-- the number that begins at a place: itself and its end; or the place of the fault -/
def numFrom (l : List Nat) (i : Nat) : Except Nat (Int × Nat) :=
  if l[i]? = some 48 then .ok (0, i + 1)
  else if l[i]? = some 45 then numTail l true (i + 1) else numTail l false i
theorem figs_list : (("0123456789" : Str)).cps.toList = [48, 49, 50, 51, 52, 53, 54, 55, 56, 57] := by decide +kernel
theorem fig_iff {c : Nat} : figC c = true ↔ 48 ≤ c ∧ c ≤ 57 := by
  show decide (c ∈ (("0123456789" : Str)).cps.toList) = true ↔ _
  rw [decide_eq_true_iff, figs_list]
  simp only [List.mem_cons, List.not_mem_nil, or_false]
  omega
/-- n signs from a place on -/
def subS (l : List Nat) (i n : Nat) : Str := ⟨((l.drop i).take n).toArray⟩
theorem cut_sub {z : Str} {i n : Nat} (h : i + n ≤ z.length) : cutS z (some (i : Int)) (some ((i : Int) + (n : Int))) = subS z.cps.toList i n := by
  unfold cutS subS
  rw [show (i : Int) + (n : Int) = ((i + n : Nat) : Int) by omega, HT.sIx_nat, HT.sIx_nat, Nat.min_eq_left (by omega), Nat.min_eq_left (by omega), Nat.add_sub_cancel_left]
theorem run_all (p : Nat → Bool) : ∀ (k : Nat) (l : List Nat), ∀ c ∈ l.take (runLen p k l), p c = true
  | 0, _, c, h => by simp [runLen] at h
  | k + 1, [], c, h => by simp at h
  | k + 1, d :: l, c, h => by
    unfold runLen at h
    split at h
    · rename_i hd
      rw [List.take_succ_cons] at h
      rcases List.mem_cons.mp h with rfl | h
      · exact hd
      · exact run_all p k l c h
    · simp at h
theorem num_cut {z : Str} {i st L : Nat} {neg : Bool} (h : (neg = true ∧ st = i + 1 ∧ z.cps.toList[i]? = some 45) ∨ (neg = false ∧ st = i)) (h0 : 0 < L) (hb : st + L ≤ z.length) (h4 : L ≤ 400) (hd : ∀ c ∈ (z.cps.toList.drop st).take L, figC c = true) :
    intText? (cutS z (some (i : Int)) (some ((st : Int) + (L : Int)))) = some ((if neg = true then -1 else 1) * ((PySem.NumText.digitsVal ((z.cps.toList.drop st).take L) : Nat) : Int)) ∧ (cutS z (some (i : Int)) (some ((st : Int) + (L : Int)))).length ≤ 640 := by
  have zl : z.cps.toList.length = z.length := Array.length_toList
  have ad : NumText.AllDigits ((z.cps.toList.drop st).take L) := fun c m => fig_iff.mp (hd c m)
  have ne : (z.cps.toList.drop st).take L ≠ [] := fun e => by
    have := congrArg List.length e
    rw [List.length_take, List.length_drop, zl, List.length_nil] at this
    omega
  have ll : ((z.cps.toList.drop st).take L).length ≤ 400 := by
    rw [List.length_take]
    omega
  rcases h with ⟨rfl, rfl, h45⟩ | ⟨rfl, rfl⟩
  · have e : cutS z (some (i : Int)) (some (((i + 1 : Nat) : Int) + (L : Int))) = subS z.cps.toList i (L + 1) := by
      rw [← cut_sub (by omega), show ((i + 1 : Nat) : Int) + (L : Int) = (i : Int) + ((L + 1 : Nat) : Int) by omega]
    have hi : i < z.cps.toList.length := (List.getElem?_eq_some_iff.mp h45).1
    have e2 : (subS z.cps.toList i (L + 1)).cps.toList = 45 :: (z.cps.toList.drop (i + 1)).take L := by
      show (z.cps.toList.drop i).take (L + 1) = _
      rw [List.drop_eq_getElem_cons hi, List.take_succ_cons, (List.getElem?_eq_some_iff.mp h45).2]
    have l2 : (subS z.cps.toList i (L + 1)).length ≤ 640 := by
      show (((z.cps.toList.drop i).take (L + 1)).toArray).size ≤ 640
      rw [List.size_toArray, List.length_take]
      omega
    rw [e]
    refine ⟨?_, l2⟩
    rw [intText_neg e2 ad ne (by omega)]
    show some _ = some (-1 * _)
    congr 1
    omega
  · have e : cutS z (some (st : Int)) (some ((st : Int) + (L : Int))) = subS z.cps.toList st L := cut_sub hb
    have l2 : (subS z.cps.toList st L).length ≤ 640 := by
      show (((z.cps.toList.drop st).take L).toArray).size ≤ 640
      rw [List.size_toArray]
      omega
    rw [e]
    refine ⟨?_, l2⟩
    rw [intText_digits (x := subS z.cps.toList st L) ad ne (by omega)]
    show some _ = some (1 * _)
    congr 1
    show ((NumText.digitsVal ((z.cps.toList.drop st).take L) : Nat) : Int) = _
    omega
section
variable {P : Program} {w : World} {K : PySem.W.Frag} {mg : Str → Option Value} {base : Heap} {f : Addr} {fd : FuncData}
theorem ok_badtext (T : Tx K mg) : ∃ fd, FnOk P w K mg base CX0 1 (He.ma K (He.ga K "BadText") "__init__") fd ["self", "place"] (spXI (He.ga K "BadText") 1 fun vs => [("place", vs.getD 0 .non)]) ∧ Binds K fd ["self", "place"] [] := by
  obtain ⟨fd, F⟩ := T.d_BadText___init__
  refine ⟨fd, F.ok sc_BadText___init__ (fun vs H Q E h => ?_) (fun cdv A outer s H vs Q E hr h => ?_), F.bindsN fun _ _ _ _ _ _ us hl => match us, hl with | [_, _], _ => rfl⟩
  · obtain ⟨a, ws, rfl, hl, _⟩ := h
    show ws.length + 1 = 2
    omega
  · obtain ⟨a, ws, rfl, hl, ha, q⟩ := h
    match ws, hl with
    | [x], _ =>
      refine ⟨_, PSs.nox (pss_one (ps_ost (pv 0) (pv 1))), ?_⟩
      refine ⟨_, rfl, _, rfl, a, _, rfl, T.o_BadText, T.noat_BadText_place, .inl ⟨ha, fun dx nd ne => ?_⟩⟩
      exact q dx nd ne
theorem one_sign {a b : Nat} {z : Str} (hz : z = ⟨#[b]⟩) : decide (V.str ⟨#[a]⟩ = V.str z) = true ↔ a = b := by
  subst hz
  simp
theorem s0 : (("0" : Str)) = ⟨#[48]⟩ := by decide +kernel
theorem sM : (("-" : Str)) = ⟨#[45]⟩ := by decide +kernel
def spNumFrom (K : PySem.W.Frag) : Sp := fun vs H Q E => ∃ (z : Str) (i : Nat), vs = [.str z, .int i] ∧ z.length ≤ 4000000 ∧ i < z.length ∧
  (∀ n e, numFrom z.cps.toList i = .ok (n, e) → ∀ p, H p = none → Q (.ref p) (upd H p (.tup [.int n, .int e]))) ∧
  (∀ st, numFrom z.cps.toList i = .error st → ∀ d, H d = none → E (.ref (He.ga K "BadText")) (some d) (upd H d (.xd [("place", .int st)])))
theorem C_number_from (T : Tx K mg) : Cal P w K mg base (L2.CX P w) 3 "number_from" ["text", "at"] [] (spNumFrom K) := by
  obtain ⟨fd, F⟩ := T.d_number_from
  obtain ⟨fdX, G_BadText, b_BadText⟩ := ok_badtext (P := P) (w := w) (base := base) T
  refine ⟨_, fd, [], F.ok sc_number_from (fun vs H Q E h => ?_) (fun cdv A outer s H vs Q E hr h => ?_), T.g_number_from, F.kp, F.bindsN fun _ _ _ _ _ _ us hl => match us, hl with | [_, _], _ => rfl, .nil⟩
  · obtain ⟨z, i, rfl, _⟩ := h
    rfl
  · obtain ⟨z, i, rfl, hz, hi, q, qe⟩ := h
    refine ⟨_, (pss_cons (ps_if (pt_cmpR op_eq (pe_ix ix_str (pv 0) (pv 1) (fun _ _ => rfl)) pe_str (nomark _))
        (pss_one (ps_ret (pe_tup (pa_cons pe_int (pa_cons (pe_op op_add (pv 1) pe_int) pa_nil)))))
        pss_nil)
      (pss_cons (ps_set (i := 2) sc_number_from.nd rfl (Or.inl rfl) (pv 1))
      (C8.pss_cut (ps_if (pt_cmpR op_eq (pe_ix ix_str (pv 0) (pv 1) (fun _ _ => rfl)) pe_str (nomark _))
        (pss_one (ps_set (i := 2) sc_number_from.nd rfl (Or.inl rfl) (pe_op op_add (pv 1) pe_int)))
        pss_nil)
      (pss_cons (ps_if (PW.pt (pw_or (pt_cmpR op_eq (pv 2) (pe_callB call_len_str (by rfl) T.n_len (by decide +kernel) (pa_cons (pv 0) pa_nil)) (nomark _)) (pw_or (pt_cmpR op_notIn_sign (pe_ix ix_str (pv 0) (pv 2) (fun _ _ => rfl)) (pe_gstr T.c_FIGURES) rfl) (pw_or1 (pt_cmpR op_eq (pe_ix ix_str (pv 0) (pv 2) (fun _ _ => rfl)) pe_str (nomark _))))))
        (pss_one (ps_raise rfl (takes_of rfl rfl rfl rfl) (pmk_fld T.o_BadText T.i_BadText T.t_BadText G_BadText (hr.mono (by decide)) b_BadText pass0 T.g_BadText (by decide) (pa_cons (pv 2) pa_nil) (fun _ _ _ _ h z => let ⟨v1, e1, z⟩ := z; ⟨v1, e1, h _ _ z⟩))))
        pss_nil)
      (pss_cons (ps_set (i := 3) sc_number_from.nd rfl (Or.inl rfl) (pv 2))
      (pss_cons (ps_while (passes_of rfl) (PW.pt (pw_and (pt_cmpR op_lt (pv 3) (pe_callB call_len_str (by rfl) T.n_len (by decide +kernel) (pa_cons (pv 0) pa_nil)) (nomark _)) (pw_and (pt_cmpR op_lt (pv 3) (pe_op op_add (pv 2) (pe_gint T.c_MOST_FIGURES)) (nomark _)) (pw_and1 (pt_cmpR op_in_sign (pe_ix ix_str (pv 0) (pv 3) (fun _ _ => rfl)) (pe_gstr T.c_FIGURES) rfl)))))
        (pss_one (ps_aug (i := 3) sc_number_from.nd rfl (Or.inl rfl) pe_int ip_add)))
      (pss_one (ps_ret (pe_tup (pa_cons (pe_callTy call_int_str (by rfl) T.n_int (by decide +kernel) (pa_cons (pe_slice sl_str (pv 0) (po_some (pv 1)) (po_some (pv 3))) pa_nil)) (pa_cons (pv 3) pa_nil))))))))))), ?_⟩
    have z16 : z.length ≤ sizeLine := Nat.le_trans hz (by decide)
    have hin : i < z.cps.toList.length := by rw [Array.length_toList]; exact hi
    have gi : z.cps.toList[i]? = some z.cps.toList[i] := List.getElem?_eq_getElem hin
    refine ⟨_, rfl, _, rfl, z, _, _, rfl, rfl, z16, atI_nat gi, rfl, _, rfl, ite2 (fun c => ?_) (fun c => ?_)⟩
    · have c0 : z.cps.toList[i] = 48 := (one_sign s0).mp c
      have e : numFrom z.cps.toList i = .ok (0, i + 1) := by
        unfold numFrom
        rw [if_pos (by rw [gi, c0])]
      refine ⟨_, rfl, _, _, rfl, rfl, (by show 2 ≤ sizeLine; decide), fun p np => q _ _ e p np⟩
    · have n0 : z.cps.toList[i] ≠ 48 := fun k => c ((one_sign s0).mpr k)
      refine ⟨_, rfl, fun σ H' => H' = H ∧ ∃ st : Nat, σ = [some (.str z), some (.int i), some (.int st), none] ∧ ((st = i ∧ z.cps.toList[i] ≠ 45) ∨ (st = i + 1 ∧ z.cps.toList[i] = 45)), ?_, ?_⟩
      · refine ⟨_, rfl, _, rfl, z, _, _, rfl, rfl, z16, atI_nat gi, rfl, _, rfl, ite2 (fun c1 => ?_) (fun c1 => ?_)⟩
        · exact ⟨_, rfl, _, _, rfl, rfl, rfl, i + 1, rfl, .inr ⟨rfl, (one_sign sM).mp c1⟩⟩
        · exact ⟨rfl, i, rfl, .inl ⟨rfl, fun k => c1 ((one_sign sM).mpr k)⟩⟩
      · rintro σ H' ⟨rfl, st, rfl, hst⟩
        obtain ⟨neg, enum, hneg⟩ : ∃ neg, numFrom z.cps.toList i = numTail z.cps.toList neg st ∧ ((neg = true ∧ st = i + 1 ∧ z.cps.toList[i]? = some 45) ∨ (neg = false ∧ st = i)) := by
          have n0' : ¬ z.cps.toList[i]? = some 48 := by rw [gi]; intro k; exact n0 (Option.some.inj k)
          unfold numFrom
          rw [if_neg n0']
          rcases hst with ⟨rfl, h⟩ | ⟨rfl, h⟩
          · exact ⟨false, by rw [if_neg (by rw [gi]; intro k; exact h (Option.some.inj k))], .inr ⟨rfl, rfl⟩⟩
          · exact ⟨true, by rw [if_pos (by rw [gi, h])], .inl ⟨rfl, rfl, by rw [gi, h]⟩⟩
        rw [enum] at q qe
        have fault : ∀ (R : Value → Option Addr → Hp → Prop), (∀ d, H' d = none → R (.ref (He.ga K "BadText")) (some d) (upd H' d (.xd [("place", .int st)]))) → tMkF (He.ga K (Str.ofString "BadText")) 1 (fun vs => [(Str.ofString "place", vs.getD 0 V.non)]) (tCons (tVar 2) tNil) [some (.str z), some (.int i), some (.int st), none] H' R := fun R h => ⟨_, rfl, rfl, fun d nd => h d nd⟩
        refine ⟨_, rfl, _, rfl, z, rfl, z16, rfl, _, rfl, ite2 (fun c1 => ?_) (fun c1 => ?_)⟩
        · have e0 : st = z.length := by
            have : (st : Int) = (z.length : Int) := by simpa using c1
            omega
          have ef : numTail z.cps.toList neg st = .error st := by
            unfold numTail
            rw [List.getElem?_eq_none (by rw [Array.length_toList]; exact Nat.le_of_eq e0.symm)]
          exact iteT (fault _ fun d nd => qe st ef d nd)
        have hst2 : st < z.cps.toList.length := by
          rw [Array.length_toList]
          have : ¬ (st : Int) = (z.length : Int) := fun k => c1 (by simpa using k)
          rcases hst with ⟨rfl, _⟩ | ⟨rfl, _⟩
          · exact hi
          · have : z.cps.size = z.length := rfl
            omega
        have gs : z.cps.toList[st]? = some z.cps.toList[st] := List.getElem?_eq_getElem hst2
        refine ⟨_, rfl, _, rfl, z, _, _, rfl, rfl, z16, atI_nat gs, _, _, rfl, rfl, _, rfl, ite2 (fun c2 => ?_) (fun c2 => ?_)⟩
        · have nf : ¬ figC z.cps.toList[st] = true := by
            intro k
            have k' : decide (z.cps.toList[st] ∈ (("0123456789" : Str)).cps.toList) = true := k
            rw [k'] at c2
            exact absurd c2 (by decide)
          have ef : numTail z.cps.toList neg st = .error st := by
            unfold numTail
            rw [gs]
            exact if_neg fun k => nf k.1
          exact iteT (fault _ fun d nd => qe st ef d nd)
        have fg : figC z.cps.toList[st] = true := by
          show decide (z.cps.toList[st] ∈ (("0123456789" : Str)).cps.toList) = true
          cases k : decide (z.cps.toList[st] ∈ (("0123456789" : Str)).cps.toList) with
          | true => rfl
          | false => rw [k] at c2; exact absurd rfl c2
        refine ⟨_, rfl, _, rfl, z, _, _, rfl, rfl, z16, atI_nat gs, rfl, _, rfl, ite2 (fun c3 => ?_) (fun c3 => ?_)⟩
        · have ef : numTail z.cps.toList neg st = .error st := by
            unfold numTail
            rw [gs]
            exact if_neg fun k => k.2 ((one_sign s0).mp c3)
          exact fault E fun d nd => qe st ef d nd
        · have n48 : z.cps.toList[st] ≠ 48 := fun k => c3 ((one_sign s0).mpr k)
          have zl : z.cps.toList.length = z.length := Array.length_toList
          obtain ⟨r1, r2⟩ := run_le figC 400 (z.cps.toList.drop st)
          rw [List.length_drop, zl] at r2
          have r0 : 0 < runLen figC 400 (z.cps.toList.drop st) := (run_step figC 400 (z.cps.toList.drop st) 0 (Nat.zero_le _)).mpr ⟨by omega, _, by rw [List.getElem?_drop, Nat.add_zero]; exact gs, fg⟩
          have et : numTail z.cps.toList neg st = .ok ((if neg = true then -1 else 1) * ((PySem.NumText.digitsVal ((z.cps.toList.drop st).take (runLen figC 400 (z.cps.toList.drop st))) : Nat) : Int), st + runLen figC 400 (z.cps.toList.drop st)) := by
            unfold numTail
            rw [gs]
            exact if_pos ⟨fg, n48⟩
          obtain ⟨rd, rl⟩ := num_cut hneg r0 (by omega) r1 (run_all figC 400 _)
          have q' := q _ _ et
          clear q qe fault et
          generalize hV : PySem.NumText.digitsVal ((z.cps.toList.drop st).take (runLen figC 400 (z.cps.toList.drop st))) = V at rd q'
          generalize hL : runLen figC 400 (z.cps.toList.drop st) = L at rd rl q' r0 r1 r2
          refine ⟨_, rfl, fun m σ H2 => H2 = H' ∧ ∃ j, j ≤ L ∧ m = L - j ∧ σ = [some (.str z), some (.int i), some (.int st), some (.int ((st : Int) + (j : Int)))], ⟨L, rfl, 0, Nat.zero_le _, rfl, by rw [show ((st : Int) + ((0 : Nat) : Int)) = (st : Int) by omega]; rfl⟩, ?_⟩
          rintro m σ H2 ⟨rfl, j, hj, rfl, rfl⟩
          have stp := run_step figC 400 (z.cps.toList.drop st) j (by rw [hL]; exact hj)
          rw [hL] at stp
          rw [Int.natCast_add] at q'
          have hin2 : j < L → st + j < z.cps.toList.length := fun k => by omega
          refine ⟨_, rfl, _, rfl, z, rfl, z16, _, _, rfl, rfl, _, rfl, ite2 (fun c1 => ?_) (fun c1 => ?_)⟩
          case refine_2 =>
            have k1 : ¬ ((st : Int) + (j : Int) < (z.length : Int)) := fun k => c1 (decide_eq_true k)
            obtain rfl : j = L := by omega
            exact ⟨_, rfl, _, rfl, _, rfl, _, rfl, _, rfl, z, rfl, z16, _, _, rfl, rd, rl, _, rfl, by show 2 ≤ sizeLine; decide, fun p np => q' p np⟩
          have k1 : (st : Int) + (j : Int) < (z.length : Int) := of_decide_eq_true c1
          refine ⟨_, rfl, _, rfl, _, _, rfl, rfl, _, _, rfl, rfl, _, rfl, ite2 (fun c2 => ?_) (fun c2 => ?_)⟩
          case refine_2 =>
            have k2 : ¬ ((st : Int) + (j : Int) < (st : Int) + 400) := fun k => c2 (decide_eq_true k)
            obtain rfl : j = L := by omega
            exact ⟨_, rfl, _, rfl, _, rfl, _, rfl, _, rfl, z, rfl, z16, _, _, rfl, rd, rl, _, rfl, by show 2 ≤ sizeLine; decide, fun p np => q' p np⟩
          have k2 : (st : Int) + (j : Int) < (st : Int) + 400 := of_decide_eq_true c2
          have hj2 : st + j < z.cps.toList.length := by omega
          have gt : (z.cps.toList.drop st)[j]? = some z.cps.toList[st + j] := by rw [List.getElem?_drop, List.getElem?_eq_getElem hj2]
          have at_ : atI z.cps.toList ((st : Int) + (j : Int)) = some z.cps.toList[st + j] := by
            rw [show (st : Int) + (j : Int) = ((st + j : Nat) : Int) by omega]
            exact atI_nat (List.getElem?_eq_getElem hj2)
          refine ⟨_, rfl, _, rfl, z, _, _, rfl, rfl, z16, at_, _, _, rfl, rfl, _, rfl, ite2 (fun c3 => ?_) (fun c3 => ?_)⟩
          · have lt : j < L := stp.mpr ⟨by omega, _, gt, c3⟩
            refine ⟨fun σ' H3 => H3 = H2 ∧ σ' = [some (.str z), some (.int i), some (.int st), some (.int ((st : Int) + ((j + 1 : Nat) : Int)))], fun σ' H3 ⟨e1, e2⟩ => ⟨L - (j + 1), by omega, e1, j + 1, lt, rfl, e2⟩, ?_⟩
            refine ⟨_, rfl, _, _, rfl, rfl, rfl, ?_⟩
            rw [show (st : Int) + ((j + 1 : Nat) : Int) = (st : Int) + (j : Int) + 1 by omega]
            rfl
          · have nl : ¬ j < L := fun k => by
              obtain ⟨-, c, e1, e2⟩ := stp.mp k
              rw [gt] at e1
              cases e1
              exact c3 e2
            obtain rfl : j = L := by omega
            exact ⟨_, rfl, _, rfl, _, rfl, _, rfl, _, rfl, z, rfl, z16, _, _, rfl, rd, rl, _, rfl, by show 2 ≤ sizeLine; decide, fun p np => q' p np⟩
end
end K04

set_option maxRecDepth 100000
set_option maxHeartbeats 4000000
namespace K04
open PySem PySem.Spec PyProof.Rows L2 Q RZ RT
/-! ### what item_from computes -/
def loopF (f : Nat → Except Nat (PT × Nat)) (l : List Nat) : Nat → Nat → List PT → Except Nat (PT × Nat)
  | 0, i, _ => .error i
  | k + 1, i, acc => match f i with
    | .error e => .error e
    | .ok (t, e) => if l[e]? = some 93 then .ok (.seq (acc ++ [t]), e + 1) else if l[e]? = some 44 then loopF f l k (e + 1) (acc ++ [t]) else .error e
def nameAt (l : List Nat) (i : Nat) : PT × Nat := (.name (subS l i (runLen small 12 (l.drop i))), i + runLen small 12 (l.drop i))
def itemF (l : List Nat) : Nat → Nat → Except Nat (PT × Nat)
  | 0, i => match l[i]? with
    | none => .error i
    | some c => if small c = true then .ok (nameAt l i) else if c = 45 ∨ figC c = true then (match numFrom l i with
      | .ok (v, e) => .ok (.num v, e)
      | .error e => .error e) else .error i
  | n + 1, i => match l[i]? with
    | none => .error i
    | some c => if small c = true then .ok (nameAt l i) else if c = 45 ∨ figC c = true then (match numFrom l i with
      | .ok (v, e) => .ok (.num v, e)
      | .error e => .error e) else if c ≠ 91 then .error i else if l[i + 1]? = some 93 then .ok (.seq [], i + 2) else loopF (itemF l n) l (l.length + 1) (i + 1) []
/-- what is read lies behind the place, within the text -/
def Fwd (l : List Nat) (f : Nat → Except Nat (PT × Nat)) : Prop := ∀ i t e, f i = .ok (t, e) → i < e ∧ e ≤ l.length
theorem loop_fwd {l : List Nat} {f : Nat → Except Nat (PT × Nat)} (h : Fwd l f) : ∀ (k i : Nat) (acc : List PT) (t : PT) (e : Nat), loopF f l k i acc = .ok (t, e) → i < e ∧ e ≤ l.length
  | 0, i, acc, t, e, q => by cases q
  | k + 1, i, acc, t, e, q => by
    unfold loopF at q
    cases z : f i with
    | error e' => rw [z] at q; cases q
    | ok r =>
      obtain ⟨t', e'⟩ := r
      obtain ⟨h1, h2⟩ := h i t' e' z
      rw [z] at q
      simp only at q
      split at q
      · rename_i c
        have := (List.getElem?_eq_some_iff.mp c).1
        cases q
        omega
      · split at q
        · obtain ⟨a, b⟩ := loop_fwd h k (e' + 1) _ t e q
          omega
        · cases q
theorem num_fwd {l : List Nat} {i : Nat} {v : Int} {e : Nat} (h : numFrom l i = .ok (v, e)) : i < e ∧ e ≤ l.length := by
  have tail : ∀ {neg : Bool} {st : Nat}, numTail l neg st = .ok (v, e) → st < e ∧ e ≤ l.length := fun {neg st} h => by
    unfold numTail at h
    cases z : l[st]? with
    | none => rw [z] at h; cases h
    | some c =>
      rw [z] at h
      simp only at h
      have lt := (List.getElem?_eq_some_iff.mp z).1
      split at h
      · rename_i hc
        obtain ⟨r1, r2⟩ := run_le figC 400 (l.drop st)
        have r0 : 0 < runLen figC 400 (l.drop st) := (run_step figC 400 (l.drop st) 0 (Nat.zero_le _)).mpr ⟨by omega, _, by rw [List.getElem?_drop, Nat.add_zero]; exact z, hc.1⟩
        rw [List.length_drop] at r2
        cases h
        omega
      · cases h
  unfold numFrom at h
  split at h
  · rename_i c
    have := (List.getElem?_eq_some_iff.mp c).1
    cases h
    omega
  · split at h
    · have := tail h
      omega
    · exact tail h
theorem name_fwd {l : List Nat} {i c : Nat} (hc : l[i]? = some c) (hs : small c = true) : i < (nameAt l i).2 ∧ (nameAt l i).2 ≤ l.length := by
  have lt := (List.getElem?_eq_some_iff.mp hc).1
  obtain ⟨r1, r2⟩ := run_le small 12 (l.drop i)
  have r0 : 0 < runLen small 12 (l.drop i) := (run_step small 12 (l.drop i) 0 (Nat.zero_le _)).mpr ⟨by omega, _, by rw [List.getElem?_drop, Nat.add_zero]; exact hc, hs⟩
  rw [List.length_drop] at r2
  show i < i + runLen small 12 (l.drop i) ∧ i + runLen small 12 (l.drop i) ≤ l.length
  omega
theorem item_fwd (l : List Nat) : ∀ n, Fwd l (itemF l n)
  | 0, i, t, e, h => by
    unfold itemF at h
    cases z : l[i]? with
    | none => rw [z] at h; cases h
    | some c =>
      rw [z] at h
      simp only at h
      split at h
      · rename_i hs
        have := name_fwd z hs
        injection h with h
        rw [h] at this
        exact this
      · split at h
        · cases y : numFrom l i with
          | error e' => rw [y] at h; cases h
          | ok r =>
            obtain ⟨v, e'⟩ := r
            rw [y] at h
            cases h
            exact num_fwd y
        · cases h
  | n + 1, i, t, e, h => by
    unfold itemF at h
    cases z : l[i]? with
    | none => rw [z] at h; cases h
    | some c =>
      rw [z] at h
      simp only at h
      split at h
      · rename_i hs
        have := name_fwd z hs
        injection h with h
        rw [h] at this
        exact this
      · split at h
        · cases y : numFrom l i with
          | error e' => rw [y] at h; cases h
          | ok r =>
            obtain ⟨v, e'⟩ := r
            rw [y] at h
            cases h
            exact num_fwd y
        · split at h
          · cases h
          · split at h
            · rename_i c2
              have := (List.getElem?_eq_some_iff.mp c2).1
              cases h
              omega
            · have := loop_fwd (item_fwd l n) _ _ _ _ _ h
              omega
/-- the value at v is the data t, tuples alone -/
inductive Rt (H : Hp) : V → PT → Prop
  | name (x : Str) : Rt H (.str x) (.name x)
  | num (i : Int) : Rt H (.int i) (.num i)
  | tup {a : Addr} {xs : List V} {ds : List PT} (e : H a = some (.tup xs)) (l : xs.length = ds.length) (r : ∀ (i : Nat) (x : V) (d : PT), xs[i]? = some x → ds[i]? = some d → Rt H x d) : Rt H (.ref a) (.seq ds)
theorem Rt.keep {H H' : Hp} {v : V} {t : PT} (h : Rt H v t) (e : ∀ a xs, H a = some (.tup xs) → H' a = some (.tup xs)) : Rt H' v t := by
  induction h with
  | name x => exact .name x
  | num i => exact .num i
  | tup a l r ih => exact .tup (e _ _ a) l ih
theorem Rt.same {H H' : Hp} {v : V} {t : PT} (h : Rt H v t) (e : Same H H') : Rt H' v t := h.keep fun a xs z => e _ _ z
theorem none_same {H H' : Hp} {d : Addr} (s : Same H H') (h : H' d = none) : H d = none := by
  cases e : H d with
  | none => rfl
  | some o => rw [s _ _ e] at h; cases h
theorem same_put {H H' : Hp} {d : Addr} {o : HO} (s : Same H H') (h : H d = none) : Same H (upd H' d o) := fun b x e => by
  rw [upd_ne (fun q => by rw [q, h] at e; cases e)]
  exact s _ _ e
theorem item_none {l : List Nat} {n i : Nat} (h : l[i]? = none) : itemF l n i = .error i := by
  cases n <;> (unfold itemF; rw [h])
theorem item_name {l : List Nat} {n i c : Nat} (h : l[i]? = some c) (hc : small c = true) : itemF l n i = .ok (nameAt l i) := by
  cases n <;> (unfold itemF; rw [h]; exact if_pos hc)
theorem item_num {l : List Nat} {n i c : Nat} (h : l[i]? = some c) (h1 : ¬ small c = true) (hc : c = 45 ∨ figC c = true) : itemF l n i = (match numFrom l i with
    | .ok (v, e) => .ok (.num v, e)
    | .error e => .error e) := by
  cases n <;> (unfold itemF; rw [h]; simp only; rw [if_neg h1, if_pos hc]) <;> rfl
theorem item_bad {l : List Nat} {n i c : Nat} (h : l[i]? = some c) (h1 : ¬ small c = true) (h2 : ¬ (c = 45 ∨ figC c = true)) (hc : c ≠ 91 ∨ n = 0) : itemF l n i = .error i := by
  cases n with
  | zero => unfold itemF; rw [h]; simp only; rw [if_neg h1, if_neg h2]
  | succ n =>
    unfold itemF
    rw [h]
    simp only
    rw [if_neg h1, if_neg h2, if_pos (hc.elim id fun z => absurd z (Nat.succ_ne_zero _))]
theorem item_empty {l : List Nat} {n i c : Nat} (h : l[i]? = some c) (h1 : ¬ small c = true) (h2 : ¬ (c = 45 ∨ figC c = true)) (hc : c = 91) (h3 : l[i + 1]? = some 93) : itemF l (n + 1) i = .ok (.seq [], i + 2) := by
  unfold itemF
  rw [h]
  simp only
  rw [if_neg h1, if_neg h2, if_neg (fun z => z hc), if_pos h3]
theorem item_more {l : List Nat} {n i c : Nat} (h : l[i]? = some c) (h1 : ¬ small c = true) (h2 : ¬ (c = 45 ∨ figC c = true)) (hc : c = 91) (h3 : ¬ l[i + 1]? = some 93) : itemF l (n + 1) i = loopF (itemF l n) l (l.length + 1) (i + 1) [] := by
  show (match l[i]? with | none => _ | some c => _) = _
  rw [h]
  simp only
  rw [if_neg h1, if_neg h2, if_neg (fun z => z hc), if_neg h3]
theorem loop_err {l : List Nat} {f : Nat → Except Nat (PT × Nat)} {k j e : Nat} {acc : List PT} (h : f j = .error e) : loopF f l (k + 1) j acc = .error e := by
  show (match f j with | .error e => _ | .ok (t, e) => _) = _
  rw [h]
theorem loop_ok {l : List Nat} {f : Nat → Except Nat (PT × Nat)} {k j e : Nat} {t : PT} {acc : List PT} (h : f j = .ok (t, e)) : loopF f l (k + 1) j acc = if l[e]? = some 93 then .ok (.seq (acc ++ [t]), e + 1) else if l[e]? = some 44 then loopF f l k (e + 1) (acc ++ [t]) else .error e := by
  show (match f j with | .error e => _ | .ok (t, e) => _) = _
  rw [h]
def RtL (H : Hp) (xs : List V) (ds : List PT) : Prop := xs.length = ds.length ∧ ∀ (i : Nat) (x : V) (d : PT), xs[i]? = some x → ds[i]? = some d → Rt H x d
theorem RtL.keep {H H' : Hp} {xs : List V} {ds : List PT} (h : RtL H xs ds) (e : ∀ a xs, H a = some (.tup xs) → H' a = some (.tup xs)) : RtL H' xs ds := ⟨h.1, fun i x d hx hd => (h.2 i x d hx hd).keep e⟩
theorem RtL.snoc {H : Hp} {xs : List V} {ds : List PT} {x : V} {d : PT} (h : RtL H xs ds) (hx : Rt H x d) : RtL H (xs ++ [x]) (ds ++ [d]) := by
  refine ⟨by rw [List.length_append, List.length_append, h.1]; rfl, fun i y e hy he => ?_⟩
  by_cases c : i < xs.length
  · rw [List.getElem?_append_left c] at hy
    rw [List.getElem?_append_left (by have := h.1; omega)] at he
    exact h.2 i y e hy he
  · have c1 := (List.getElem?_eq_some_iff.mp hy).1
    rw [List.length_append] at c1
    have c2 : [x].length = 1 := rfl
    have e1 : i = xs.length := by omega
    subst e1
    rw [List.getElem?_append_right (Nat.le_refl _), Nat.sub_self] at hy
    rw [h.1, List.getElem?_append_right (Nat.le_refl _), Nat.sub_self] at he
    cases hy
    cases he
    exact hx
theorem sB : (("[" : Str)) = ⟨#[91]⟩ := by decide +kernel
theorem sE : (("]" : Str)) = ⟨#[93]⟩ := by decide +kernel
theorem sC : (("," : Str)) = ⟨#[44]⟩ := by decide +kernel
section
variable {P : Program} {w : World} {K : PySem.W.Frag} {mg : Str → Option Value} {base : Heap} {f : Addr} {fd : FuncData}
def spItem (K : PySem.W.Frag) (n : Nat) : Sp := fun vs H Q E => ∃ (z : Str) (i : Nat), vs = [.str z, .int i, .int (40 - (n : Int))] ∧ n ≤ 40 ∧ z.length ≤ 4000000 ∧ i ≤ z.length ∧
  (∀ t e, itemF z.cps.toList n i = .ok (t, e) → ∀ v p H', Rt H' v t → H' p = some (.tup [v, .int (e : Nat)]) → Same H H' → Q (.ref p) H') ∧
  (∀ e, itemF z.cps.toList n i = .error e → ∀ d H', Same H H' → H d = none → H' d = some (.xd [("place", .int (e : Nat))]) → E (.ref (He.ga K "BadText")) (some d) H')
/-- the loop over the parts -/
def ItemInv (H : Hp) (z : Str) (lp : Addr) (n i k : Nat) (σ : L2.St) (H' : Hp) : Prop := ∃ (j : Nat) (acc : List PT) (xs : List V) (pt : Option V), z.length < j + k ∧ j ≤ z.length ∧ acc.length ≤ j ∧ σ = [some (.str z), some (.int j), some (.int (40 - ((n + 1 : Nat) : Int))), some (.ref lp), pt] ∧ Same H H' ∧
  H' lp = some (.lst xs) ∧ RtL H' xs acc ∧ loopF (itemF z.cps.toList n) z.cps.toList k j acc = itemF z.cps.toList (n + 1) i
theorem item_void (T : Tx K mg) : Cal P w K mg base (L2.CX P w) 3 "item_from" ["text", "at", "around"] [] (fun _ _ _ _ => False) := by
  obtain ⟨fd, F⟩ := T.d_item_from
  exact ⟨_, fd, [], ⟨fun _ _ _ _ z => z.elim, fun _ _ _ _ _ _ _ _ _ _ _ _ _ z => z.elim⟩, T.g_item_from, F.kp, F.bindsN fun _ _ _ _ _ _ us hl => match us, hl with | [_, _, _], _ => rfl, .nil⟩
theorem item_step (T : Tx K mg) {n : Nat} {sp : Sp} (C_item_from : Cal P w K mg base (L2.CX P w) (n + 3) "item_from" ["text", "at", "around"] [] sp) (up : n = 0 ∨ ∃ m, n = m + 1 ∧ sp = spItem K m) : Cal P w K mg base (L2.CX P w) (n + 4) "item_from" ["text", "at", "around"] [] (spItem K n) := by
  obtain ⟨fd, F⟩ := T.d_item_from
  obtain ⟨fdX, G_BadText, b_BadText⟩ := ok_badtext (P := P) (w := w) (base := base) T
  have C_name_from := C_name_from (P := P) (w := w) (base := base) T
  have C_number_from := C_number_from (P := P) (w := w) (base := base) T
  refine ⟨_, fd, [], F.ok sc_item_from (fun vs H Q E h => ?_) (fun cdv A outer s H vs Q E hr h => ?_), T.g_item_from, F.kp, F.bindsN fun _ _ _ _ _ _ us hl => match us, hl with | [_, _, _], _ => rfl, .nil⟩
  · obtain ⟨z, i, rfl, _⟩ := h
    rfl
  · obtain ⟨z, i, rfl, hn, hz, hi, q, qe⟩ := h
    refine ⟨_, (pss_cons (ps_if (pt_cmpR op_eq (pv 1) (pe_callB call_len_str (by rfl) T.n_len (by decide +kernel) (pa_cons (pv 0) pa_nil)) (nomark _))
        (pss_one (ps_raise rfl (takes_of rfl rfl rfl rfl) (pmk_fld T.o_BadText T.i_BadText T.t_BadText G_BadText (hr.mono (by omega)) b_BadText pass0 T.g_BadText (by decide) (pa_cons (pv 1) pa_nil) (fun _ _ _ _ h z => let ⟨v1, e1, z⟩ := z; ⟨v1, e1, h _ _ z⟩))))
        pss_nil)
      (pss_cons (ps_if (pt_cmpR op_in_sign (pe_ix ix_str (pv 0) (pv 1) (fun _ _ => rfl)) (pe_gstr T.c_SMALL) rfl)
        (pss_one (ps_ret (pe_cal C_name_from (hr.mono (by omega)) pass0 (pa_cons (pv 0) (pa_cons (pv 1) pa_nil)))))
        pss_nil)
      (pss_cons (ps_if (PW.pt (pw_or (pt_cmpR op_eq (pe_ix ix_str (pv 0) (pv 1) (fun _ _ => rfl)) pe_str (nomark _)) (pw_or1 (pt_cmpR op_in_sign (pe_ix ix_str (pv 0) (pv 1) (fun _ _ => rfl)) (pe_gstr T.c_FIGURES) rfl))))
        (pss_one (ps_ret (pe_cal C_number_from (hr.mono (by omega)) (passes_call (takes_of rfl rfl rfl rfl) (fun _ _ _ _ h => h)) (pa_cons (pv 0) (pa_cons (pv 1) pa_nil)))))
        pss_nil)
      (pss_cons (ps_if (PW.pt (pw_or (pt_cmpR op_ne (pe_ix ix_str (pv 0) (pv 1) (fun _ _ => rfl)) pe_str (nomark _)) (pw_or1 (pt_cmpR op_eq (pv 2) (pe_gint T.c_DEEPEST) (nomark _)))))
        (pss_one (ps_raise rfl (takes_of rfl rfl rfl rfl) (pmk_fld T.o_BadText T.i_BadText T.t_BadText G_BadText (hr.mono (by omega)) b_BadText pass0 T.g_BadText (by decide) (pa_cons (pv 1) pa_nil) (fun _ _ _ _ h z => let ⟨v1, e1, z⟩ := z; ⟨v1, e1, h _ _ z⟩))))
        pss_nil)
      (pss_cons (ps_set (i := 3) sc_item_from.nd rfl (Or.inl rfl) (pe_lst pa_nil))
      (pss_cons (ps_aug (i := 1) sc_item_from.nd rfl (Or.inl rfl) pe_int ip_add)
      (C8.pss_cut (ps_if (PW.pt (pw_and (pt_cmpR op_lt (pv 1) (pe_callB call_len_str (by rfl) T.n_len (by decide +kernel) (pa_cons (pv 0) pa_nil)) (nomark _)) (pw_and1 (pt_cmpR op_eq (pe_ix ix_str (pv 0) (pv 1) (fun _ _ => rfl)) pe_str (nomark _)))))
        (pss_one (ps_ret (pe_tup (pa_cons (pe_tup pa_nil) (pa_cons (pe_op op_add (pv 1) pe_int) pa_nil)))))
        pss_nil)
      (pss_one (ps_while (passes_of rfl) (pt_val pe_bl)
        (pss_cons (ps_asg (pe_cal C_item_from (hr.mono (by omega)) (passes_call (takes_of rfl rfl rfl rfl) (fun _ _ _ _ h => h)) (pa_cons (pv 0) (pa_cons (pv 1) (pa_cons (pe_op op_add (pv 2) pe_int) pa_nil)))) (pg_tup rfl (pgs_cons (pg_name (i := 4) sc_item_from.nd rfl (Or.inl rfl)) (pgs_cons (pg_name (i := 1) sc_item_from.nd rfl (Or.inl rfl)) pgs_nil))))
        (pss_cons (ps_expr (pe_bm PySem.F.plainAttrs_list PySem.F.slot_list_append PySem.F.type_list_append mt_append (pv 3) (pa_cons (pv 4) pa_nil)))
        (C8.pss_cut (ps_if (PW.pt (pw_and (pt_cmpR op_lt (pv 1) (pe_callB call_len_str (by rfl) T.n_len (by decide +kernel) (pa_cons (pv 0) pa_nil)) (nomark _)) (pw_and1 (pt_cmpR op_eq (pe_ix ix_str (pv 0) (pv 1) (fun _ _ => rfl)) pe_str (nomark _)))))
          (pss_one (ps_ret (pe_tup (pa_cons (pe_callTy call_tupOf (by rfl) T.n_tuple (by decide +kernel) (pa_cons (pv 3) pa_nil)) (pa_cons (pe_op op_add (pv 1) pe_int) pa_nil)))))
          pss_nil)
        (pss_cons (ps_if (PW.pt (pw_or (pt_cmpR op_eq (pv 1) (pe_callB call_len_str (by rfl) T.n_len (by decide +kernel) (pa_cons (pv 0) pa_nil)) (nomark _)) (pw_or1 (pt_cmpR op_ne (pe_ix ix_str (pv 0) (pv 1) (fun _ _ => rfl)) pe_str (nomark _)))))
          (pss_one (ps_raise rfl (takes_of rfl rfl rfl rfl) (pmk_fld T.o_BadText T.i_BadText T.t_BadText G_BadText (hr.mono (by omega)) b_BadText pass0 T.g_BadText (by decide) (pa_cons (pv 1) pa_nil) (fun _ _ _ _ h z => let ⟨v1, e1, z⟩ := z; ⟨v1, e1, h _ _ z⟩))))
          pss_nil)
        (pss_one (ps_aug (i := 1) sc_item_from.nd rfl (Or.inl rfl) pe_int ip_add))))))))))))))), ?_⟩
    have z16 : z.length ≤ sizeLine := Nat.le_trans hz (by decide)
    have zl : z.cps.toList.length = z.length := Array.length_toList
    have fault : ∀ (j : Nat) (σ : L2.St) (H1 : Hp), σ[1]? = some (some (.int (j : Nat))) → itemF z.cps.toList n i = .error j → Same H H1 → tMkF (He.ga K (Str.ofString "BadText")) 1 (fun vs => [(Str.ofString "place", vs.getD 0 V.non)]) (tCons (tVar 1) tNil) σ H1 E := fun j σ H1 hσ ef s1 => ⟨_, hσ, rfl, fun d nd => qe j ef d _ (s1.trans (same_new nd)) (none_same s1 nd) upd_same⟩
    refine ⟨_, rfl, _, rfl, z, rfl, z16, rfl, _, rfl, ite2 (fun c1 => ?_) (fun c1 => ?_)⟩
    · have e0 : i = z.length := by
        have : (i : Int) = (z.length : Int) := by simpa using c1
        omega
      exact fault i _ H rfl (item_none (List.getElem?_eq_none (by omega))) (Same.refl H)
    have hin : i < z.cps.toList.length := by
      have : ¬ (i : Int) = (z.length : Int) := fun k => c1 (by simpa using k)
      omega
    have gi : z.cps.toList[i]? = some z.cps.toList[i] := List.getElem?_eq_getElem hin
    generalize z.cps.toList[i] = c at gi
    refine ⟨_, rfl, _, rfl, z, _, _, rfl, rfl, z16, atI_nat gi, _, lettersT, rfl, rfl, _, rfl, ite2 (fun c2 => ?_) (fun c2 => ?_)⟩
    · refine ⟨_, rfl, _, rfl, z, i, rfl, hz, hi, fun p np => ?_⟩
      obtain ⟨r1, r2⟩ := run_le small 12 (z.cps.toList.drop i)
      rw [List.length_drop, zl] at r2
      have := q _ _ (item_name gi c2) _ p (upd H p (.tup [.str (subS z.cps.toList i (runLen small 12 (z.cps.toList.drop i))), .int ((i : Int) + (runLen small 12 (z.cps.toList.drop i) : Int))])) (.name _) upd_same (same_new np)
      rw [← cut_sub (by omega)] at this
      exact this
    have num : (c = 45 ∨ figC c = true) → spNumFrom K [.str z, .int i] H Q E := fun hc => by
      have e0 := item_num (n := n) gi c2 hc
      refine ⟨z, i, rfl, hz, by omega, fun v e he p np => ?_, fun st he d nd => ?_⟩
      · rw [he] at e0
        exact q _ _ e0 _ p _ (.num v) upd_same (same_new np)
      · rw [he] at e0
        exact qe _ e0 d _ (same_new nd) nd upd_same
    refine ⟨_, rfl, _, rfl, z, _, _, rfl, rfl, z16, atI_nat gi, rfl, _, rfl, ite2 (fun c3 => ?_) (fun c3 => ?_)⟩
    · exact ⟨_, rfl, _, rfl, num (.inl ((one_sign sM).mp c3))⟩
    refine ⟨_, rfl, _, rfl, z, _, _, rfl, rfl, z16, atI_nat gi, _, _, rfl, rfl, _, rfl, ite2 (fun c4 => ?_) (fun c4 => ?_)⟩
    · exact ⟨_, rfl, _, rfl, num (.inr c4)⟩
    have h2 : ¬ (c = 45 ∨ figC c = true) := fun k => k.elim (fun e => c3 ((one_sign sM).mpr e)) c4
    refine ⟨_, rfl, _, rfl, z, _, _, rfl, rfl, z16, atI_nat gi, rfl, _, rfl, ite2 (fun c5 => ?_) (fun c5 => ?_)⟩
    · refine fault i _ H rfl (item_bad gi c2 h2 (.inl fun k => ?_)) (Same.refl H)
      rw [(one_sign sB).mpr k] at c5
      cases c5
    have c91 : c = 91 := by
      refine Classical.byContradiction fun k => c5 ?_
      cases e : decide (V.str ⟨#[c]⟩ = V.str "[") with
      | true => exact absurd ((one_sign sB).mp e) k
      | false => rfl
    refine ⟨_, rfl, rfl, _, rfl, ite2 (fun c6 => ?_) (fun c6 => ?_)⟩
    · have n0 : n = 0 := by
        have : (40 : Int) - (n : Int) = 40 := by
          have := of_decide_eq_true c6
          injection this
        omega
      exact fault i _ H rfl (item_bad gi c2 h2 (.inr n0)) (Same.refl H)
    have n0 : n ≠ 0 := fun k => c6 (by subst k; exact decide_eq_true rfl)
    rcases up with up | ⟨m, rfl, rfl⟩
    · exact absurd up n0
    refine ⟨by show 0 ≤ sizeLine; exact Nat.zero_le _, fun lp nlp => ?_⟩
    have s1 : Same H (upd H lp (.lst [])) := same_new nlp
    have l1 : upd H lp (.lst []) lp = some (.lst []) := upd_same
    generalize upd H lp (.lst []) = H1 at s1 l1 ⊢
    refine ⟨_, rfl, _, _, rfl, rfl, ?_⟩
    have at1 : ∀ {x : Nat}, z.cps.toList[i + 1]? = some x → atI z.cps.toList ((i : Int) + 1) = some x := fun {x} e => by
      rw [show (i : Int) + 1 = ((i + 1 : Nat) : Int) by omega]
      exact atI_nat e
    have sz : m + 1 ≤ 40 := hn
    have body : ¬ z.cps.toList[i + 1]? = some 93 → ItemInv H z lp m i (z.cps.toList.length + 1) [some (.str z), some (.int ((i : Int) + 1)), some (.int (40 - ((m + 1 : Nat) : Int))), some (.ref lp), none] H1 := fun hc =>
      ⟨i + 1, [], [], none, by omega, by omega, Nat.zero_le _, rfl, s1, l1, ⟨rfl, by simp⟩, (item_more gi c2 h2 c91 hc).symm⟩
    have rest : ∀ (k : Nat) (σ : L2.St) (H' : Hp), ItemInv H z lp m i k σ H' → ∃ j : Nat, σ[1]? = some (some (.int (j : Nat))) := fun k σ H' h => by
      obtain ⟨j, acc, xs, pt, -, -, -, rfl, -⟩ := h
      exact ⟨j, rfl⟩
    refine ⟨fun σ H' => H' = H1 ∧ σ = [some (.str z), some (.int ((i : Int) + 1)), some (.int (40 - ((m + 1 : Nat) : Int))), some (.ref lp), none] ∧ ¬ z.cps.toList[i + 1]? = some 93, ?_, ?_⟩
    · refine ⟨_, rfl, _, rfl, z, rfl, z16, _, _, rfl, rfl, _, rfl, ite2 (fun c7 => ?_) (fun c7 => ?_)⟩
      · have k7 : (i : Int) + 1 < (z.length : Int) := of_decide_eq_true c7
        have hin2 : i + 1 < z.cps.toList.length := by omega
        have gi2 : z.cps.toList[i + 1]? = some z.cps.toList[i + 1] := List.getElem?_eq_getElem hin2
        generalize z.cps.toList[i + 1] = c' at gi2
        refine ⟨_, rfl, _, rfl, z, _, _, rfl, rfl, z16, at1 gi2, rfl, _, rfl, ite2 (fun c8 => ?_) (fun c8 => ?_)⟩
        · have e93 : c' = 93 := (one_sign sE).mp c8
          refine ⟨by show 0 ≤ sizeLine; exact Nat.zero_le _, fun p1 n1 => ⟨_, rfl, _, _, rfl, rfl, by show 2 ≤ sizeLine; decide, fun p2 n2 => ?_⟩⟩
          have e1 : upd (upd H1 p1 (.tup [])) p2 (.tup [.ref p1, .int ((i : Int) + 1 + 1)]) p1 = some (.tup []) := by
            rw [upd_ne (fun k => by rw [← k, upd_same] at n2; cases n2)]
            exact upd_same
          have := q _ _ (item_empty gi c2 h2 c91 (by rw [gi2, e93])) _ p2 (upd (upd H1 p1 (.tup [])) p2 (.tup [.ref p1, .int ((i : Int) + 1 + 1)])) (.tup e1 rfl (by simp)) (by
            rw [upd_same, show ((i + 2 : Nat) : Int) = (i : Int) + 1 + 1 by omega]) ((s1.trans (same_new n1)).trans (same_new n2))
          exact this
        · refine ⟨rfl, rfl, ?_⟩
          rw [gi2]
          intro k
          cases k
          exact c8 ((one_sign sE).mpr rfl)
      · refine ⟨rfl, rfl, fun k => c7 (decide_eq_true ?_)⟩
        have := (List.getElem?_eq_some_iff.mp k).1
        show (i : Int) + 1 < (z.length : Int)
        omega
    · rintro σ H' ⟨rfl, rfl, ne⟩
      refine ⟨fun k σ H2 => ItemInv H z lp m i k σ H2, ⟨_, body ne⟩, ?_⟩
      rintro k σ H2 ⟨j, acc, xs, pt, hk, hj, ha, rfl, s2, hl, hr2, hf⟩
      obtain ⟨k, rfl⟩ : ∃ k', k = k' + 1 := ⟨k - 1, by omega⟩
      refine ⟨true, rfl, iteT ?_⟩
      refine ⟨ItemInv H z lp m i k, fun σ' H' h => ⟨k, Nat.lt_succ_self _, h⟩, ?_⟩
      refine ⟨_, rfl, _, rfl, _, rfl, _, _, rfl, rfl, z, j, (by show [V.str z, V.int j, V.int ((40 : Int) - ((m + 1 : Nat) : Int) + 1)] = _; rw [show (40 : Int) - ((m + 1 : Nat) : Int) + 1 = 40 - (m : Int) by omega]), by omega, hz, hj, fun t e he v p H3 rt hp s3 => ?_, fun e he d H3 s3 nd hd => ?_⟩
      · obtain ⟨f1, f2⟩ := item_fwd _ _ _ _ _ he
        rw [loop_ok he] at hf
        have s23 := s2.trans s3
        refine ⟨p, _, rfl, SqT.of hp, rfl, _, _, rfl, _, _, rfl, rfl, ?_⟩
        have xl : xs.length < sizeLine := by
          rw [hr2.1, sizeLine_eq]
          omega
        refine ⟨_, rfl, .inl ⟨rfl, _, SqL.of (s3 _ _ hl)⟩, _, rfl, lp, xs, _, rfl, rfl, s3 _ _ hl, xl, ?_⟩
        have nlp0 : H lp = none := nlp
        have s4 : Same H (upd H3 lp (.lst (xs ++ [v]))) := same_put s23 nlp0
        have kt : ∀ a ys, H3 a = some (.tup ys) → upd H3 lp (.lst (xs ++ [v])) a = some (.tup ys) := fun a ys e => by
          rw [upd_ne (fun k => by rw [k, s3 _ _ hl] at e; cases e)]
          exact e
        have hr4 : RtL (upd H3 lp (.lst (xs ++ [v]))) (xs ++ [v]) (acc ++ [t]) := ((hr2.keep fun a ys e => s3 _ _ e).snoc rt).keep kt
        have l4 : upd H3 lp (.lst (xs ++ [v])) lp = some (.lst (xs ++ [v])) := upd_same
        generalize upd H3 lp (.lst (xs ++ [v])) = H4 at s4 hr4 l4 ⊢
        have al : (acc ++ [t]).length ≤ j + 1 := by
          rw [List.length_append]
          have : [t].length = 1 := rfl
          omega
        generalize acc ++ [t] = acc4 at hr4 hf al
        generalize xs ++ [v] = xs4 at hr4 l4
        have el : e ≤ z.length := by omega
        have ge : ∀ {x : Nat}, z.cps.toList[e]? = some x → atI z.cps.toList (e : Int) = some x := fun h => atI_nat h
        refine ⟨fun σ' H' => H' = H4 ∧ σ' = [some (.str z), some (.int (e : Nat)), some (.int (40 - ((m + 1 : Nat) : Int))), some (.ref lp), some v] ∧ ¬ z.cps.toList[e]? = some 93, ?_, ?_⟩
        · refine ⟨_, rfl, _, rfl, z, rfl, z16, _, _, rfl, rfl, _, rfl, ite2 (fun c7 => ?_) (fun c7 => ?_)⟩
          · have k7 : (e : Int) < (z.length : Int) := of_decide_eq_true c7
            have hin2 : e < z.cps.toList.length := by omega
            have gi2 : z.cps.toList[e]? = some z.cps.toList[e] := List.getElem?_eq_getElem hin2
            generalize z.cps.toList[e] = c' at gi2
            refine ⟨_, rfl, _, rfl, z, _, _, rfl, rfl, z16, ge gi2, rfl, _, rfl, ite2 (fun c8 => ?_) (fun c8 => ?_)⟩
            · have e93 : c' = 93 := (one_sign sE).mp c8
              rw [if_pos (by rw [gi2, e93])] at hf
              refine ⟨_, rfl, tupL_of (SqL.of l4) fun l nl => ⟨_, rfl, _, _, rfl, rfl, by show 2 ≤ sizeLine; decide, fun p2 n2 => ?_⟩⟩
              have e1 : upd (upd H4 l (.tup xs4)) p2 (.tup [.ref l, .int ((e : Int) + 1)]) l = some (.tup xs4) := by
                rw [upd_ne (fun k => by rw [← k, upd_same] at n2; cases n2)]
                exact upd_same
              have sx : Same H4 (upd (upd H4 l (.tup xs4)) p2 (.tup [.ref l, .int ((e : Int) + 1)])) := (same_new nl).trans (same_new n2)
              have hr5 := hr4.keep fun a ys q => sx _ _ q
              exact q _ _ hf.symm _ p2 (upd (upd H4 l (.tup xs4)) p2 (.tup [.ref l, .int ((e : Int) + 1)])) (.tup e1 hr5.1 hr5.2) upd_same (s4.trans sx)
            · refine ⟨rfl, rfl, ?_⟩
              rw [gi2]
              intro k
              cases k
              exact c8 ((one_sign sE).mpr rfl)
          · refine ⟨rfl, rfl, fun k => c7 (decide_eq_true ?_)⟩
            have := (List.getElem?_eq_some_iff.mp k).1
            show (e : Int) < (z.length : Int)
            omega
        · rintro σ' H' ⟨rfl, rfl, ne⟩
          rw [if_neg ne] at hf
          have flt : ¬ z.cps.toList[e]? = some 44 → tMkF (He.ga K (Str.ofString "BadText")) 1 (fun vs => [(Str.ofString "place", vs.getD 0 V.non)]) (tCons (tVar 1) tNil) [some (.str z), some (.int (e : Nat)), some (.int (40 - ((m + 1 : Nat) : Int))), some (.ref lp), some v] H' E := fun n44 => by
            rw [if_neg n44] at hf
            exact fault e _ H' rfl hf.symm s4
          refine ⟨_, rfl, _, rfl, z, rfl, z16, rfl, _, rfl, ite2 (fun c1 => ?_) (fun c1 => ?_)⟩
          · have e0 : e = z.length := by
              have : (e : Int) = (z.length : Int) := by simpa using c1
              omega
            exact flt (by rw [List.getElem?_eq_none (by omega)]; intro k; cases k)
          have hin2 : e < z.cps.toList.length := by
            have : ¬ (e : Int) = (z.length : Int) := fun k => c1 (by simpa using k)
            omega
          have gi2 : z.cps.toList[e]? = some z.cps.toList[e] := List.getElem?_eq_getElem hin2
          generalize z.cps.toList[e] = c' at gi2
          refine ⟨_, rfl, _, rfl, z, _, _, rfl, rfl, z16, ge gi2, rfl, _, rfl, ite2 (fun c5 => ?_) (fun c5 => ?_)⟩
          · refine flt fun k => ?_
            rw [gi2] at k
            cases k
            rw [(one_sign sC).mpr rfl] at c5
            cases c5
          have c44 : c' = 44 := by
            refine Classical.byContradiction fun k => c5 ?_
            cases e : decide (V.str ⟨#[c']⟩ = V.str ",") with
            | true => exact absurd ((one_sign sC).mp e) k
            | false => rfl
          rw [if_pos (by rw [gi2, c44])] at hf
          refine ⟨_, rfl, _, _, rfl, rfl, ?_⟩
          exact ⟨e + 1, acc4, xs4, some v, by omega, by omega, by omega, by rw [Int.natCast_add]; rfl, s4, l4, hr4, hf⟩
      · rw [loop_err he] at hf
        exact qe e hf.symm d H3 (s2.trans s3) (none_same s2 nd) hd
theorem C_item_from (T : Tx K mg) : ∀ n : Nat, Cal P w K mg base (L2.CX P w) (n + 4) "item_from" ["text", "at", "around"] [] (spItem K n)
  | 0 => item_step T (n := 0) (item_void T) (.inl rfl)
  | n + 1 => item_step T (n := n + 1) (C_item_from T n) (.inr ⟨n, rfl, rfl⟩)
/-- the data of a text -/
def readF (l : List Nat) : Except Nat PT := match itemF l 40 0 with
  | .error e => .error e
  | .ok (t, e) => if e < l.length then .error e else .ok t
def readV : V → Except Nat PT
  | .str z => readF z.cps.toList
  | _ => .error 0
def spRead (K : PySem.W.Frag) : Sp := fun vs H Q E => ∃ (v : V) (T : String), vs = [v] ∧ Kn H v T ∧ (∀ z, v = .str z → z.length ≤ 4000000) ∧ (∀ t, readV v = .ok t → ∀ v' H', Rt H' v' t → Same H H' → Q v' H') ∧
  (∀ e, readV v = .error e → ∀ d H', Same H H' → H d = none → H' d = some (.xd [("place", .int (e : Nat))]) → E (.ref (He.ga K "BadText")) (some d) H')
theorem C_read_data (T : Tx K mg) : Cal P w K mg base (L2.CX P w) 45 "read_data" ["text"] [] (spRead K) := by
  obtain ⟨fd, F⟩ := T.d_read_data
  obtain ⟨fdX, G_BadText, b_BadText⟩ := ok_badtext (P := P) (w := w) (base := base) T
  have C_item_from := C_item_from (P := P) (w := w) (base := base) T 40
  refine ⟨_, fd, [], F.ok sc_read_data (fun vs H Q E h => ?_) (fun cdv A outer s H vs Q E hr h => ?_), T.g_read_data, F.kp, F.bindsN fun _ _ _ _ _ _ us hl => match us, hl with | [_], _ => rfl, .nil⟩
  · obtain ⟨v, t, rfl, _⟩ := h
    rfl
  · obtain ⟨v, t, rfl, kn, hz, q, qe⟩ := h
    refine ⟨_, (pss_cons (ps_if (pt_not (pt_val (pe_callB call_isi (by rfl) T.n_isinstance (by decide +kernel) (pa_cons (pv 0) (pa_cons (pe_bltn (v := .ty "str") (u := .type "str") (by rfl) T.n_str (by decide +kernel) rfl) pa_nil)))))
        (pss_one (ps_raise rfl (takes_of rfl rfl rfl rfl) (pmk_fld T.o_BadText T.i_BadText T.t_BadText G_BadText (hr.mono (by decide)) b_BadText pass0 T.g_BadText (by decide) (pa_cons pe_int pa_nil) (fun _ _ _ _ h z => h _ _ z))))
        pss_nil)
      (pss_cons (ps_asg (pe_cal C_item_from (hr.mono (by decide)) (passes_call (takes_of rfl rfl rfl rfl) (fun _ _ _ _ h => h)) (pa_cons (pv 0) (pa_cons pe_int (pa_cons pe_int pa_nil)))) (pg_tup rfl (pgs_cons (pg_name (i := 1) sc_read_data.nd rfl (Or.inl rfl)) (pgs_cons (pg_name (i := 2) sc_read_data.nd rfl (Or.inl rfl)) pgs_nil))))
      (pss_cons (ps_if (pt_cmpR op_lt (pv 2) (pe_callB call_len_str (by rfl) T.n_len (by decide +kernel) (pa_cons (pv 0) pa_nil)) (nomark _))
        (pss_one (ps_raise rfl (takes_of rfl rfl rfl rfl) (pmk_fld T.o_BadText T.i_BadText T.t_BadText G_BadText (hr.mono (by decide)) b_BadText pass0 T.g_BadText (by decide) (pa_cons (pv 2) pa_nil) (fun _ _ _ _ h z => let ⟨v1, e1, z⟩ := z; ⟨v1, e1, h _ _ z⟩))))
        pss_nil)
      (pss_one (ps_ret (pv 1)))))), ?_⟩
    rcases kn.isStr (K := K) with ⟨z, rfl, a1⟩ | ⟨a1, no⟩
    case inr =>
      have ns : ∀ z, v ≠ .str z := fun z e => by
        subst e
        cases kn
        cases a1.symm.trans (kit_ty (by decide +kernel) : PySem.W.kitOne K (.type "str") (.type "str") = some true)
      have e0 : readV v = .error 0 := by
        cases v with
        | str z => exact absurd rfl (ns z)
        | _ => rfl
      exact ⟨_, rfl, _, _, _, _, _, rfl, .ty _, kn.ty, a1, _, rfl, iteT ⟨rfl, fun d nd => qe 0 e0 d _ (same_new nd) nd upd_same⟩⟩
    have hz := hz z rfl
    have z16 : z.length ≤ sizeLine := Nat.le_trans hz (by decide)
    have zl : z.cps.toList.length = z.length := Array.length_toList
    refine ⟨_, rfl, _, _, _, _, _, rfl, .ty _, kn.ty, a1, _, rfl, ?_⟩
    refine iteF ⟨_, rfl, z, 0, rfl, by omega, hz, Nat.zero_le _, fun t e he v p H3 rt hp s3 => ?_, fun e he d H3 s3 nd hd => ?_⟩
    · refine ⟨p, _, rfl, SqT.of hp, rfl, _, _, rfl, _, _, rfl, rfl, ?_⟩
      refine ⟨_, rfl, _, rfl, z, rfl, z16, _, _, rfl, rfl, _, rfl, ite2 (fun c7 => ?_) (fun c7 => ?_)⟩
      · have k7 : (e : Int) < (z.length : Int) := of_decide_eq_true c7
        refine ⟨_, rfl, rfl, fun d nd => qe e (by show readF _ = _; unfold readF; rw [he]; exact if_pos (by omega)) d _ (s3.trans (same_new nd)) (none_same s3 nd) upd_same⟩
      · have k7 : ¬ (e : Int) < (z.length : Int) := fun k => c7 (decide_eq_true k)
        exact ⟨_, rfl, q t (by show readF _ = _; unfold readF; rw [he]; exact if_neg (by omega)) v H3 rt s3⟩
    · exact qe e (by show readF _ = _; unfold readF; rw [he]) d H3 s3 nd hd
end
end K04

set_option maxRecDepth 100000
set_option maxHeartbeats 4000000
namespace K04
open PySem PySem.Spec PyProof.Rows L2 Q RZ RT TL
/-! ### a text of data is read back -/
def Stop (p : Nat → Bool) (rest : List Nat) : Prop := ∀ c, rest.head? = some c → p c = false
theorem run_app {p : Nat → Bool} : ∀ {k : Nat} {l rest : List Nat}, (∀ c ∈ l, p c = true) → l.length ≤ k → Stop p rest → runLen p k (l ++ rest) = l.length
  | 0, [], rest, _, _, _ => by cases rest <;> rfl
  | 0, _ :: _, _, _, h, _ => by simp at h
  | k + 1, [], [], _, _, _ => rfl
  | k + 1, [], c :: rest, _, _, h => by
    show (if p c = true then _ else 0) = 0
    rw [h c rfl]
    rfl
  | k + 1, c :: l, rest, h, hl, hr => by
    show (if p c = true then runLen p k (l ++ rest) + 1 else 0) = l.length + 1
    rw [if_pos (h c List.mem_cons_self), run_app (fun d m => h d (List.mem_cons_of_mem _ m)) (by simpa using hl) hr]
theorem numL_head : ∀ m : Nat, 0 < m → ∃ c r, numL m = c :: r ∧ 49 ≤ c ∧ c ≤ 57 := by
  intro m
  induction m using Nat.strongRecOn with
  | _ m ih =>
    intro h
    by_cases c : m < 10
    · exact ⟨48 + m, [], numL_lt c, by omega, by omega⟩
    · obtain ⟨d, r, e, h1, h2⟩ := ih (m / 10) (by omega) (by omega)
      exact ⟨d, r ++ [48 + m % 10], by rw [numL_step (by omega), e]; rfl, h1, h2⟩
theorem tl_neg (m : Nat) : tl (Str.ofString (toString (Int.negSucc m))) = 45 :: numL (m + 1) := by
  rw [tl_ofString]
  show (("-" ++ Nat.repr (m + 1) : String)).toList.map Char.toNat = _
  rw [String.toList_append, List.map_append]
  show 45 :: (Nat.repr (m + 1)).toList.map Char.toNat = _
  rw [Nat.toList_repr]
  rfl
theorem at_len {pre l : List Nat} : (pre ++ l)[pre.length]? = l.head? := by
  rw [List.getElem?_append_right (Nat.le_refl _), Nat.sub_self]
  cases l <;> rfl
theorem tail_back {pre rest : List Nat} {m : Nat} {neg : Bool} (h : 0 < m) (h4 : (numL m).length ≤ 400) (hs : Stop figC rest) : numTail (pre ++ (numL m ++ rest)) neg pre.length = .ok ((if neg = true then -1 else 1) * (m : Int), pre.length + (numL m).length) := by
  obtain ⟨c, r, e, h1, h2⟩ := numL_head m h
  have g : (pre ++ (numL m ++ rest))[pre.length]? = some c := by rw [at_len, e]; rfl
  have d : (pre ++ (numL m ++ rest)).drop pre.length = numL m ++ rest := List.drop_left' rfl
  unfold numTail
  rw [g]
  simp only
  rw [if_pos ⟨fig_iff.mpr (by omega), by omega⟩, d, run_app (fun x hx => fig_iff.mpr (numL_digits m x hx)) h4 hs, List.take_left' rfl, numL_val]
theorem num_back {pre rest : List Nat} {i : Int} (h : 1 - 10 ^ 400 ≤ i ∧ i ≤ 10 ^ 400 - 1) (hs : Stop figC rest) : numFrom (pre ++ (tl (Str.ofString (toString i)) ++ rest)) pre.length = .ok (i, pre.length + (tl (Str.ofString (toString i))).length) := by
  have h2 : ((10 : Int) ^ 400) = ((10 ^ 400 : Nat) : Int) := by push_cast; rfl
  rw [h2] at h
  have len : ∀ m : Nat, m < 10 ^ 400 → (numL m).length ≤ 400 := fun m hm => numL_len (by decide) hm
  generalize (10 : Nat) ^ 400 = big at h len
  cases i with
  | ofNat m =>
    have e : tl (Str.ofString (toString (Int.ofNat m))) = numL m := tl_num m
    rw [e]
    cases m with
    | zero =>
      have e0 : numL 0 = [48] := numL_lt (by decide)
      rw [e0]
      unfold numFrom
      rw [if_pos (by rw [at_len]; rfl)]
      rfl
    | succ m =>
      obtain ⟨c, r, e, h1, h2⟩ := numL_head (m + 1) (Nat.succ_pos _)
      have g : (pre ++ (numL (m + 1) ++ rest))[pre.length]? = some c := by rw [at_len, e]; rfl
      unfold numFrom
      rw [if_neg (by rw [g]; intro k; cases k; omega), if_neg (by rw [g]; intro k; cases k; omega), tail_back (Nat.succ_pos _) (len _ (by
        obtain ⟨a, b⟩ := h
        have : Int.ofNat (m + 1) = ((m + 1 : Nat) : Int) := rfl
        omega)) hs]
      show Except.ok (1 * ((m + 1 : Nat) : Int), _) = _
      rw [Int.one_mul]
      rfl
  | negSucc m =>
    rw [tl_neg]
    have g : (pre ++ (45 :: numL (m + 1) ++ rest))[pre.length]? = some 45 := by rw [at_len]; rfl
    unfold numFrom
    rw [if_neg (by rw [g]; intro k; cases k), if_pos g]
    have e : pre ++ (45 :: numL (m + 1) ++ rest) = (pre ++ [45]) ++ (numL (m + 1) ++ rest) := by simp
    have t := tail_back (pre := pre ++ [45]) (rest := rest) (m := m + 1) (neg := true) (Nat.succ_pos _) (len _ (by
        obtain ⟨a, b⟩ := h
        have : Int.negSucc m = -((m + 1 : Nat) : Int) := rfl
        omega)) hs
    rw [← e, List.length_append] at t
    rw [show pre.length + 1 = pre.length + [45].length from rfl, t]
    have e1 : (if true = true then (-1 : Int) else 1) * ((m + 1 : Nat) : Int) = Int.negSucc m := by
      show -1 * ((m + 1 : Nat) : Int) = _
      rw [Int.neg_mul, Int.one_mul]
      rfl
    rw [e1]
    show Except.ok (_, pre.length + 1 + (numL (m + 1)).length) = Except.ok (_, pre.length + ((numL (m + 1)).length + 1))
    rw [Nat.add_assoc, Nat.add_comm 1]
def Stop2 (rest : List Nat) : Prop := Stop small rest ∧ Stop figC rest
theorem stop_cons {c : Nat} {r : List Nat} (h1 : small c = false) (h2 : figC c = false) : Stop2 (c :: r) := ⟨fun d e => by cases e; exact h1, fun d e => by cases e; exact h2⟩
theorem small_list : lettersT.cps.toList = (List.range 26).map (· + 97) := by decide +kernel
theorem small_iff {c : Nat} : small c = true ↔ 97 ≤ c ∧ c ≤ 122 := by
  show decide (c ∈ lettersT.cps.toList) = true ↔ _
  rw [decide_eq_true_iff, small_list, List.mem_map]
  constructor
  · rintro ⟨a, h, rfl⟩
    have := List.mem_range.mp h
    omega
  · rintro ⟨h1, h2⟩
    exact ⟨c - 97, List.mem_range.mpr (by omega), by omega⟩
theorem small_no {c : Nat} (h : ¬ (97 ≤ c ∧ c ≤ 122)) : small c = false := by
  cases e : small c with
  | false => rfl
  | true => exact absurd (small_iff.mp e) h
theorem fig_no {c : Nat} (h : ¬ (48 ≤ c ∧ c ≤ 57)) : figC c = false := by
  cases e : figC c with
  | false => rfl
  | true => exact absurd (fig_iff.mp e) h
/-- how a text of data begins -/
theorem name_back {pre rest : List Nat} {n : Nat} {x : Str} (h : nameV (.str x) = true) (hs : Stop2 rest) : itemF (pre ++ (tl x ++ rest)) n pre.length = .ok (.name x, pre.length + (tl x).length) := by
  have z : ((decide (1 ≤ x.length) && decide (x.length ≤ 12)) && x.cps.toList.all inLetters) = true := h
  rw [Bool.and_eq_true, Bool.and_eq_true] at z
  have h1 := of_decide_eq_true z.1.1
  have h2 := of_decide_eq_true z.1.2
  rw [len_tl] at h1 h2
  have h3 : ∀ c ∈ tl x, small c = true := fun c m => List.all_eq_true.mp z.2 c m
  have d : (pre ++ (tl x ++ rest)).drop pre.length = tl x ++ rest := List.drop_left' rfl
  cases e : tl x with
  | nil => rw [e] at h1; simp at h1
  | cons c r =>
    have g : (pre ++ (tl x ++ rest))[pre.length]? = some c := by rw [at_len, e]; rfl
    rw [← e, item_name g (h3 c (by rw [e]; exact List.mem_cons_self))]
    unfold nameAt
    rw [d, run_app h3 h2 hs.1]
    have : subS (pre ++ (tl x ++ rest)) pre.length (tl x).length = x := by
      unfold subS
      rw [d, List.take_left' rfl]
    rw [this]
theorem tl_seq (zs : List Str) : tl (Str.ofString "[" ++ Txt.join comma zs ++ Str.ofString "]") = 91 :: (joinL [44] (zs.map tl) ++ [93]) := by
  have c1 : tl (Str.ofString "[") = [91] := by decide +kernel
  have c2 : tl (Str.ofString "]") = [93] := by decide +kernel
  have c3 : tl comma = [44] := by decide +kernel
  rw [tl_append, tl_append, join_eq, tl_join, c1, c2, c3]
  rfl
theorem head_of {K : PySem.W.Frag} {H : Hp} : ∀ {n : Nat} {t : PT} {v : V} {z : Str}, Tr K H v t → textOf n t = some z → ∃ c r, tl z = c :: r ∧ c ≠ 93
  | n, .name x, _, z, h, e => by
    have e' : some x = some z := by cases n <;> exact e
    cases e'
    cases h with
    | name _ hx =>
      have z : ((decide (1 ≤ x.length) && decide (x.length ≤ 12)) && x.cps.toList.all inLetters) = true := hx
      rw [Bool.and_eq_true, Bool.and_eq_true] at z
      have h1 := of_decide_eq_true z.1.1
      rw [len_tl] at h1
      cases q : tl x with
      | nil => rw [q] at h1; simp at h1
      | cons c r =>
        have h3 : small c = true := List.all_eq_true.mp z.2 c (by show c ∈ tl x; rw [q]; exact List.mem_cons_self)
        have := small_iff.mp h3
        exact ⟨c, r, rfl, by omega⟩
  | n, .num i, _, z, _, e => by
    have e' : some (Str.ofString (toString i)) = some z := by cases n <;> exact e
    cases e'
    cases i with
    | ofNat m =>
      have e : tl (Str.ofString (toString (Int.ofNat m))) = numL m := tl_num m
      cases q : numL m with
      | nil => exact absurd q (numL_ne m)
      | cons c r =>
        have := numL_digits m c (by rw [q]; exact List.mem_cons_self)
        exact ⟨c, r, by rw [e, q], by omega⟩
    | negSucc m => exact ⟨45, _, tl_neg m, by decide⟩
  | n, .bad, _, z, _, e => by
    have e' : (none : Option Str) = some z := by cases n <;> exact e
    cases e'
  | 0, .seq ds, _, z, _, e => by cases e
  | n + 1, .seq ds, _, z, _, e => by
    have e' : (textAll n ds).map (fun zs => Str.ofString "[" ++ Txt.join comma zs ++ Str.ofString "]") = some z := e
    cases q : textAll n ds with
    | none => rw [q] at e'; cases e'
    | some zs =>
      rw [q] at e'
      cases e'
      exact ⟨91, _, tl_seq zs, by decide⟩
theorem textAll_cons {n : Nat} {d : PT} {ds : List PT} {zs : List Str} (e : textAll n (d :: ds) = some zs) : ∃ y ys, zs = y :: ys ∧ textOf n d = some y ∧ textAll n ds = some ys := by
  unfold textAll at e
  cases h1 : textOf n d with
  | none => rw [h1] at e; cases e
  | some y =>
    cases h2 : textAll n ds with
    | none => rw [h1, h2] at e; cases e
    | some ys =>
      rw [h1, h2] at e
      cases e
      exact ⟨y, ys, rfl, rfl, rfl⟩
theorem textAll_nil {n : Nat} {zs : List Str} (e : textAll n [] = some zs) : zs = [] := by
  unfold textAll at e
  cases e
  rfl
theorem join_head {K : PySem.W.Frag} {H : Hp} (n : Nat) (ds : List PT) (vs : List V) (zs : List Str) (h : TrAll K H vs ds) (e : textAll n ds = some zs) (ne : ds ≠ []) (rest : List Nat) : ¬ (joinL [44] (zs.map tl) ++ rest).head? = some 93 := by
  cases h with
  | nil => exact absurd rfl ne
  | cons a r =>
    obtain ⟨y, ys, rfl, h1, h2⟩ := textAll_cons e
    obtain ⟨c, s, q, hc⟩ := head_of a h1
    intro k
    have : (joinL [44] ((y :: ys).map tl) ++ rest).head? = some c := by
      cases ys with
      | nil =>
        show (tl y ++ rest).head? = some c
        rw [q]
        rfl
      | cons y2 ys =>
        show ((tl y ++ ([44] ++ joinL [44] ((y2 :: ys).map tl))) ++ rest).head? = some c
        rw [q]
        rfl
    rw [this] at k
    cases k
    exact hc rfl
theorem join_many : ∀ {n : Nat} {ds : List PT} {zs : List Str}, textAll n ds = some zs → ds.length ≤ (joinL [44] (zs.map tl)).length + 1
  | n, [], zs, e => Nat.zero_le _
  | n, [d], zs, e => by
    show 1 ≤ _
    omega
  | n, d :: d2 :: ds, zs, e => by
    obtain ⟨y, ys, rfl, h1, h2⟩ := textAll_cons e
    have ih := join_many h2
    obtain ⟨y2, ys2, rfl, h3, h4⟩ := textAll_cons h2
    show ds.length + 1 + 1 ≤ (tl y ++ ([44] ++ joinL [44] ((y2 :: ys2).map tl))).length + 1
    rw [List.length_append, List.length_append]
    have l1 : [44].length = 1 := rfl
    have : (d2 :: ds).length = ds.length + 1 := rfl
    omega
mutual
theorem item_back {K : PySem.W.Frag} {H : Hp} : ∀ (n : Nat) (t : PT) (v : V) (z : Str), Tr K H v t → textOf n t = some z → ∀ pre rest, Stop2 rest → itemF (pre ++ (tl z ++ rest)) n pre.length = .ok (t, pre.length + (tl z).length)
  | n, .name x, _, z, h, e, pre, rest, hs => by
    have e' : some x = some z := by cases n <;> exact e
    cases e'
    cases h with
    | name _ hx => exact name_back hx hs
  | n, .num i, _, z, h, e, pre, rest, hs => by
    have e' : some (Str.ofString (toString i)) = some z := by cases n <;> exact e
    cases e'
    cases h with
    | num _ hi =>
      have nb := num_back (pre := pre) hi hs.2
      have g : ∃ c, (pre ++ (tl (Str.ofString (toString i)) ++ rest))[pre.length]? = some c ∧ (c = 45 ∨ figC c = true) := by
        cases i with
        | ofNat m =>
          have e : tl (Str.ofString (toString (Int.ofNat m))) = numL m := tl_num m
          cases q : numL m with
          | nil => exact absurd q (numL_ne m)
          | cons c r => exact ⟨c, by rw [at_len, e, q]; rfl, .inr (fig_iff.mpr (numL_digits m c (by rw [q]; exact List.mem_cons_self)))⟩
        | negSucc m => exact ⟨45, by rw [at_len, tl_neg]; rfl, .inl rfl⟩
      obtain ⟨c, g, hc⟩ := g
      have ns : ¬ small c = true := fun k => by
        have := small_iff.mp k
        rcases hc with rfl | hc
        · omega
        · have := fig_iff.mp hc
          omega
      rw [item_num g ns hc, nb]
  | n, .bad, _, z, _, e, _, _, _ => by
    have e' : (none : Option Str) = some z := by cases n <;> exact e
    cases e'
  | 0, .seq ds, _, z, _, e, _, _, _ => by cases e
  | n + 1, .seq ds, v, z, h, e, pre, rest, hs => by
    have e' : (textAll n ds).map (fun zs => Str.ofString "[" ++ Txt.join comma zs ++ Str.ofString "]") = some z := e
    cases q : textAll n ds with
    | none => rw [q] at e'; cases e'
    | some zs =>
      rw [q] at e'
      cases e'
      rw [tl_seq]
      have g : (pre ++ (91 :: (joinL [44] (zs.map tl) ++ [93]) ++ rest))[pre.length]? = some 91 := by rw [at_len]; rfl
      have n1 : ¬ small 91 = true := fun k => by have := small_iff.mp k; omega
      have n2 : ¬ (91 = 45 ∨ figC 91 = true) := fun k => k.elim (fun z => by omega) fun z => by have := fig_iff.mp z; omega
      have e1 : pre ++ (91 :: (joinL [44] (zs.map tl) ++ [93]) ++ rest) = (pre ++ [91]) ++ (joinL [44] (zs.map tl) ++ (93 :: rest)) := by simp
      have tr : ∃ vs, TrAll K H vs ds := by
        cases h with
        | lst a r => exact ⟨_, r⟩
        | tup a r => exact ⟨_, r⟩
      obtain ⟨vs, r⟩ := tr
      by_cases c : ds = []
      · subst c
        have q' : some [] = some zs := by rw [← q]; unfold textAll; rfl
        cases q'
        rw [item_empty g n1 n2 rfl (by rw [e1, show pre.length + 1 = (pre ++ [91]).length by simp, at_len]; rfl)]
        rfl
      · have ne : ¬ (pre ++ (91 :: (joinL [44] (zs.map tl) ++ [93]) ++ rest))[pre.length + 1]? = some 93 := by
          rw [e1, show pre.length + 1 = (pre ++ [91]).length by simp, at_len]
          exact join_head n ds vs zs r q c _
        rw [item_more g n1 n2 rfl ne, e1, show pre.length + 1 = (pre ++ [91]).length by simp, loop_back n ds vs zs r q c _ _ _ _ (by
          have := r.len
          have l : ds.length ≤ (joinL [44] (zs.map tl)).length + 1 := join_many q
          simp only [List.length_append, List.length_cons]
          omega)]
        rw [List.nil_append]
        congr 2
        simp only [List.length_append, List.length_cons, List.length_nil]
        omega
theorem loop_back {K : PySem.W.Frag} {H : Hp} : ∀ (n : Nat) (ds : List PT) (vs : List V) (zs : List Str), TrAll K H vs ds → textAll n ds = some zs → ds ≠ [] → ∀ (pre rest : List Nat) (k : Nat) (acc : List PT), ds.length ≤ k →
    loopF (itemF (pre ++ (joinL [44] (zs.map tl) ++ (93 :: rest))) n) (pre ++ (joinL [44] (zs.map tl) ++ (93 :: rest))) k pre.length acc = .ok (.seq (acc ++ ds), pre.length + (joinL [44] (zs.map tl)).length + 1)
  | n, [], _, _, _, _, h, _, _, _, _, _ => absurd rfl h
  | n, d :: ds, _, zs, .cons a r, e, _, pre, rest, k, acc, hk => by
    unfold textAll at e
    cases h1 : textOf n d with
    | none => rw [h1] at e; cases e
    | some y =>
      cases h2 : textAll n ds with
      | none => rw [h1, h2] at e; cases e
      | some ys =>
        rw [h1, h2] at e
        cases e
        obtain ⟨k, rfl⟩ : ∃ k', k = k' + 1 := ⟨k - 1, by simp at hk; omega⟩
        by_cases c : ds = []
        · subst c
          have q' : some [] = some ys := by rw [← h2]; unfold textAll; rfl
          cases q'
          have ib := item_back n d _ y a h1 pre (93 :: rest) (stop_cons (small_no (by omega)) (fig_no (by omega)))
          rw [loop_ok (f := itemF _ n) (show itemF (pre ++ (joinL [44] ([y].map tl) ++ 93 :: rest)) n pre.length = _ from ib), if_pos (by
            show (pre ++ (tl y ++ 93 :: rest))[pre.length + (tl y).length]? = some 93
            rw [← List.append_assoc, ← List.length_append, at_len]
            rfl)]
          rfl
        · obtain ⟨y2, ys', rfl⟩ : ∃ y2 ys', ys = y2 :: ys' := by
            cases ys with
            | nil =>
              cases ds with
              | nil => exact absurd rfl c
              | cons d2 ds => 
                unfold textAll at h2
                cases h3 : textOf n d2 with
                | none => rw [h3] at h2; cases h2
                | some _ =>
                  cases h4 : textAll n ds with
                  | none => rw [h3, h4] at h2; cases h2
                  | some _ => rw [h3, h4] at h2; cases h2
            | cons y2 ys' => exact ⟨y2, ys', rfl⟩
          have ej : joinL [44] ((y :: y2 :: ys').map tl) = tl y ++ 44 :: joinL [44] ((y2 :: ys').map tl) := rfl
          have ib := item_back n d _ y a h1 pre (44 :: (joinL [44] ((y2 :: ys').map tl) ++ 93 :: rest)) (stop_cons (small_no (by omega)) (fig_no (by omega)))
          have e1 : pre ++ (joinL [44] ((y :: y2 :: ys').map tl) ++ 93 :: rest) = pre ++ (tl y ++ 44 :: (joinL [44] ((y2 :: ys').map tl) ++ 93 :: rest)) := by rw [ej]; simp
          have g : (pre ++ (tl y ++ 44 :: (joinL [44] ((y2 :: ys').map tl) ++ 93 :: rest)))[pre.length + (tl y).length]? = some 44 := by
            rw [← List.append_assoc, ← List.length_append, at_len]
            rfl
          rw [e1, loop_ok (f := itemF _ n) ib, if_neg (by rw [g]; intro k; cases k), if_pos g]
          have lb := loop_back n ds _ (y2 :: ys') r h2 c (pre ++ tl y ++ [44]) rest k (acc ++ [d]) (by simp at hk; omega)
          have e2 : pre ++ tl y ++ [44] ++ (joinL [44] ((y2 :: ys').map tl) ++ 93 :: rest) = pre ++ (tl y ++ 44 :: (joinL [44] ((y2 :: ys').map tl) ++ 93 :: rest)) := by simp
          have e3 : (pre ++ tl y ++ [44]).length = pre.length + (tl y).length + 1 := by
            rw [List.length_append, List.length_append]
            rfl
          rw [e2, e3] at lb
          rw [lb, ej]
          congr 2
          · rw [List.append_assoc]
            rfl
          · simp only [List.length_append, List.length_cons]
            omega
end
end K04

set_option maxRecDepth 100000
set_option maxHeartbeats 4000000
namespace K04
open PySem PySem.Spec PyProof.Rows L2 Q RZ RT TL
/-! ### the walk sign by sign -/
inductive W
  | start | opened | name | figs | minus | zero | closed
  deriving DecidableEq
def tailA (w : W) (d c : Nat) : Option (W × Nat × Nat) := if d = 0 then none else if c = 93 then some (.closed, 1, d - 1) else if c = 44 ∧ w ≠ .opened then some (.start, 1, d) else none
def stepA (w : W) (m d c : Nat) : Option (W × Nat × Nat) :=
  if w = .name ∧ small c = true then (if m < 12 then some (.name, m + 1, d) else none)
  else if w = .figs ∧ figC c = true then (if m < 400 then some (.figs, m + 1, d) else none)
  else if w = .minus then (if figC c = true ∧ c ≠ 48 then some (.figs, 1, d) else none)
  else if w = .start ∨ w = .opened then
    if small c = true then some (.name, 1, d)
    else if figC c = true then (if c = 48 then some (.zero, 1, d) else some (.figs, 1, d))
    else if c = 45 then some (.minus, 1, d)
    else if c = 91 then (if d < 40 then some (.opened, 1, d + 1) else none)
    else if w = .start then none
    else tailA w d c
  else tailA w d c
def placeA : List Nat → Nat → W → Nat → Nat → Option Nat
  | [], i, w, _, d => if d = 0 ∧ w ≠ .start ∧ w ≠ .minus then none else some i
  | c :: r, i, w, m, d => match stepA w m d c with
    | none => some i
    | some (w', m', d') => placeA r (i + 1) w' m' d'
def L (l : List Nat) (i : Nat) (w : W) (m d : Nat) : Option Nat := placeA (l.drop i) i w m d
theorem L_end {l : List Nat} {i : Nat} {w : W} {m d : Nat} (h : l[i]? = none) : L l i w m d = if d = 0 ∧ w ≠ .start ∧ w ≠ .minus then none else some i := by
  unfold L
  rw [List.drop_eq_nil_of_le (List.getElem?_eq_none_iff.mp h)]
  rfl
theorem drop_at {l : List Nat} {i c : Nat} (h : l[i]? = some c) : l.drop i = c :: l.drop (i + 1) := by
  obtain ⟨hi, e⟩ := List.getElem?_eq_some_iff.mp h
  rw [List.drop_eq_getElem_cons hi, e]
theorem L_at {l : List Nat} {i c : Nat} {w : W} {m d : Nat} (h : l[i]? = some c) : L l i w m d = match stepA w m d c with
    | none => some i
    | some (w', m', d') => L l (i + 1) w' m' d' := by
  unfold L
  rw [drop_at h]
  rfl
theorem L_none {l : List Nat} {i c : Nat} {w : W} {m d : Nat} (h : l[i]? = some c) (s : stepA w m d c = none) : L l i w m d = some i := by rw [L_at h, s]
theorem L_some {l : List Nat} {i c : Nat} {w w' : W} {m d m' d' : Nat} (h : l[i]? = some c) (s : stepA w m d c = some (w', m', d')) : L l i w m d = L l (i + 1) w' m' d' := by rw [L_at h, s]
theorem run_place {l : List Nat} {p : Nat → Bool} {w : W} {K : Nat} (hs : ∀ m d c, m < K → p c = true → stepA w m d c = some (w, m + 1, d)) : ∀ (k i m d : Nat), m + k = K → L l i w m d = L l (i + runLen p k (l.drop i)) w (m + runLen p k (l.drop i)) d
  | 0, i, m, d, _ => rfl
  | k + 1, i, m, d, h => by
    cases e : l[i]? with
    | none =>
      rw [List.drop_eq_nil_of_le (List.getElem?_eq_none_iff.mp e)]
      rfl
    | some c =>
      rw [drop_at e]
      by_cases hc : p c = true
      · have r : runLen p (k + 1) (c :: l.drop (i + 1)) = runLen p k (l.drop (i + 1)) + 1 := by
          show (if p c = true then _ else _) = _
          rw [if_pos hc]
        rw [r, L_some e (hs m d c (by omega) hc), run_place hs k (i + 1) (m + 1) d (by omega)]
        congr 1 <;> omega
      · have r : runLen p (k + 1) (c :: l.drop (i + 1)) = 0 := by
          show (if p c = true then _ else _) = _
          rw [if_neg hc]
        rw [r]
        rfl
theorem run_stop {p : Nat → Bool} {k c : Nat} {l : List Nat} (h : l[runLen p k l]? = some c) (hc : p c = true) : runLen p k l = k := by
  have r := (run_le p k l).1
  by_cases q : runLen p k l < k
  · exact absurd ((run_step p k l (runLen p k l) (Nat.le_refl _)).mpr ⟨q, c, h, hc⟩) (Nat.lt_irrefl _)
  · omega
/-- behind a piece -/
def After (l : List Nat) (e : Nat) (w : W) (m d : Nat) : Prop := (w ≠ .start ∧ w ≠ .minus ∧ w ≠ .opened) ∧ ∀ c, l[e]? = some c → stepA w m d c = if d = 0 then none else if c = 93 then some (.closed, 1, d - 1) else if c = 44 then some (.start, 1, d) else none
theorem tail_eq {w : W} {d c : Nat} (h : w ≠ .opened) : tailA w d c = if d = 0 then none else if c = 93 then some (.closed, 1, d - 1) else if c = 44 then some (.start, 1, d) else none := by
  unfold tailA
  by_cases c44 : c = 44
  · rw [if_pos (show c = 44 ∧ w ≠ .opened from ⟨c44, h⟩), if_pos c44]
  · rw [if_neg (show ¬ (c = 44 ∧ w ≠ .opened) from fun z => c44 z.1), if_neg c44]
theorem after_closed {l : List Nat} {e m d : Nat} : After l e .closed m d := ⟨by decide, fun c _ => by
  unfold stepA
  rw [if_neg (by simp), if_neg (by simp), if_neg (by simp), if_neg (by simp)]
  exact tail_eq (by decide)⟩
theorem after_zero {l : List Nat} {e m d : Nat} : After l e .zero m d := ⟨by decide, fun c _ => by
  unfold stepA
  rw [if_neg (by simp), if_neg (by simp), if_neg (by simp), if_neg (by simp)]
  exact tail_eq (by decide)⟩
theorem after_name {l : List Nat} {e m d : Nat} (h : ∀ c, l[e]? = some c → small c = true → m = 12) : After l e .name m d := ⟨by decide, fun c hc => by
  unfold stepA
  by_cases s : small c = true
  · have hm := h c hc s
    have r := small_iff.mp s
    rw [if_pos ⟨rfl, s⟩, if_neg (show ¬ m < 12 by omega), if_neg (show ¬ c = 93 by omega), if_neg (show ¬ c = 44 by omega)]
    split <;> rfl
  · rw [if_neg (fun z => s z.2), if_neg (by simp), if_neg (by simp), if_neg (by simp)]
    exact tail_eq (by decide)⟩
theorem after_figs {l : List Nat} {e m d : Nat} (h : ∀ c, l[e]? = some c → figC c = true → m = 400) : After l e .figs m d := ⟨by decide, fun c hc => by
  unfold stepA
  rw [if_neg (by simp)]
  by_cases s : figC c = true
  · have hm := h c hc s
    have r := fig_iff.mp s
    rw [if_pos ⟨rfl, s⟩, if_neg (show ¬ m < 400 by omega), if_neg (show ¬ c = 93 by omega), if_neg (show ¬ c = 44 by omega)]
    split <;> rfl
  · rw [if_neg (fun z => s z.2), if_neg (by simp), if_neg (by simp)]
    exact tail_eq (by decide)⟩
theorem step_name {m d c : Nat} (hm : m < 12) (hc : small c = true) : stepA .name m d c = some (.name, m + 1, d) := by
  unfold stepA
  rw [if_pos ⟨rfl, hc⟩, if_pos hm]
theorem step_figs {m d c : Nat} (hm : m < 400) (hc : figC c = true) : stepA .figs m d c = some (.figs, m + 1, d) := by
  unfold stepA
  rw [if_neg (by simp), if_pos ⟨rfl, hc⟩, if_pos hm]
/-- where a piece may begin -/
def Beg (w : W) : Prop := w = .start ∨ w = .opened
theorem step_beg {w : W} (h : Beg w) {m d c : Nat} : stepA w m d c = if small c = true then some (.name, 1, d)
    else if figC c = true then (if c = 48 then some (.zero, 1, d) else some (.figs, 1, d))
    else if c = 45 then some (.minus, 1, d)
    else if c = 91 then (if d < 40 then some (.opened, 1, d + 1) else none)
    else if w = .start then none
    else tailA w d c := by
  unfold stepA
  rcases h with rfl | rfl
  · rw [if_neg (by simp), if_neg (by simp), if_neg (by simp), if_pos (.inl rfl)]
  · rw [if_neg (by simp), if_neg (by simp), if_neg (by simp), if_pos (.inr rfl)]
theorem step_minus {m d c : Nat} : stepA .minus m d c = if figC c = true ∧ c ≠ 48 then some (.figs, 1, d) else none := by
  unfold stepA
  rw [if_neg (by simp), if_neg (by simp), if_pos rfl]
theorem figs_place {l : List Nat} {st c m d : Nat} {w : W} (h : l[st]? = some c) (s : stepA w m d c = some (.figs, 1, d)) (hc : figC c = true) : ∃ m', After l (st + runLen figC 400 (l.drop st)) .figs m' d ∧ L l st w m d = L l (st + runLen figC 400 (l.drop st)) .figs m' d := by
  have r : runLen figC 400 (l.drop st) = runLen figC 399 (l.drop (st + 1)) + 1 := by
    rw [drop_at h]
    show (if figC c = true then _ else _) = _
    rw [if_pos hc]
  have e : st + runLen figC 400 (l.drop st) = st + 1 + runLen figC 399 (l.drop (st + 1)) := by omega
  refine ⟨1 + runLen figC 399 (l.drop (st + 1)), after_figs fun c' h1 h2 => ?_, ?_⟩
  · rw [e, ← List.getElem?_drop] at h1
    rw [run_stop h1 h2]
  · rw [L_some h s, e, run_place (fun m d c => step_figs) 399 (st + 1) 1 d rfl]
theorem tail_place {l : List Nat} {st m d : Nat} {w : W} {neg : Bool} (hw : ∀ c, l[st]? = some c → (figC c = true ∧ c ≠ 48 → stepA w m d c = some (.figs, 1, d)) ∧ (¬ (figC c = true ∧ c ≠ 48) → stepA w m d c = none)) (hn : l[st]? = none → L l st w m d = some st) :
    (∀ e, numTail l neg st = .error e → L l st w m d = some e) ∧ ∀ v e, numTail l neg st = .ok (v, e) → ∃ w' m', After l e w' m' d ∧ L l st w m d = L l e w' m' d := by
  unfold numTail
  cases h : l[st]? with
  | none => exact ⟨fun e q => by cases q; exact hn h, fun v e q => by cases q⟩
  | some c =>
    simp only
    obtain ⟨h1, h2⟩ := hw c h
    by_cases k : figC c = true ∧ c ≠ 48
    · rw [if_pos k]
      refine ⟨fun e q => (by cases q), fun v e q => ?_⟩
      cases q
      obtain ⟨m', a, b⟩ := figs_place h (h1 k) k.1
      exact ⟨_, m', a, b⟩
    · rw [if_neg k]
      refine ⟨fun e q => (by cases q; exact L_none h (h2 k)), fun v e q => (by cases q)⟩
theorem num_place {l : List Nat} {i c m d : Nat} {w : W} (hb : Beg w) (h : l[i]? = some c) (hs : ¬ small c = true) (hc : c = 45 ∨ figC c = true) :
    (∀ e, numFrom l i = .error e → L l i w m d = some e) ∧ ∀ v e, numFrom l i = .ok (v, e) → ∃ w' m', After l e w' m' d ∧ L l i w m d = L l e w' m' d := by
  have sb := step_beg hb (m := m) (d := d) (c := c)
  rw [if_neg hs] at sb
  unfold numFrom
  by_cases c48 : c = 48
  · subst c48
    rw [if_pos h]
    rw [if_pos (fig_iff.mpr (by omega)), if_pos rfl] at sb
    refine ⟨fun e q => (by cases q), fun v e q => ?_⟩
    cases q
    exact ⟨_, _, after_zero, L_some h sb⟩
  · rw [if_neg (by rw [h]; intro z; cases z; exact c48 rfl)]
    by_cases c45 : c = 45
    · subst c45
      rw [if_pos h]
      rw [if_neg (fun z => by have := fig_iff.mp z; omega), if_pos rfl] at sb
      rw [L_some h sb]
      refine tail_place (fun c' hc' => ?_) fun hn => ?_
      · rw [step_minus]
        exact ⟨fun k => if_pos k, fun k => if_neg k⟩
      · rw [L_end hn, if_neg (by simp)]
    · have hf : figC c = true := hc.elim (fun z => absurd z c45) id
      rw [if_neg (by rw [h]; intro z; cases z; exact c45 rfl)]
      rw [if_pos hf, if_neg c48] at sb
      refine tail_place (fun c' hc' => ?_) fun hn => ?_
      · rw [h] at hc'
        cases hc'
        exact ⟨fun _ => sb, fun k => absurd ⟨hf, c48⟩ k⟩
      · rw [h] at hn
        cases hn
theorem loop_place {l : List Nat} {f : Nat → Except Nat (PT × Nat)} {d : Nat} (hd : 0 < d) (hf : Fwd l f)
    (h : ∀ i w m, i ≤ l.length → Beg w → (w = .opened → l[i]? ≠ some 93) → (∀ e, f i = .error e → L l i w m d = some e) ∧ ∀ t e, f i = .ok (t, e) → ∃ w' m', After l e w' m' d ∧ L l i w m d = L l e w' m' d) :
    ∀ (k i : Nat) (w : W) (m : Nat) (acc : List PT), l.length < i + k → i ≤ l.length → Beg w → (w = .opened → l[i]? ≠ some 93) →
      (∀ e, loopF f l k i acc = .error e → L l i w m d = some e) ∧ ∀ t e, loopF f l k i acc = .ok (t, e) → ∃ w' m', After l e w' m' (d - 1) ∧ L l i w m d = L l e w' m' (d - 1)
  | 0, i, w, m, acc, hk, hi, _, _ => by omega
  | k + 1, i, w, m, acc, hk, hi, hb, ho => by
    obtain ⟨h1, h2⟩ := h i w m hi hb ho
    cases q : f i with
    | error e =>
      rw [loop_err q]
      refine ⟨fun e' z => ?_, fun t e' z => (by cases z)⟩
      cases z
      exact h1 _ q
    | ok r =>
      obtain ⟨t, e⟩ := r
      obtain ⟨w', m', a, b⟩ := h2 t e q
      obtain ⟨f1, f2⟩ := hf i t e q
      rw [loop_ok q, b]
      by_cases c93 : l[e]? = some 93
      · rw [if_pos c93]
        have s := a.2 93 c93
        rw [if_neg (by omega), if_pos rfl] at s
        refine ⟨fun e' z => (by cases z), fun t' e' z => ?_⟩
        cases z
        exact ⟨_, _, after_closed, L_some c93 s⟩
      · rw [if_neg c93]
        by_cases c44 : l[e]? = some 44
        · rw [if_pos c44]
          have s := a.2 44 c44
          rw [if_neg (by omega), if_neg (by decide), if_pos rfl] at s
          rw [L_some c44 s]
          have := (List.getElem?_eq_some_iff.mp c44).1
          exact loop_place hd hf h k (e + 1) .start 1 _ (by omega) (by omega) (.inl rfl) fun z => by cases z
        · rw [if_neg c44]
          refine ⟨fun e' z => ?_, fun t' e' z => (by cases z)⟩
          cases z
          cases q2 : l[e]? with
          | none =>
            rw [L_end q2, if_neg (by omega)]
          | some c =>
            have s := a.2 c q2
            rw [q2] at c93 c44
            rw [if_neg (by omega), if_neg (fun z => c93 (by rw [z])), if_neg (fun z => c44 (by rw [z]))] at s
            exact L_none q2 s
theorem item_place (l : List Nat) : ∀ (n i : Nat) (w : W) (m : Nat), n ≤ 40 → i ≤ l.length → Beg w → (w = .opened → l[i]? ≠ some 93 ∧ n < 40) →
    (∀ e, itemF l n i = .error e → L l i w m (40 - n) = some e) ∧ ∀ t e, itemF l n i = .ok (t, e) → ∃ w' m', After l e w' m' (40 - n) ∧ L l i w m (40 - n) = L l e w' m' (40 - n) := by
  intro n
  have base : ∀ (n i : Nat) (w : W) (m : Nat), i ≤ l.length → Beg w → (w = .opened → l[i]? ≠ some 93 ∧ n < 40) → (∀ c, l[i]? = some c → ¬ small c = true → ¬ (c = 45 ∨ figC c = true) → (c ≠ 91 ∨ n = 0) → n ≤ 40 → L l i w m (40 - n) = some i) ∧ (l[i]? = none → L l i w m (40 - n) = some i) := fun n i w m hi hb ho => by
    refine ⟨fun c h h1 h2 h3 hn => L_none h ?_, fun h => ?_⟩
    · rw [step_beg hb, if_neg h1, if_neg (fun z => h2 (.inr z)), if_neg (fun z => h2 (.inl z))]
      by_cases c91 : c = 91
      · have n0 : n = 0 := h3.elim (fun z => absurd c91 z) id
        rw [if_pos c91, if_neg (by omega)]
      · rw [if_neg c91]
        rcases hb with rfl | rfl
        · rw [if_pos rfl]
        · rw [if_neg (by simp)]
          have := (ho rfl).1
          rw [h] at this
          unfold tailA
          rw [if_neg (show ¬ c = 93 from fun z => this (by rw [z])), if_neg (show ¬ (c = 44 ∧ W.opened ≠ .opened) by simp)]
          split <;> rfl
    · rw [L_end h, if_neg]
      rcases hb with rfl | rfl
      · simp
      · have := (ho rfl).2
        omega
  have names : ∀ (n i : Nat) (w : W) (m c : Nat), Beg w → l[i]? = some c → small c = true → ∃ w' m', After l (nameAt l i).2 w' m' (40 - n) ∧ L l i w m (40 - n) = L l (nameAt l i).2 w' m' (40 - n) := fun n i w m c hb h hs => by
    have sb := step_beg hb (m := m) (d := 40 - n) (c := c)
    rw [if_pos hs] at sb
    have r : runLen small 12 (l.drop i) = runLen small 11 (l.drop (i + 1)) + 1 := by
      rw [drop_at h]
      show (if small c = true then _ else _) = _
      rw [if_pos hs]
    have e : (nameAt l i).2 = i + 1 + runLen small 11 (l.drop (i + 1)) := by
      show i + runLen small 12 (l.drop i) = _
      omega
    refine ⟨.name, 1 + runLen small 11 (l.drop (i + 1)), after_name fun c' h1 h2 => ?_, ?_⟩
    · rw [e, ← List.getElem?_drop] at h1
      rw [run_stop h1 h2]
    · rw [L_some h sb, e, run_place (fun m d c => step_name) 11 (i + 1) 1 _ rfl]
  have nums : ∀ (n i : Nat) (w : W) (m c : Nat), Beg w → l[i]? = some c → ¬ small c = true → (c = 45 ∨ figC c = true) →
      (∀ e, itemF l n i = .error e → L l i w m (40 - n) = some e) ∧ ∀ t e, itemF l n i = .ok (t, e) → ∃ w' m', After l e w' m' (40 - n) ∧ L l i w m (40 - n) = L l e w' m' (40 - n) := fun n i w m c hb h hs hc => by
    obtain ⟨n1, n2⟩ := num_place (d := 40 - n) (m := m) hb h hs hc
    rw [item_num h hs hc]
    cases q : numFrom l i with
    | error e' => exact ⟨fun e z => (by cases z; exact n1 _ q), fun t e z => (by cases z)⟩
    | ok r =>
      obtain ⟨v, e'⟩ := r
      refine ⟨fun e z => (by cases z), fun t e z => ?_⟩
      cases z
      exact n2 _ _ q
  induction n with
  | zero =>
    intro i w m hn hi hb ho
    obtain ⟨b1, b2⟩ := base 0 i w m hi hb ho
    cases h : l[i]? with
    | none =>
      rw [item_none h]
      exact ⟨fun e z => (by cases z; exact b2 h), fun t e z => (by cases z)⟩
    | some c =>
      by_cases hs : small c = true
      · rw [item_name h hs]
        refine ⟨fun e z => (by cases z), fun t e z => ?_⟩
        have e1 : (nameAt l i).2 = e := by injection z with z; rw [z]
        rw [← e1]
        exact names 0 i w m c hb h hs
      by_cases hc : c = 45 ∨ figC c = true
      · exact nums 0 i w m c hb h hs hc
      rw [item_bad h hs hc (.inr rfl)]
      exact ⟨fun e z => (by cases z; exact b1 c h hs hc (.inr rfl) (by omega)), fun t e z => (by cases z)⟩
  | succ n ih =>
    intro i w m hn hi hb ho
    obtain ⟨b1, b2⟩ := base (n + 1) i w m hi hb ho
    cases h : l[i]? with
    | none =>
      rw [item_none h]
      exact ⟨fun e z => (by cases z; exact b2 h), fun t e z => (by cases z)⟩
    | some c =>
      by_cases hs : small c = true
      · rw [item_name h hs]
        refine ⟨fun e z => (by cases z), fun t e z => ?_⟩
        have e1 : (nameAt l i).2 = e := by injection z with z; rw [z]
        rw [← e1]
        exact names (n + 1) i w m c hb h hs
      by_cases hc : c = 45 ∨ figC c = true
      · exact nums (n + 1) i w m c hb h hs hc
      by_cases c91 : c = 91
      · have sb := step_beg hb (m := m) (d := 40 - (n + 1)) (c := c)
        rw [if_neg hs, if_neg (fun z => hc (.inr z)), if_neg (fun z => hc (.inl z)), if_pos c91, if_pos (by omega), show 40 - (n + 1) + 1 = 40 - n by omega] at sb
        rw [L_some h sb]
        by_cases c93 : l[i + 1]? = some 93
        · rw [item_empty h hs hc c91 c93]
          refine ⟨fun e z => (by cases z), fun t e z => ?_⟩
          cases z
          have s2 : stepA .opened 1 (40 - n) 93 = some (.closed, 1, 40 - n - 1) := by
            rw [step_beg (.inr rfl), if_neg (fun z => by have := small_iff.mp z; omega), if_neg (fun z => by have := fig_iff.mp z; omega), if_neg (by decide), if_neg (by decide), if_neg (by decide)]
            unfold tailA
            rw [if_neg (by omega), if_pos rfl]
          rw [L_some c93 s2, show 40 - n - 1 = 40 - (n + 1) by omega]
          exact ⟨_, _, after_closed, rfl⟩
        · rw [item_more h hs hc c91 c93]
          have := (List.getElem?_eq_some_iff.mp h).1
          have lp := loop_place (d := 40 - n) (by omega) (item_fwd l n) (fun i w m h1 h2 h3 => ih i w m (by omega) h1 h2 fun z => ⟨h3 z, by omega⟩) (l.length + 1) (i + 1) .opened 1 [] (by omega) (by omega) (.inr rfl) fun _ => c93
          rw [show 40 - n - 1 = 40 - (n + 1) by omega] at lp
          exact lp
      · rw [item_bad h hs hc (.inl c91)]
        exact ⟨fun e z => (by cases z; exact b1 c h hs hc (.inl c91) hn), fun t e z => (by cases z)⟩
theorem read_place (l : List Nat) : (∀ e, readF l = .error e → L l 0 .start 0 0 = some e) ∧ ∀ t, readF l = .ok t → L l 0 .start 0 0 = none := by
  obtain ⟨h1, h2⟩ := item_place l 40 0 .start 0 (Nat.le_refl _) (Nat.zero_le _) (.inl rfl) fun z => by cases z
  have d0 : 40 - 40 = 0 := rfl
  rw [d0] at h1 h2
  unfold readF
  cases q : itemF l 40 0 with
  | error e => exact ⟨fun e' z => (by cases z; exact h1 _ q), fun t z => (by cases z)⟩
  | ok r =>
    obtain ⟨t, e⟩ := r
    obtain ⟨w', m', a, b⟩ := h2 t e q
    have fw := item_fwd l 40 0 t e q
    simp only
    rw [b]
    by_cases c : e < l.length
    · rw [if_pos c]
      refine ⟨fun e' z => ?_, fun t z => (by cases z)⟩
      cases z
      have ge := List.getElem?_eq_getElem c
      have s := a.2 _ ge
      rw [if_pos rfl] at s
      exact L_none ge s
    · rw [if_neg c]
      refine ⟨fun e' z => (by cases z), fun t z => ?_⟩
      rw [L_end (List.getElem?_eq_none (by omega)), if_pos ⟨rfl, a.1.1, a.1.2.1⟩]
end K04

set_option maxRecDepth 100000
set_option maxHeartbeats 4000000
namespace K04
open PySem PySem.Spec PyProof.Rows L2 Q RZ RT TL
/-! ### what is read has the text that was read -/
def seg (l : List Nat) (i e : Nat) : List Nat := (l.drop i).take (e - i)
theorem seg_app {l : List Nat} {i j e : Nat} (h1 : i ≤ j) (h2 : j ≤ e) : seg l i e = seg l i j ++ seg l j e := by
  unfold seg
  rw [show e - i = (j - i) + (e - j) by omega, List.take_add, List.drop_drop, show i + (j - i) = j by omega]
theorem seg_one {l : List Nat} {i c : Nat} (h : l[i]? = some c) : seg l i (i + 1) = [c] := by
  unfold seg
  rw [drop_at h, show i + 1 - i = 1 by omega]
  rfl
inductive Okt : PT → Prop
  | name (x : Str) (h : nameV (.str x) = true) : Okt (.name x)
  | num (i : Int) (h : 1 - 10 ^ 400 ≤ i ∧ i ≤ 10 ^ 400 - 1) : Okt (.num i)
  | seq (ds : List PT) (h : ∀ d ∈ ds, Okt d) : Okt (.seq ds)
theorem foldl_lt : ∀ (cs : List Nat) (acc : Nat), NumText.AllDigits cs → cs.foldl (fun acc c => acc * 10 + (c - 48)) acc < (acc + 1) * 10 ^ cs.length
  | [], acc, _ => by
    show acc < (acc + 1) * 1
    omega
  | c :: cs, acc, h => by
    have ih := foldl_lt cs (acc * 10 + (c - 48)) h.tail
    have hc := h.head
    have e : (acc * 10 + (c - 48) + 1) * 10 ^ cs.length ≤ ((acc + 1) * 10) * 10 ^ cs.length := Nat.mul_le_mul_right _ (by omega)
    rw [Nat.mul_assoc, ← Nat.pow_succ'] at e
    exact Nat.lt_of_lt_of_le ih e
theorem digitsVal_lt (cs : List Nat) (h : NumText.AllDigits cs) : NumText.digitsVal cs < 10 ^ cs.length := by
  have := foldl_lt cs 0 h
  rw [Nat.zero_add, Nat.one_mul] at this
  exact this
theorem numL_digitsVal {cs : List Nat} (h : NumText.AllDigits cs) (hne : cs ≠ []) (hf : ∃ c r, cs = c :: r ∧ 49 ≤ c) : numL (NumText.digitsVal cs) = cs := by
  obtain ⟨n, hn⟩ : ∃ n, cs.length = n + 1 := ⟨cs.length - 1, by cases cs with
    | nil => exact absurd rfl hne
    | cons c r => rfl⟩
  unfold numL
  rw [NumText.toDigits_digitsVal n cs hn h (.inr hf), List.map_map]
  have : ∀ c ∈ cs, (Char.toNat ∘ Char.ofNat) c = c := fun c m => by
    have := h c m
    have e : ∀ k : Nat, k < 10 → (Char.ofNat (48 + k)).toNat = 48 + k := by decide
    have := e (c - 48) (by omega)
    rw [show 48 + (c - 48) = c by omega] at this
    exact this
  rw [List.map_congr_left this, List.map_id']
theorem tail_text {l : List Nat} {st e : Nat} {neg : Bool} {v : Int} (h : numTail l neg st = .ok (v, e)) : ∃ m : Nat, v = (if neg = true then -1 else 1) * (m : Int) ∧ 0 < m ∧ m < 10 ^ 400 ∧ numL m = seg l st e ∧ st ≤ e := by
  unfold numTail at h
  cases q : l[st]? with
  | none => rw [q] at h; cases h
  | some c =>
    rw [q] at h
    simp only at h
    split at h
    · rename_i hc
      obtain ⟨r1, r2⟩ := run_le figC 400 (l.drop st)
      have r0 : 0 < runLen figC 400 (l.drop st) := (run_step figC 400 (l.drop st) 0 (Nat.zero_le _)).mpr ⟨by omega, _, by rw [List.getElem?_drop, Nat.add_zero]; exact q, hc.1⟩
      have ad : NumText.AllDigits ((l.drop st).take (runLen figC 400 (l.drop st))) := fun x m => fig_iff.mp (run_all figC 400 _ x m)
      obtain ⟨k, hk⟩ : ∃ k, runLen figC 400 (l.drop st) = k + 1 := ⟨runLen figC 400 (l.drop st) - 1, by omega⟩
      have hd : (l.drop st).take (runLen figC 400 (l.drop st)) = c :: (l.drop (st + 1)).take k := by
        rw [hk, drop_at q]
        rfl
      have c49 : 49 ≤ c := by
        have := fig_iff.mp hc.1
        have := hc.2
        omega
      cases h
      refine ⟨_, rfl, ?_, ?_, ?_, by omega⟩
      · rw [hd]
        exact NumText.digitsVal_pos c49
      · have := digitsVal_lt _ ad
        refine Nat.lt_of_lt_of_le this (Nat.pow_le_pow_right (by decide) ?_)
        rw [List.length_take]
        omega
      · rw [numL_digitsVal ad (by rw [hd]; simp) ⟨c, _, hd, c49⟩]
        unfold seg
        rw [show st + runLen figC 400 (l.drop st) - st = runLen figC 400 (l.drop st) by omega]
    · cases h
theorem num_text {l : List Nat} {i e : Nat} {v : Int} (h : numFrom l i = .ok (v, e)) : (1 - 10 ^ 400 ≤ v ∧ v ≤ 10 ^ 400 - 1) ∧ tl (Str.ofString (toString v)) = seg l i e := by
  have h2 : ((10 : Int) ^ 400) = ((10 ^ 400 : Nat) : Int) := by push_cast; rfl
  have big : 1 ≤ (10 : Nat) ^ 400 := Nat.pos_of_ne_zero (by decide +kernel)
  unfold numFrom at h
  split at h
  · rename_i c
    cases h
    refine ⟨by rw [h2]; omega, ?_⟩
    rw [seg_one c, show tl (Str.ofString (toString (0 : Int))) = numL 0 from tl_num 0, numL_lt (by decide)]
  · split at h
    · rename_i c
      obtain ⟨m, rfl, m0, m1, e1, e2⟩ := tail_text h
      rw [if_pos rfl]
      refine ⟨by rw [h2]; omega, ?_⟩
      obtain ⟨k, rfl⟩ : ∃ k, m = k + 1 := ⟨m - 1, by omega⟩
      have : (-1 : Int) * ((k + 1 : Nat) : Int) = Int.negSucc k := by
        rw [Int.neg_mul, Int.one_mul]
        rfl
      rw [this, tl_neg, e1, seg_app (Nat.le_succ i) e2, seg_one c]
      rfl
    · obtain ⟨m, rfl, m0, m1, e1, e2⟩ := tail_text h
      rw [if_neg (by decide), Int.one_mul]
      refine ⟨by rw [h2]; omega, ?_⟩
      rw [← e1]
      exact tl_num m
/-- what a reader of pieces gives -/
def Txt' (l : List Nat) (n : Nat) (f : Nat → Except Nat (PT × Nat)) : Prop := ∀ i t e, f i = .ok (t, e) → ∃ z, textOf n t = some z ∧ tl z = seg l i e ∧ Okt t ∧ size t ≤ 502 * (e - i)
theorem textAll_app1 {n : Nat} {ds : List PT} {d : PT} {zs : List Str} {z : Str} (h : textAll n ds = some zs) (e : textOf n d = some z) : textAll n (ds ++ [d]) = some (zs ++ [z]) := textAll_snoc h e
theorem joinL_snoc : ∀ (ps : List (List Nat)) (p : List Nat), ps ≠ [] → joinL [44] (ps ++ [p]) = joinL [44] ps ++ 44 :: p
  | [], _, h => absurd rfl h
  | [a], p, _ => rfl
  | a :: b :: r, p, _ => by
    show a ++ ([44] ++ joinL [44] (b :: r ++ [p])) = a ++ ([44] ++ joinL [44] (b :: r)) ++ 44 :: p
    rw [joinL_snoc (b :: r) p (by simp)]
    simp
theorem loop_text {l : List Nat} {n : Nat} {f : Nat → Except Nat (PT × Nat)} (hf : Txt' l n f) (fw : Fwd l f) : ∀ (k s i : Nat) (acc : List PT) (zs : List Str) (t : PT) (e : Nat), s ≤ i → loopF f l k i acc = .ok (t, e) →
    textAll n acc = some zs → (acc = [] ∧ s = i ∨ acc ≠ [] ∧ seg l s i = joinL [44] (zs.map tl) ++ [44]) → (∀ d ∈ acc, Okt d) → sizeAll acc ≤ 502 * (i - s) →
    ∃ ds zs', t = .seq ds ∧ ds ≠ [] ∧ textAll n ds = some zs' ∧ seg l s e = joinL [44] (zs'.map tl) ++ [93] ∧ (∀ d ∈ ds, Okt d) ∧ sizeAll ds ≤ 502 * (e - s) ∧ s ≤ e
  | 0, s, i, acc, zs, t, e, si, h, _, _, _, _ => by cases h
  | k + 1, s, i, acc, zs, t, e, si, h, ha, hs, ho, hz => by
    cases q : f i with
    | error e' => rw [loop_err q] at h; cases h
    | ok r =>
      obtain ⟨t', e'⟩ := r
      obtain ⟨z, z1, z2, z3, z4⟩ := hf i t' e' q
      obtain ⟨f1, f2⟩ := fw i t' e' q
      rw [loop_ok q] at h
      have ta := textAll_snoc ha z1
      have oa : ∀ d ∈ acc ++ [t'], Okt d := fun d hd => by
        rcases List.mem_append.mp hd with hd | hd
        · exact ho d hd
        · rw [List.mem_singleton.mp hd]
          exact z3
      have za : sizeAll (acc ++ [t']) = sizeAll acc + size t' + 1 := by
        have app : ∀ (a : List PT) (d : PT), sizeAll (a ++ [d]) = sizeAll a + size d + 1 := fun a d => by
          induction a with
          | nil => show size d + 1 + 0 = 0 + size d + 1; omega
          | cons c a ih => show size c + 1 + sizeAll (a ++ [d]) = size c + 1 + sizeAll a + size d + 1; omega
        exact app acc t'
      have sj : seg l s e' = joinL [44] ((zs ++ [z]).map tl) := by
        rw [List.map_append, seg_app si (Nat.le_of_lt f1), ← z2]
        rcases hs with ⟨rfl, rfl⟩ | ⟨hne, hs⟩
        · have e0 : zs = [] := by
            have := textAll_nil ha
            exact this
          subst e0
          unfold seg
          rw [Nat.sub_self, List.take_zero]
          rfl
        · have ne : zs.map tl ≠ [] := fun h0 => by
            have h1 : zs = [] := List.map_eq_nil_iff.mp h0
            subst h1
            cases acc with
            | nil => exact hne rfl
            | cons c r =>
              obtain ⟨y, ys, e1, -⟩ := textAll_cons ha
              cases e1
          rw [hs]
          show _ = joinL [44] (zs.map tl ++ [tl z])
          rw [joinL_snoc _ _ ne, List.append_assoc]
          rfl
      by_cases c93 : l[e']? = some 93
      · rw [if_pos c93] at h
        cases h
        refine ⟨acc ++ [t'], zs ++ [z], rfl, by simp, ta, ?_, oa, by omega, by omega⟩
        rw [seg_app (show s ≤ e' by omega) (Nat.le_succ e'), seg_one c93, sj]
      · rw [if_neg c93] at h
        by_cases c44 : l[e']? = some 44
        · rw [if_pos c44] at h
          refine loop_text hf fw k s (e' + 1) (acc ++ [t']) (zs ++ [z]) t e (by omega) h ta (.inr ⟨by simp, ?_⟩) oa (by omega)
          rw [seg_app (show s ≤ e' by omega) (Nat.le_succ e'), seg_one c44, sj]
        · rw [if_neg c44] at h
          cases h
theorem name_text {l : List Nat} {n i c e : Nat} {t : PT} (h : l[i]? = some c) (hs : small c = true) (q : nameAt l i = (t, e)) : ∃ z, textOf n t = some z ∧ tl z = seg l i e ∧ Okt t ∧ size t ≤ 502 * (e - i) := by
  obtain ⟨r1, r2⟩ := run_le small 12 (l.drop i)
  have r0 : 0 < runLen small 12 (l.drop i) := (run_step small 12 (l.drop i) 0 (Nat.zero_le _)).mpr ⟨by omega, _, by rw [List.getElem?_drop, Nat.add_zero]; exact h, hs⟩
  cases q
  have ln : (subS l i (runLen small 12 (l.drop i))).length = runLen small 12 (l.drop i) := by
    show (((l.drop i).take _).toArray).size = _
    rw [List.size_toArray, List.length_take]
    omega
  refine ⟨_, by cases n <;> rfl, ?_, .name _ ?_, ?_⟩
  · unfold seg
    rw [show i + runLen small 12 (l.drop i) - i = runLen small 12 (l.drop i) by omega]
    rfl
  · show ((decide (1 ≤ (subS l i (runLen small 12 (l.drop i))).length) && decide ((subS l i (runLen small 12 (l.drop i))).length ≤ 12)) && _) = true
    rw [ln, decide_eq_true (show 1 ≤ _ from r0), decide_eq_true r1, Bool.true_and, Bool.true_and, List.all_eq_true]
    exact fun c m => run_all small 12 _ c m
  · show 500 ≤ 502 * (i + runLen small 12 (l.drop i) - i)
    omega
theorem item_text (l : List Nat) : ∀ n, Txt' l n (itemF l n) := by
  have nums : ∀ (n i c e : Nat) (t : PT), l[i]? = some c → ¬ small c = true → (c = 45 ∨ figC c = true) → itemF l n i = .ok (t, e) → ∃ z, textOf n t = some z ∧ tl z = seg l i e ∧ Okt t ∧ size t ≤ 502 * (e - i) := fun n i c e t h hs hc q => by
    rw [item_num h hs hc] at q
    cases y : numFrom l i with
    | error e' => rw [y] at q; cases q
    | ok r =>
      obtain ⟨v, e'⟩ := r
      rw [y] at q
      cases q
      obtain ⟨a, b⟩ := num_text y
      have fw := num_fwd y
      exact ⟨_, by cases n <;> rfl, b, .num _ a, by show 500 ≤ 502 * (e - i); omega⟩
  intro n
  induction n with
  | zero =>
    intro i t e q
    cases h : l[i]? with
    | none => rw [item_none h] at q; cases q
    | some c =>
      by_cases hs : small c = true
      · rw [item_name h hs] at q
        exact name_text h hs (by injection q)
      by_cases hc : c = 45 ∨ figC c = true
      · exact nums 0 i c e t h hs hc q
      · rw [item_bad h hs hc (.inr rfl)] at q
        cases q
  | succ n ih =>
    intro i t e q
    cases h : l[i]? with
    | none => rw [item_none h] at q; cases q
    | some c =>
      by_cases hs : small c = true
      · rw [item_name h hs] at q
        exact name_text h hs (by injection q)
      by_cases hc : c = 45 ∨ figC c = true
      · exact nums (n + 1) i c e t h hs hc q
      by_cases c91 : c = 91
      · by_cases c93 : l[i + 1]? = some 93
        · rw [item_empty h hs hc c91 c93] at q
          cases q
          refine ⟨_, rfl, ?_, .seq _ (by simp), by show 2 ≤ 502 * (i + 2 - i); omega⟩
          rw [tl_seq, seg_app (Nat.le_succ i) (show i + 1 ≤ i + 2 by omega), seg_one h, seg_one c93, c91]
          rfl
        · rw [item_more h hs hc c91 c93] at q
          obtain ⟨ds, zs, rfl, ne, ta, sg, ok, sz, le⟩ := loop_text ih (item_fwd l n) (l.length + 1) (i + 1) (i + 1) [] [] t e (Nat.le_refl _) q (by unfold textAll; rfl) (.inl ⟨rfl, rfl⟩) (by simp) (Nat.zero_le _)
          refine ⟨_, by show (textAll n ds).map _ = _; rw [ta]; rfl, ?_, .seq _ ok, by show sizeAll ds + 2 ≤ 502 * (e - i); omega⟩
          rw [tl_seq, seg_app (Nat.le_succ i) le, seg_one h, sg, c91]
          rfl
      · rw [item_bad h hs hc (.inl c91)] at q
        cases q
theorem read_text {z : Str} {t : PT} (h : readF z.cps.toList = .ok t) : textOf 40 t = some z ∧ Okt t ∧ size t ≤ 502 * z.length := by
  unfold readF at h
  cases q : itemF z.cps.toList 40 0 with
  | error e => rw [q] at h; cases h
  | ok r =>
    obtain ⟨t', e⟩ := r
    rw [q] at h
    simp only at h
    split at h
    · cases h
    · rename_i c
      cases h
      obtain ⟨y, h1, h2, h3, h4⟩ := item_text _ 40 0 t e q
      have fw := item_fwd _ _ _ _ _ q
      have zl : z.cps.toList.length = z.length := Array.length_toList
      have ee : e = z.cps.toList.length := by omega
      have : y = z := ext_tl (by
        rw [h2, ee]
        unfold seg
        rw [List.drop_zero, Nat.sub_zero, List.take_length])
      rw [this] at h1
      exact ⟨h1, h3, by omega⟩
theorem Rt.tr {K : PySem.W.Frag} {H : Hp} {v : V} {t : PT} (h : Rt H v t) (k : Okt t) : Tr K H v t := by
  induction h with
  | name x => cases k with | name _ h => exact .name x h
  | num i => cases k with | num _ h => exact .num i h
  | @tup a xs ds e l r ih =>
    cases k with
    | seq _ hk =>
      refine .tup e ?_
      have mk : ∀ (xs : List V) (ds : List PT), xs.length = ds.length → (∀ (i : Nat) (x : V) (d : PT), xs[i]? = some x → ds[i]? = some d → Tr K H x d) → TrAll K H xs ds := by
        intro xs
        induction xs with
        | nil =>
          intro ds l _
          cases ds with
          | nil => exact .nil
          | cons _ _ => simp at l
        | cons x xs ih2 =>
          intro ds l h
          cases ds with
          | nil => simp at l
          | cons d ds => exact .cons (h 0 x d rfl rfl) (ih2 ds (by simpa using l) fun i y e h1 h2 => h (i + 1) y e (by simpa using h1) (by simpa using h2))
      exact mk xs ds l fun i x d hx hd => ih i x d hx hd (hk d (List.mem_of_getElem? hd))
end K04

set_option maxRecDepth 100000
set_option maxHeartbeats 4000000
namespace K04
open PySem PySem.Spec PyProof.Rows L2 Q RZ RT TL
def wT : W → Str
  | .start => "start"
  | .opened => "opened"
  | .name => "name"
  | .figs => "figures"
  | .minus => "minus"
  | .zero => "zero"
  | .closed => "closed"
theorem wT_inj : ∀ {w u : W}, wT w = wT u → w = u := by
  have : ∀ w u : W, decide (wT w = wT u) = decide (w = u) := by
    intro w u
    cases w <;> cases u <;> decide +kernel
  intro w u h
  have e := this w u
  rw [decide_eq_true h] at e
  exact of_decide_eq_true e.symm
theorem wT_eq (w u : W) : decide (V.str (wT w) = V.str (wT u)) = true ↔ w = u := by
  rw [decide_eq_true_iff]
  exact ⟨fun h => wT_inj (by injection h), fun h => by rw [h]⟩
section
variable {P : Program} {w : World} {K : PySem.W.Frag} {mg : Str → Option Value} {base : Heap} {f : Addr} {fd : FuncData}
def stO (u : W) (m d : Nat) : HO := .lst [.str (wT u), .int m, .int d]
def spStep : Sp := fun vs H Q _ => ∃ (p : Addr) (c : Nat) (u : W) (m d : Nat), vs = [.ref p, .str ⟨#[c]⟩] ∧ H p = some (stO u m d) ∧ (stepA u m d c = none → Q .non H) ∧ ∀ u' m' d', stepA u m d c = some (u', m', d') → ∀ q, H q = none → Q (.ref q) (upd H q (stO u' m' d'))
theorem C_step (T : Tx K mg) : Cal P w K mg base CX0 1 "_law_step" ["now", "sign"] [] spStep := by
  obtain ⟨fd, F⟩ := T.d__law_step
  refine ⟨_, fd, [], F.ok sc__law_step (fun vs H Q E h => ?_) (fun cdv A outer s H vs Q E hr h => ?_), T.g__law_step, F.kp, F.bindsN fun _ _ _ _ _ _ us hl => match us, hl with | [_, _], _ => rfl, .nil⟩
  · obtain ⟨p, c, u, m, d, rfl, _⟩ := h
    rfl
  · obtain ⟨p, c, u, m, d, rfl, hp, no, yes⟩ := h
    have three : 3 ≤ sizeLine := by decide
    have mk : ∀ (u' : W) (m' d' : Nat) (x : Str) (i j : Int), stepA u m d c = some (u', m', d') → x = wT u' → i = m' → j = d' → ∀ q, H q = none → Q (.ref q) (upd H q (.lst [.str x, .int i, .int j])) := by
      rintro u' m' d' x i j e rfl rfl rfl q nq
      exact yes u' m' d' e q nq
    refine ⟨_, PSs.nox (pss_cons (ps_set (i := 2) sc__law_step.nd rfl (Or.inl rfl) (pe_ix ix_list (pv 0) pe_int (fun _ _ => rfl)))
      (pss_cons (ps_set (i := 3) sc__law_step.nd rfl (Or.inl rfl) (pe_ix ix_list (pv 0) pe_int (fun _ _ => rfl)))
      (pss_cons (ps_set (i := 4) sc__law_step.nd rfl (Or.inl rfl) (pe_ix ix_list (pv 0) pe_int (fun _ _ => rfl)))
      (pss_cons (ps_set (i := 5) sc__law_step.nd rfl (Or.inl rfl) (pe_cmpR op_in_sign (pv 1) pe_str rfl))
      (pss_cons (ps_set (i := 6) sc__law_step.nd rfl (Or.inl rfl) (pe_cmpR op_in_sign (pv 1) pe_str rfl))
      (C8.pss_cut (ps_if (PW.pt (pw_and (pt_cmpR op_eq (pv 2) pe_str (nomark _)) (pw_and1 (pt_val (pv 5)))))
        (pss_one (ps_ret (pe_ifExp (pt_cmpR op_lt (pv 3) pe_int (nomark _)) (pe_lst (pa_cons pe_str (pa_cons (pe_op op_add (pv 3) pe_int) (pa_cons (pv 4) pa_nil)))) pe_non)))
        pss_nil)
      (C8.pss_cut (ps_if (PW.pt (pw_and (pt_cmpR op_eq (pv 2) pe_str (nomark _)) (pw_and1 (pt_val (pv 6)))))
        (pss_one (ps_ret (pe_ifExp (pt_cmpR op_lt (pv 3) pe_int (nomark _)) (pe_lst (pa_cons pe_str (pa_cons (pe_op op_add (pv 3) pe_int) (pa_cons (pv 4) pa_nil)))) pe_non)))
        pss_nil)
      (C8.pss_cut (ps_if (pt_cmpR op_eq (pv 2) pe_str (nomark _))
        (pss_one (ps_ret (pe_ifExp (PW.pt (pw_and (pt_val (pv 6)) (pw_and1 (pt_cmpR op_ne (pv 1) pe_str (nomark _))))) (pe_lst (pa_cons pe_str (pa_cons pe_int (pa_cons (pv 4) pa_nil)))) pe_non)))
        pss_nil)
      (C8.pss_cut (ps_if (PW.pt (pw_or (pt_cmpR op_eq (pv 2) pe_str (nomark _)) (pw_or1 (pt_cmpR op_eq (pv 2) pe_str (nomark _)))))
        (pss_cons (ps_if (pt_val (pv 5))
          (pss_one (ps_ret (pe_lst (pa_cons pe_str (pa_cons pe_int (pa_cons (pv 4) pa_nil))))))
          pss_nil)
        (pss_cons (ps_if (pt_val (pv 6))
          (pss_one (ps_ret (pe_ifExp (pt_cmpR op_eq (pv 1) pe_str (nomark _)) (pe_lst (pa_cons pe_str (pa_cons pe_int (pa_cons (pv 4) pa_nil)))) (pe_lst (pa_cons pe_str (pa_cons pe_int (pa_cons (pv 4) pa_nil)))))))
          pss_nil)
        (pss_cons (ps_if (pt_cmpR op_eq (pv 1) pe_str (nomark _))
          (pss_one (ps_ret (pe_lst (pa_cons pe_str (pa_cons pe_int (pa_cons (pv 4) pa_nil))))))
          pss_nil)
        (pss_cons (ps_if (pt_cmpR op_eq (pv 1) pe_str (nomark _))
          (pss_one (ps_ret (pe_ifExp (pt_cmpR op_lt (pv 4) pe_int (nomark _)) (pe_lst (pa_cons pe_str (pa_cons pe_int (pa_cons (pe_op op_add (pv 4) pe_int) pa_nil)))) pe_non)))
          pss_nil)
        (pss_one (ps_if (pt_cmpR op_eq (pv 2) pe_str (nomark _))
          (pss_one (ps_ret pe_non))
          pss_nil))))))
        pss_nil)
      (C8.pss_cut (ps_if (PW.pt (pw_or (pt_cmpR op_eq (pv 2) pe_str (nomark _)) (pw_or1 (pt_cmpR op_eq (pv 4) pe_int (nomark _)))))
        (pss_one (ps_ret pe_non))
        pss_nil)
      (pss_cons (ps_if (pt_cmpR op_eq (pv 1) pe_str (nomark _))
        (pss_one (ps_ret (pe_lst (pa_cons pe_str (pa_cons pe_int (pa_cons (pe_op op_sub (pv 4) pe_int) pa_nil))))))
        pss_nil)
      (pss_cons (ps_if (PW.pt (pw_and (pt_cmpR op_eq (pv 1) pe_str (nomark _)) (pw_and1 (pt_cmpR op_ne (pv 2) pe_str (nomark _)))))
        (pss_one (ps_ret (pe_lst (pa_cons pe_str (pa_cons pe_int (pa_cons (pv 4) pa_nil))))))
        pss_nil)
      (pss_one (ps_ret pe_non)))))))))))))), ?_⟩
    refine ⟨_, rfl, p, _, 0, _, rfl, rfl, SqL.of hp, rfl, _, rfl, p, _, 1, _, rfl, rfl, SqL.of hp, rfl, _, rfl, p, _, 2, _, rfl, rfl, SqL.of hp, rfl, _, rfl, c, lettersT, rfl, rfl, _, rfl, c, _, rfl, rfl, ?_⟩
    have un : stepA u m d c = stepA u m d c := rfl
    conv at un => rhs; unfold stepA
    -- a name goes on
    refine ⟨fun σ H' => H' = H ∧ σ = [some (.ref p), some (.str ⟨#[c]⟩), some (.str (wT u)), some (.int m), some (.int d), some (.bl (small c)), some (.bl (figC c))] ∧ ¬ (u = .name ∧ small c = true), ?_, ?_⟩
    · refine ⟨_, rfl, rfl, _, rfl, ite2 (fun c1 => ?_) (fun c1 => ⟨rfl, rfl, fun k => c1 ((wT_eq u .name).mpr k.1)⟩)⟩
      refine ⟨_, rfl, _, rfl, ite2 (fun c2 => ?_) (fun c2 => ⟨rfl, rfl, fun k => c2 k.2⟩)⟩
      rw [if_pos ⟨(wT_eq u .name).mp c1, c2⟩] at un
      refine ⟨_, rfl, _, _, rfl, rfl, _, rfl, ite2 (fun c3 => ?_) (fun c3 => ?_)⟩
      · rw [if_pos (show m < 12 by have := of_decide_eq_true c3; omega)] at un
        exact ⟨_, rfl, _, _, rfl, rfl, _, rfl, three, fun q nq => mk _ _ _ _ _ _ un rfl (Int.natCast_add m 1).symm rfl q nq⟩
      · rw [if_neg (show ¬ m < 12 from fun k => c3 (decide_eq_true (by show (m : Int) < 12; omega)))] at un
        exact no un
    rintro σ H' ⟨rfl, rfl, n1⟩
    rw [if_neg n1] at un
    -- figures go on
    refine ⟨fun σ H2 => H2 = H' ∧ σ = [some (.ref p), some (.str ⟨#[c]⟩), some (.str (wT u)), some (.int m), some (.int d), some (.bl (small c)), some (.bl (figC c))] ∧ ¬ (u = .figs ∧ figC c = true), ?_, ?_⟩
    · refine ⟨_, rfl, rfl, _, rfl, ite2 (fun c1 => ?_) (fun c1 => ⟨rfl, rfl, fun k => c1 ((wT_eq u .figs).mpr k.1)⟩)⟩
      refine ⟨_, rfl, _, rfl, ite2 (fun c2 => ?_) (fun c2 => ⟨rfl, rfl, fun k => c2 k.2⟩)⟩
      rw [if_pos ⟨(wT_eq u .figs).mp c1, c2⟩] at un
      refine ⟨_, rfl, _, _, rfl, rfl, _, rfl, ite2 (fun c3 => ?_) (fun c3 => ?_)⟩
      · rw [if_pos (show m < 400 by have := of_decide_eq_true c3; omega)] at un
        exact ⟨_, rfl, _, _, rfl, rfl, _, rfl, three, fun q nq => mk _ _ _ _ _ _ un rfl (Int.natCast_add m 1).symm rfl q nq⟩
      · rw [if_neg (show ¬ m < 400 from fun k => c3 (decide_eq_true (by show (m : Int) < 400; omega)))] at un
        exact no un
    rintro σ H2 ⟨rfl, rfl, n2⟩
    rw [if_neg n2] at un
    -- a minus
    refine ⟨fun σ H' => H' = H2 ∧ σ = [some (.ref p), some (.str ⟨#[c]⟩), some (.str (wT u)), some (.int m), some (.int d), some (.bl (small c)), some (.bl (figC c))] ∧ ¬ u = .minus, ?_, ?_⟩
    · refine ⟨_, rfl, rfl, _, rfl, ite2 (fun c1 => ?_) (fun c1 => ⟨rfl, rfl, fun k => c1 ((wT_eq u .minus).mpr k)⟩)⟩
      rw [if_pos ((wT_eq u .minus).mp c1)] at un
      refine ⟨_, rfl, _, rfl, ite2 (fun c2 => ?_) (fun c2 => ?_)⟩
      · refine ⟨_, rfl, rfl, _, rfl, ite2 (fun c3 => ?_) (fun c3 => ?_)⟩
        · rw [if_pos ⟨c2, fun k => by rw [(one_sign s0).mpr k] at c3; cases c3⟩] at un
          exact ⟨_, rfl, three, fun q nq => mk _ _ _ _ _ _ un rfl rfl rfl q nq⟩
        · rw [if_neg (fun k => c3 (by
            cases e : decide (V.str ⟨#[c]⟩ = V.str "0") with
            | true => exact absurd ((one_sign s0).mp e) k.2
            | false => rfl))] at un
          exact no un
      · rw [if_neg (fun k => c2 k.1)] at un
        exact no un
    rintro σ H3 ⟨rfl, rfl, n3⟩
    rw [if_neg n3] at un
    -- a piece may begin
    refine ⟨fun σ H' => H' = H3 ∧ σ = [some (.ref p), some (.str ⟨#[c]⟩), some (.str (wT u)), some (.int m), some (.int d), some (.bl (small c)), some (.bl (figC c))] ∧ stepA u m d c = tailA u d c, ?_, ?_⟩
    · have beg : ∀ (hb : u = .start ∨ u = .opened), stepA u m d c = if small c = true then some (.name, 1, d)
          else if figC c = true then (if c = 48 then some (.zero, 1, d) else some (.figs, 1, d))
          else if c = 45 then some (.minus, 1, d)
          else if c = 91 then (if d < 40 then some (.opened, 1, d + 1) else none)
          else if u = .start then none
          else tailA u d c := fun hb => by rw [un, if_pos hb]
      refine ⟨_, rfl, rfl, _, rfl, ?_⟩
      refine (fun (body : (u = .start ∨ u = .opened) → _) (rest : ¬ (u = .start ∨ u = .opened) → _) => ite2 (fun c1 => body (.inl ((wT_eq u .start).mp c1))) (fun c1 => ⟨_, rfl, rfl, _, rfl, ite2 (fun c2 => body (.inr ((wT_eq u .opened).mp c2))) (fun c2 => rest fun k => k.elim (fun k => c1 ((wT_eq u .start).mpr k)) fun k => c2 ((wT_eq u .opened).mpr k))⟩)) ?_ ?_
      case refine_2 => exact fun k => ⟨rfl, rfl, by rw [un, if_neg k]⟩
      intro hb
      replace un := beg hb
      refine ⟨_, rfl, _, rfl, ite2 (fun c1 => ?_) (fun c1 => ?_)⟩
      · rw [if_pos c1] at un
        exact ⟨_, rfl, three, fun q nq => mk _ _ _ _ _ _ un rfl rfl rfl q nq⟩
      rw [if_neg c1] at un
      refine ⟨_, rfl, _, rfl, ite2 (fun c2 => ?_) (fun c2 => ?_)⟩
      · rw [if_pos c2] at un
        refine ⟨_, rfl, rfl, _, rfl, ite2 (fun c3 => ?_) (fun c3 => ?_)⟩
        · rw [if_pos ((one_sign s0).mp c3)] at un
          exact ⟨_, rfl, three, fun q nq => mk _ _ _ _ _ _ un rfl rfl rfl q nq⟩
        · rw [if_neg (fun k => c3 ((one_sign s0).mpr k))] at un
          exact ⟨_, rfl, three, fun q nq => mk _ _ _ _ _ _ un rfl rfl rfl q nq⟩
      rw [if_neg c2] at un
      refine ⟨_, rfl, rfl, _, rfl, ite2 (fun c3 => ?_) (fun c3 => ?_)⟩
      · rw [if_pos ((one_sign sM).mp c3)] at un
        exact ⟨_, rfl, three, fun q nq => mk _ _ _ _ _ _ un rfl rfl rfl q nq⟩
      rw [if_neg (fun k => c3 ((one_sign sM).mpr k))] at un
      refine ⟨_, rfl, rfl, _, rfl, ite2 (fun c4 => ?_) (fun c4 => ?_)⟩
      · rw [if_pos ((one_sign sB).mp c4)] at un
        refine ⟨_, rfl, _, _, rfl, rfl, _, rfl, ite2 (fun c5 => ?_) (fun c5 => ?_)⟩
        · rw [if_pos (show d < 40 by have := of_decide_eq_true c5; omega)] at un
          exact ⟨_, rfl, _, _, rfl, rfl, three, fun q nq => mk _ _ _ _ _ _ un rfl rfl (Int.natCast_add d 1).symm q nq⟩
        · rw [if_neg (show ¬ d < 40 from fun k => c5 (decide_eq_true (by show (d : Int) < 40; omega)))] at un
          exact no un
      rw [if_neg (fun k => c4 ((one_sign sB).mpr k))] at un
      refine ⟨_, rfl, rfl, _, rfl, ite2 (fun c5 => ?_) (fun c5 => ?_)⟩
      · rw [if_pos ((wT_eq u .start).mp c5)] at un
        exact no un
      · rw [if_neg (fun k => c5 ((wT_eq u .start).mpr k))] at un
        exact ⟨rfl, rfl, un⟩
    rintro σ H4 ⟨rfl, rfl, un⟩
    unfold tailA at un
    -- not within brackets
    refine ⟨fun σ H' => H' = H4 ∧ σ = [some (.ref p), some (.str ⟨#[c]⟩), some (.str (wT u)), some (.int m), some (.int d), some (.bl (small c)), some (.bl (figC c))] ∧ ¬ d = 0, ?_, ?_⟩
    · refine ⟨_, rfl, rfl, _, rfl, ite2 (fun c1 => absurd ((wT_eq u .minus).mp c1) n3) (fun c1 => ?_)⟩
      refine ⟨_, rfl, rfl, _, rfl, ite2 (fun c2 => ?_) (fun c2 => ⟨rfl, rfl, fun k => c2 (by rw [k]; rfl)⟩)⟩
      have d0 : d = 0 := by
        have := of_decide_eq_true c2
        injection this
        omega
      rw [if_pos d0] at un
      exact no un
    rintro σ H5 ⟨rfl, rfl, nd⟩
    rw [if_neg nd] at un
    refine ⟨_, rfl, rfl, _, rfl, ite2 (fun c1 => ?_) (fun c1 => ?_)⟩
    · rw [if_pos ((one_sign sE).mp c1)] at un
      exact ⟨_, rfl, _, _, rfl, rfl, three, fun q nq => mk _ _ _ _ _ _ un rfl rfl (by omega) q nq⟩
    rw [if_neg (fun k => c1 ((one_sign sE).mpr k))] at un
    refine ⟨_, rfl, rfl, _, rfl, ite2 (fun c2 => ?_) (fun c2 => ?_)⟩
    · refine ⟨_, rfl, rfl, _, rfl, ite2 (fun c3 => ?_) (fun c3 => ?_)⟩
      · rw [if_pos ⟨(one_sign sC).mp c2, fun k => by subst k; exact absurd c3 (by decide +kernel)⟩] at un
        exact ⟨_, rfl, three, fun q nq => mk _ _ _ _ _ _ un rfl rfl rfl q nq⟩
      · rw [if_neg (fun k => c3 (by
          cases e : decide (V.str (wT u) = V.str (wT .opened)) with
          | true => exact absurd ((wT_eq u .opened).mp e) k.2
          | false =>
            show (!decide (V.str (wT u) = V.str (wT .opened))) = true
            rw [e]
            rfl))] at un
        exact no un
    · rw [if_neg (fun k => c2 ((one_sign sC).mpr k.1))] at un
      exact no un
end
end K04

set_option maxRecDepth 100000
set_option maxHeartbeats 4000000
namespace K04
open PySem PySem.Spec PyProof.Rows L2 Q RZ RT TL
def plV : Option Nat → V
  | none => .non
  | some i => .int (i : Nat)
section
variable {P : Program} {w : World} {K : PySem.W.Frag} {mg : Str → Option Value} {base : Heap} {f : Addr} {fd : FuncData}
def spPlace : Sp := fun vs H Q _ => ∃ (z : Str), vs = [.str z] ∧ z.length ≤ 1000000 ∧ ∀ H', Same H H' → Q (plV (L z.cps.toList 0 .start 0 0)) H'
theorem C_place (T : Tx K mg) : Cal P w K mg base CX0 2 "_law_place" ["text"] [] spPlace := by
  obtain ⟨fd, F⟩ := T.d__law_place
  have C__law_step := C_step (P := P) (w := w) (base := base) T
  refine ⟨_, fd, [], F.ok sc__law_place (fun vs H Q E h => ?_) (fun cdv A outer s H vs Q E hr h => ?_), T.g__law_place, F.kp, F.bindsN fun _ _ _ _ _ _ us hl => match us, hl with | [_], _ => rfl, .nil⟩
  · obtain ⟨z, rfl, _⟩ := h
    rfl
  · obtain ⟨z, rfl, hz, k⟩ := h
    have z16 : z.length ≤ sizeLine := Nat.le_trans hz (by decide)
    have zl : z.cps.toList.length = z.length := Array.length_toList
    refine ⟨_, PSs.nox (pss_cons (ps_set (i := 1) sc__law_place.nd rfl (Or.inl rfl) (pe_lst (pa_cons pe_str (pa_cons pe_int (pa_cons pe_int pa_nil)))))
      (pss_cons (ps_for PassesOwn.never rfl (pi_range1 (by rfl) T.n_range (pa_cons (pe_callB call_len_str (by rfl) T.n_len (by decide +kernel) (pa_cons (pv 0) pa_nil)) pa_nil)) (pg_name (i := 2) sc__law_place.nd rfl (Or.inl rfl))
        (pss_cons (ps_set (i := 1) sc__law_place.nd rfl (Or.inl rfl) (pe_cal C__law_step (hr.mono (by decide)) pass0 (pa_cons (pv 1) (pa_cons (pe_ix ix_str (pv 0) (pv 2) (fun _ _ => rfl)) pa_nil))))
        (pss_one (ps_if (pt_cmpR op_isN (pv 1) pe_non (nomark _))
          (pss_one (ps_ret (pv 2)))
          pss_nil))))
      (pss_cons (ps_if (PW.pt (pw_and (pt_cmpR op_eq (pe_ix ix_list (pv 1) pe_int (fun _ _ => rfl)) pe_int (nomark _)) (pw_and (pt_cmpR op_ne (pe_ix ix_list (pv 1) pe_int (fun _ _ => rfl)) pe_str (nomark _)) (pw_and1 (pt_cmpR op_ne (pe_ix ix_list (pv 1) pe_int (fun _ _ => rfl)) pe_str (nomark _))))))
        (pss_one (ps_ret pe_non))
        pss_nil)
      (pss_one (ps_ret (pe_callB call_len_str (by rfl) T.n_len (by decide +kernel) (pa_cons (pv 0) pa_nil))))))), ?_⟩
    refine ⟨by show 3 ≤ sizeLine; decide, fun p0 np0 => ?_⟩
    refine ⟨_, rfl, z, rfl, z16, (z.length : Int), rfl, by omega, by omega, ?_⟩
    rw [Int.toNat_natCast]
    refine for_range (lo := 0) (n := z.length) (fun i σ H' => ∃ p u m d o, σ = [some (.str z), some (.ref p), o] ∧ H' p = some (stO u m d) ∧ Same H H' ∧ L z.cps.toList 0 .start 0 0 = L z.cps.toList i u m d) ⟨p0, .start, 0, 0, none, rfl, upd_same, same_new np0, rfl⟩ ?_ ?_
    · rintro i σ H1 hi ⟨p, u, m, d, o, rfl, hp, s1, hL⟩
      have gi : z.cps.toList[i]? = some z.cps.toList[i] := List.getElem?_eq_getElem (by omega)
      generalize z.cps.toList[i] = c at gi
      have ga : atI z.cps.toList (0 + (i : Int)) = some c := by
        rw [show (0 : Int) + (i : Int) = ((i : Nat) : Int) by omega]
        exact atI_nat gi
      refine ⟨_, rfl, _, rfl, _, rfl, z, _, c, rfl, rfl, z16, ga, p, c, u, m, d, rfl, hp, fun e => ?_, fun u' m' d' e q nq => ?_⟩
      · refine ⟨_, rfl, rfl, _, rfl, ite2 (fun _ => ⟨_, rfl, ?_⟩) (fun c => absurd (decide_eq_true rfl) c)⟩
        have := k H1 s1
        rw [hL, L_none gi e] at this
        show Q (.int (0 + (i : Int))) H1
        rw [show (0 : Int) + (i : Int) = ((i : Nat) : Int) by omega]
        exact this
      · refine ⟨_, rfl, rfl, _, rfl, ite2 (fun c => by cases of_decide_eq_true c) (fun _ => ?_)⟩
        exact ⟨q, u', m', d', _, rfl, upd_same, s1.trans (same_new nq), by rw [hL, L_some gi e]⟩
    · rintro σ H1 ⟨p, u, m, d, o, rfl, hp, s1, hL⟩
      have gn : z.cps.toList[z.length]? = none := List.getElem?_eq_none (by omega)
      rw [L_end gn] at hL
      have k1 := k H1 s1
      rw [hL] at k1
      have ne : ∀ w, (!decide (V.str (wT u) = V.str (wT w))) = true ↔ u ≠ w := fun w => by
        rw [Bool.not_eq_true', ← Bool.not_eq_true, wT_eq]
      have d0 : decide (V.int (d : Int) = V.int 0) = true ↔ d = 0 := by
        rw [decide_eq_true_iff]
        exact ⟨fun h => by injection h; omega, fun h => by rw [h]; rfl⟩
      refine (fun (els : ¬ (d = 0 ∧ u ≠ .start ∧ u ≠ .minus) → _) (yes : (d = 0 ∧ u ≠ .start ∧ u ≠ .minus) → _) => ⟨_, rfl, p, _, 2, _, rfl, rfl, SqL.of hp, rfl, rfl, _, rfl, ite2 (fun c1 => ⟨_, rfl, p, _, 0, _, rfl, rfl, SqL.of hp, rfl, rfl, _, rfl, ite2 (fun c2 => ⟨_, rfl, p, _, 0, _, rfl, rfl, SqL.of hp, rfl, rfl, _, rfl,
        ite2 (fun c3 => yes ⟨d0.mp c1, (ne .start).mp c2, (ne .minus).mp c3⟩) (fun c3 => els fun h => c3 ((ne .minus).mpr h.2.2))⟩) (fun c2 => els fun h => c2 ((ne .start).mpr h.2.1))⟩) (fun c1 => els fun h => c1 (d0.mpr h.1))⟩) ?_ ?_
      · intro h
        rw [if_neg h] at k1
        exact ⟨_, rfl, z, rfl, z16, k1⟩
      · intro h
        rw [if_pos h] at k1
        exact k1
def spRight : Sp := fun vs H Q _ => ∃ (z : Str), vs = [.str z] ∧ z.length ≤ 7900 ∧ ∀ H', Same H H' → Q (.bl true) H'
theorem C_right (T : Tx K mg) : Cal P w K mg base CX0 46 "_law_right" ["text"] [] spRight := by
  obtain ⟨fd, F⟩ := T.d__law_right
  have C__law_place := C_place (P := P) (w := w) (base := base) T
  have C_data_text1 := C_data_text1 (P := P) (w := w) (base := base) T
  have C_read_data := C_read_data (P := P) (w := w) (base := base) T
  refine ⟨_, fd, [], F.ok sc__law_right (fun vs H Q E h => ?_) (fun cdv A outer s H vs Q E hr h => ?_), T.g__law_right, F.kp, F.bindsN fun _ _ _ _ _ _ us hl => match us, hl with | [_], _ => rfl, .nil⟩
  · obtain ⟨z, rfl, _⟩ := h
    rfl
  · obtain ⟨z, rfl, hz, k⟩ := h
    have z16 : z.length ≤ sizeLine := Nat.le_trans hz (by decide)
    obtain ⟨r1, r2⟩ := read_place z.cps.toList
    refine ⟨_, PSs.nox (pss_cons (ps_set (i := 1) sc__law_right.nd rfl (Or.inl rfl) (pe_cal C__law_place (hr.mono (by decide)) pass0 (pa_cons (pv 0) pa_nil)))
      (pss_cons (ps_try_as (i := 3) (tb := _) (ts := _) rfl rfl sc__law_right.nd rfl rfl ⟨rfl, by decide, Or.inl T.g_BadText⟩ takes0 (fun W pn xe tk _ => (pss_one (ps_set (i := 2) sc__law_right.nd rfl (Or.inl rfl) (pe_calS C_read_data (hr.mono (by decide)) (fun σ => passAt tk σ) (pa_cons (pv 0) pa_nil)))))
        (fun a oe cls d pn hz hf => (pss_one (ps_ret (pe_and (pe_cmpR op_notN (pv 1) pe_non (nomark _)) (pe_and (pe_cmpR op_eq (pe_xf (xfC_of T.x_BadText) T.noat_BadText_place hz hf (pv 3)) (pv 1) (nomark _)) (pe_one (pe_not (pe_callB call_isiS (by rfl) T.n_isinstance (by decide +kernel) (pa_cons (pe_xf (xfC_of T.x_BadText) T.noat_BadText_place hz hf (pv 3)) (pa_cons (pe_bltn (v := .ty "bool") (u := .type "bool") (by rfl) T.n_bool (by decide +kernel) rfl) pa_nil)))))))))))
      (pss_one (ps_ret (pe_and (pe_cmpR op_isN (pv 1) pe_non (nomark _)) (pe_one (pe_cmpR op_eq (pe_cal C_data_text1 (hr.mono (by decide)) passX (pa_cons (pv 2) pa_nil)) (pv 0) (nomark _)))))))), ?_⟩
    refine ⟨_, rfl, z, rfl, by omega, fun H1 s1 => ?_⟩
    refine ⟨_, rfl, .str z, "str", rfl, .str z, fun y e => (by cases e; omega), fun t et v' H2 rt s2 => ?_, fun e ee d H2 s2 nd hd => ?_⟩
    · rw [r2 t et]
      obtain ⟨x1, x2, x3⟩ := read_text et
      refine ⟨_, rfl, rfl, true, rfl, iteT ⟨_, rfl, v', t, rfl, Nat.le_refl _, rt.tr x2, by omega, fun e => (by rw [x1] at e; cases e), fun z' e' H3 s3 => ?_⟩⟩
      obtain rfl : z = z' := Option.some.inj (x1.symm.trans e')
      refine ⟨_, rfl, rfl, ?_⟩
      rw [decide_eq_true (rfl : V.str z = V.str z)]
      exact k H3 (s1.trans (s2.trans s3))
    · rw [r1 e ee]
      refine ⟨true, T.e_BadText, fun _ a na => ?_, fun z => nomatch z⟩
      have kb : PySem.W.kitOne K (.type "int") (.type "bool") = some false := kit_ty (by decide +kernel)
      refine ⟨_, rfl, rfl, true, rfl, iteT ⟨_, rfl, rfl, rfl, d, _, _, rfl, hd, by rfl, _, rfl, rfl, true, ?_, iteT ⟨_, rfl, rfl, rfl, d, _, _, rfl, hd, by rfl, _, _, _, _, _, rfl, .ty _, (Kn.int (e : Int)).ty, kb, _, rfl, ?_⟩⟩⟩
      · exact congrArg V.bl (decide_eq_true rfl)
      · exact k H2 (s1.trans s2)
end
end K04

set_option maxRecDepth 100000
set_option maxHeartbeats 4000000
namespace K04
open PySem PySem.Spec PyProof.Rows L2 Q RZ RT TL
def lenP : Nat → Nat
  | 0 => 40
  | d + 1 => 3 * lenP d + 6
def cost : Nat → Nat
  | 0 => 30
  | d + 1 => 3 * cost d + 30
theorem lenP_le : ∀ d, 40 ≤ lenP d
  | 0 => Nat.le_refl _
  | d + 1 => by
    have := lenP_le d
    show 40 ≤ 3 * lenP d + 6
    omega
theorem cost_le : ∀ d, 30 ≤ cost d
  | 0 => Nat.le_refl _
  | d + 1 => by
    have := cost_le d
    show 30 ≤ 3 * cost d + 30
    omega
theorem lenP_top {d : Nat} (h : d ≤ 5) : lenP d ≤ 11000 := by
  match d, h with
  | 0, _ => decide
  | 1, _ => decide
  | 2, _ => decide
  | 3, _ => decide
  | 4, _ => decide
  | 5, _ => decide
theorem int_len {i : Int} (h : i.natAbs < 10 ^ 31) : (Str.ofString (toString i)).length ≤ 32 := by
  have e := int_text_length_le10 (a := i) (k := 31) (by decide) h
  have e2 : (Str.ofString (toString i)).length = (toString i).length := PySem.ofString_length _
  omega
section
variable {P : Program} {w : World} {K : PySem.W.Frag} {mg : Str → Option Value} {base : Heap} {f : Addr} {fd : FuncData}
def spPiece (d : Nat) : Sp := fun vs H Q _ => ∃ (b c : Addr) (n : Int), vs = [.ref b, .int d] ∧ d ≤ 5 ∧ BagAt H b c n ∧ n + cost d < 2 ^ 58 ∧ ∀ x H', x.length ≤ lenP d → Kb b H H' → BagAt H' b c (n + cost d) → Q (.str x) H'
theorem piece_void (T : Tx K mg) : Cal P w K mg base CX0 1 "_law_piece" ["bag", "deep"] [] (fun _ _ _ _ => False) := by
  obtain ⟨fd, F⟩ := T.d__law_piece
  exact ⟨_, fd, [], ⟨fun _ _ _ _ z => z.elim, fun _ _ _ _ _ _ _ _ _ _ _ _ _ z => z.elim⟩, T.g__law_piece, F.kp, F.bindsN fun _ _ _ _ _ _ us hl => match us, hl with | [_, _], _ => rfl, .nil⟩
theorem piece_step (T : Tx K mg) {d : Nat} {sp : Sp} (C__law_piece : Cal P w K mg base CX0 (d + 1) "_law_piece" ["bag", "deep"] [] sp) (up : d = 0 ∨ ∃ m, d = m + 1 ∧ sp = spPiece m) : Cal P w K mg base CX0 (d + 2) "_law_piece" ["bag", "deep"] [] (spPiece d) := by
  obtain ⟨fd, F⟩ := T.d__law_piece
  have C__law_draw := C_draw (P := P) (w := w) (base := base) T
  refine ⟨_, fd, [], F.ok sc__law_piece (fun vs H Q E h => ?_) (fun cdv A outer s H vs Q E hr h => ?_), T.g__law_piece, F.kp, F.bindsN fun _ _ _ _ _ _ us hl => match us, hl with | [_, _], _ => rfl, .nil⟩
  · obtain ⟨b, c, n, rfl, _⟩ := h
    rfl
  · obtain ⟨b, c, n, rfl, d5, B, hn, k⟩ := h
    have cl := cost_le d
    have ll := lenP_le d
    refine ⟨_, PSs.nox (pss_cons (ps_set (i := 2) sc__law_piece.nd rfl (Or.inl rfl) (pe_cal C__law_draw (hr.mono (by omega)) pass0 (pa_cons (pv 0) (pa_cons (pe_ifExp (pt_cmpR op_eq (pv 1) pe_int (nomark _)) pe_int pe_int) pa_nil))))
      (pss_cons (ps_if (pt_cmpR op_eq (pv 2) pe_int (nomark _))
        (pss_one (ps_ret (pe_bm PySem.F.plainAttrs_str PySem.F.slot_str_join PySem.F.type_str_join mt_join pe_str (pa_cons (pe_lc (own := [("k", 3)]) (g := gName 3) (tt := tYes) (by rfl) sc__law_piece.nd (pi_range1 (by rfl) T.n_range (pa_cons (pe_op op_add pe_int (pe_cal C__law_draw (hr.mono (by omega)) pass0 (pa_cons (pv 0) (pa_cons pe_int pa_nil)))) pa_nil)) (blkOk_by (N := ["bag", "deep", "way", "k"]) (sc := defScope s__law_piece) (by decide +kernel)) (fun _ _ _ _ _ => (pg_name (i := 3) sc__law_piece.nd rfl (Or.inl rfl))) (fun _ _ _ _ _ => pts_nil) (fun _ _ _ _ _ => (pe_ix ix_str pe_str (pe_cal C__law_draw (hr.mono (by omega)) pass0 (pa_cons (pv 0) (pa_cons pe_int pa_nil))) (fun _ _ => rfl)))) pa_nil))))
        pss_nil)
      (pss_cons (ps_if (pt_cmpR op_eq (pv 2) pe_int (nomark _))
        (pss_one (ps_ret (pe_callTy call_str_int (by rfl) T.n_str (by decide +kernel) (pa_cons (pe_op op_sub (pe_cal C__law_draw (hr.mono (by omega)) pass0 (pa_cons (pv 0) (pa_cons (pe_op op_pow pe_int pe_int) pa_nil))) (pe_op op_pow pe_int pe_int)) pa_nil))))
        pss_nil)
      (pss_cons (ps_if (pt_cmpR op_eq (pv 2) pe_int (nomark _))
        (pss_one (ps_ret (pe_ix ix_list (pe_lst (pa_cons pe_str (pa_cons pe_str (pa_cons pe_str (pa_cons pe_str pa_nil))))) (pe_cal C__law_draw (hr.mono (by omega)) pass0 (pa_cons (pv 0) (pa_cons pe_int pa_nil))) (fun _ _ => rfl))))
        pss_nil)
      (pss_one (ps_ret (pe_op op_add_str (pe_op op_add_str pe_str (pe_bm PySem.F.plainAttrs_str PySem.F.slot_str_join PySem.F.type_str_join mt_join pe_str (pa_cons (pe_lc (own := [("k", 3)]) (g := gName 3) (tt := tYes) (by rfl) sc__law_piece.nd (pi_range1 (by rfl) T.n_range (pa_cons (pe_cal C__law_draw (hr.mono (by omega)) pass0 (pa_cons (pv 0) (pa_cons pe_int pa_nil))) pa_nil)) (blkOk_by (N := ["bag", "deep", "way", "k"]) (sc := defScope s__law_piece) (by decide +kernel)) (fun _ _ _ _ _ => (pg_name (i := 3) sc__law_piece.nd rfl (Or.inl rfl))) (fun _ _ _ _ _ => pts_nil) (fun _ _ _ _ _ => (pe_cal C__law_piece (hr.mono (by omega)) pass0 (pa_cons (pv 0) (pa_cons (pe_op op_sub (pv 1) pe_int) pa_nil))))) pa_nil))) pe_str))))))), ?_⟩
    refine ⟨_, rfl, _, rfl, rfl, _, rfl, ?_⟩
    refine (fun (go : ∀ (way : Int) (H1 : Hp), 0 ≤ way → (d = 0 → way < 3) → way < 5 → Off b H H1 → BagAt H1 b c (n + 1) → _) => ite2 (fun c1 => ⟨b, c, 3, n, rfl, B, by decide, by decide, by omega, fun way H1 w0 w3 o1 B1 => go way H1 w0 (fun _ => w3) (by omega) o1 B1⟩) (fun c1 => ⟨b, c, 5, n, rfl, B, by decide, by decide, by omega, fun way H1 w0 w5 o1 B1 => go way H1 w0 (fun h => absurd (by rw [h]; exact decide_eq_true rfl) c1) w5 o1 B1⟩)) ?_
    intro way H1 w0 wd w5 o1 B1
    have big : (10 : Int) ^ (30 : Int).toNat = 1000000000000000000000000000000 := by decide +kernel
    have big2 : (10 : Int) ^ (29 : Int).toNat = 100000000000000000000000000000 := by decide +kernel
    have big3 : (10 : Nat) ^ 31 = 10000000000000000000000000000000 := by decide +kernel
    refine ⟨_, rfl, rfl, _, rfl, ite2 (fun c1 => ?_) (fun c1 => ?_)⟩
    · refine ⟨rfl, _, rfl, b, c, 12, _, rfl, B1, by decide, by decide, by omega, fun len H2 n0 n12 o2 B2 => ?_⟩
      obtain ⟨m, rfl⟩ : ∃ m : Nat, len = (m : Int) := ⟨len.toNat, by omega⟩
      refine ⟨_, _, rfl, rfl, 1 + (m : Int), rfl, by omega, by omega, fun D nD => ?_⟩
      rw [show ((1 : Int) + (m : Int)).toNat = m + 1 by omega]
      have Db := (B2.new nD).1
      refine lc_range (lo := 0) (n := m + 1) (fun i H' => Kb b H2 H' ∧ BagAt H' b c (n + 2 + i) ∧ ∃ cs : List Nat, H' D = some (.lst ((cs.map sgn).map V.str)) ∧ cs.length = i) ⟨kb_new nD, (B2.updNew nD).mono (by omega), [], upd_same, rfl⟩ ?_ ?_
      · rintro i H3 hi ⟨kb, B3, cs, hD, hl⟩
        refine ⟨rfl, ⟨_, rfl, b, c, 26, _, rfl, B3, by decide, by decide, by omega, fun r H4 r0 r26 o4 B4 => ?_⟩⟩
        obtain ⟨ch, at_, inl⟩ := letter_at r0 r26
        have hD4 := o4.at Db hD
        refine ⟨lettersT, r, ch, rfl, rfl, by decide +kernel, at_, _, hD4, ?_, ?_, ?_, cs ++ [ch], ?_, by rw [List.length_append, hl]; rfl⟩
        · rw [List.length_map, List.length_map]
          exact small1000 (by omega)
        · intro a o ne e
          by_cases ha : a = D
          · rw [ha, nD] at e
            cases e
          · rw [upd_ne ha]
            exact o4.at ne (kb a o ne e)
        · have Dc : D ≠ c := (B2.new nD).2
          exact (B4.upd Db Dc).mono (by omega)
        · rw [upd_same, List.map_append, List.map_append]
          rfl
      · rintro H3 ⟨kb2, B3, cs, hD, hl⟩
        have e0 : (Str.ofString "").length = 0 := by decide +kernel
        refine ⟨_, D, cs.map sgn, rfl, rfl, .inl (SqL.of hD), ?_, ?_⟩
        · rw [sum_ones, List.length_map, e0]
          omega
        rw [join_sgn]
        have sl : (SX.S cs).length = cs.length := List.size_toArray ..
        exact k _ H3 (by omega) (o1.kb.trans (o2.kb.trans kb2)) (B3.mono (by omega))
    refine ⟨_, rfl, rfl, _, rfl, ite2 (fun c2 => ?_) (fun c2 => ?_)⟩
    · refine ⟨_, rfl, _, _, rfl, rfl, ⟨by decide, by decide, by decide⟩, b, c, _, _, rfl, B1, by decide +kernel, by decide +kernel, by omega, fun r1 H7 x0 x1 o7 B7 => ?_⟩
      rw [big] at x1
      refine ⟨_, _, rfl, rfl, ⟨by decide, by decide, by decide⟩, _, _, rfl, rfl, _, rfl, ?_, ?_⟩
      · rw [big2]
        have : (r1 - 100000000000000000000000000000).natAbs < 10 ^ 31 := by rw [big3]; omega
        have := PySem.Flt.log2_lt_of (k := 110) (by decide) (Nat.lt_of_lt_of_le this (by decide +kernel))
        omega
      · rw [big2]
        have : (r1 - 100000000000000000000000000000).natAbs < 10 ^ 31 := by rw [big3]; omega
        have := int_len this
        exact k _ H7 (by omega) (o1.kb.trans o7.kb) (B7.mono (by omega))
    refine ⟨_, rfl, rfl, _, rfl, ite2 (fun c3 => ?_) (fun c3 => ?_)⟩
    · refine ⟨by show 4 ≤ sizeLine; decide, fun l nl => ?_⟩
      have lb := (B1.new nl).1
      refine ⟨_, rfl, b, c, 4, _, rfl, B1.updNew nl, by decide, by decide, by omega, fun r H3 r0 r4 o3 B3 => ?_⟩
      obtain ⟨m, rfl⟩ : ∃ m : Nat, r = (m : Int) := ⟨r.toNat, by omega⟩
      have it : ∃ s : Str, atI [V.str "0", V.str "-7", V.str "[]", V.str "10"] (m : Int) = some (.str s) ∧ s.length ≤ 2 := by
        match m, r4 with
        | 0, _ => exact ⟨_, rfl, by decide +kernel⟩
        | 1, _ => exact ⟨_, rfl, by decide +kernel⟩
        | 2, _ => exact ⟨_, rfl, by decide +kernel⟩
        | 3, _ => exact ⟨_, rfl, by decide +kernel⟩
        | q + 4, h => omega
      obtain ⟨s, hs, ls⟩ := it
      exact ⟨l, _, _, _, rfl, rfl, SqL.of (o3.at lb upd_same), hs, k _ H3 (by omega) (o1.kb.trans ((kb_new nl).trans o3.kb)) (B3.mono (by omega))⟩
    rcases up with rfl | ⟨m, rfl, rfl⟩
    · have n0 : ¬ way = 0 := fun h => c1 (by rw [h]; rfl)
      have n1 : ¬ way = 1 := fun h => c2 (by rw [h]; rfl)
      have n2 : ¬ way = 2 := fun h => c3 (by rw [h]; rfl)
      have := wd rfl
      omega
    have cm := cost_le m
    have ec : cost (m + 1) = 3 * cost m + 30 := rfl
    have el : lenP (m + 1) = 3 * lenP m + 6 := rfl
    refine ⟨rfl, _, rfl, b, c, 4, _, rfl, B1, by decide, by decide, by omega, fun len H2 n0 n4 o2 B2 => ?_⟩
    obtain ⟨j, rfl⟩ : ∃ m : Nat, len = (m : Int) := ⟨len.toNat, by omega⟩
    refine ⟨(j : Int), rfl, by omega, by omega, fun D nD => ?_⟩
    rw [Int.toNat_natCast]
    have Db := (B2.new nD).1
    have Dc := (B2.new nD).2
    have cpos : (0 : Int) ≤ (cost m : Int) := Int.natCast_nonneg _
    refine lc_range (lo := 0) (n := j) (fun i H' => Kb b H2 H' ∧ BagAt H' b c (n + 2 + (i : Int) * (cost m : Int)) ∧ ∃ xs : List Str, H' D = some (.lst (xs.map V.str)) ∧ xs.length = i ∧ (xs.map (·.length)).sum ≤ i * lenP m) ⟨kb_new nD, (B2.updNew nD).mono (by omega), [], upd_same, rfl, Nat.zero_le _⟩ ?_ ?_
    · rintro i H3 hi ⟨kb, B3, xs, hD, hl, hs⟩
      have hi4 : (i : Int) * (cost m : Int) ≤ 2 * (cost m : Int) := Int.mul_le_mul_of_nonneg_right (by omega) cpos
      have e5 : ((i + 1 : Nat) : Int) * (cost m : Int) = (i : Int) * (cost m : Int) + (cost m : Int) := by rw [Int.natCast_add, Int.add_mul]; omega
      have e6 : (i + 1) * lenP m = i * lenP m + lenP m := Nat.succ_mul _ _
      refine ⟨rfl, _, rfl, _, rfl, _, _, rfl, rfl, b, c, _, (by show [V.ref b, V.int (((m + 1 : Nat) : Int) - 1)] = _; rw [show ((m + 1 : Nat) : Int) - 1 = (m : Int) by omega]), by omega, B3, by omega, fun x H4 xl k4 B4 => ?_⟩
      refine ⟨_, k4 _ _ Db hD, by rw [List.length_map, hl, sizeLine_eq]; omega, ?_, (B4.upd Db Dc).mono (by rw [e5]; omega), xs ++ [x], by rw [upd_same, List.map_append]; rfl, by rw [List.length_append, hl]; rfl, ?_⟩
      · intro a o ne e
        by_cases ha : a = D
        · rw [ha, nD] at e
          cases e
        · rw [upd_ne ha]
          exact k4 a o ne (kb a o ne e)
      · rw [List.map_append, List.sum_append, e6]
        show _ + (x.length + 0) ≤ _
        omega
    · rintro H3 ⟨kb, B3, xs, hD, hl, hs⟩
      have hj4 : (j : Int) * (cost m : Int) ≤ 3 * (cost m : Int) := Int.mul_le_mul_of_nonneg_right (by omega) cpos
      have hz4 : j * lenP m ≤ 3 * lenP m := Nat.mul_le_mul_right _ (by omega)
      have cl : comma.length = 1 := rfl
      have jl := join_le xs
      rw [← TL.join_eq] at jl
      have o1' : (Str.ofString "[").length = 1 := by decide +kernel
      have o2' : (Str.ofString "]").length = 1 := by decide +kernel
      have lt := lenP_top d5
      exact ⟨comma, D, xs, rfl, rfl, .inl (SqL.of hD), by rw [cl]; omega, _, _, rfl, rfl, by rw [o1', sizeLine_eq]; omega, _, _, rfl, rfl, by rw [strLen_append, o1', o2', sizeLine_eq]; omega, k _ H3 (by rw [strLen_append, strLen_append]; omega) (o1.kb.trans (o2.kb.trans kb)) (B3.mono (by omega))⟩
theorem C_piece (T : Tx K mg) : ∀ d : Nat, Cal P w K mg base CX0 (d + 2) "_law_piece" ["bag", "deep"] [] (spPiece d)
  | 0 => piece_step T (d := 0) (piece_void T) (.inl rfl)
  | d + 1 => piece_step T (d := d + 1) (C_piece T d) (.inr ⟨d, rfl, rfl⟩)
/-! ### _law_spoil -/
def spSpoil : Sp := fun vs H Q _ => ∃ (b c : Addr) (n : Int) (z : Str), vs = [.ref b, .str z] ∧ BagAt H b c n ∧ n < 2 ^ 58 ∧ z.length ≤ 6000 ∧ ∀ x H', x.length ≤ z.length + z.length + 2 → Kb b H H' → BagAt H' b c (n + 3) → Q (.str x) H'
def spoilL : List V := [.str "a", .str "z", .str "0", .str "1", .str "9", .str "[", .str "]", .str ",", .str "-", .str " ", .str "A", .str "(", .str "01", .str ",,", .str "\n", .str "\t"]
theorem spoil_at {r : Int} (h0 : 0 ≤ r) (h1 : r < 16) : ∃ s : Str, atI spoilL r = some (.str s) ∧ s.length ≤ 2 := by
  obtain ⟨m, rfl⟩ : ∃ m : Nat, r = (m : Int) := ⟨r.toNat, by omega⟩
  have hm : m < spoilL.length := by show m < 16; omega
  have hv := List.getElem_mem hm
  have hg := List.getElem?_eq_getElem hm
  generalize spoilL[m] = v at hv hg
  have all : ∀ v ∈ spoilL, ∃ s : Str, v = .str s ∧ s.length ≤ 2 := by
    intro v hv
    unfold spoilL at hv
    simp only [List.mem_cons, List.not_mem_nil, or_false] at hv
    rcases hv with rfl | rfl | rfl | rfl | rfl | rfl | rfl | rfl | rfl | rfl | rfl | rfl | rfl | rfl | rfl | rfl <;> exact ⟨_, rfl, by decide +kernel⟩
  obtain ⟨s, rfl, hs⟩ := all v hv
  exact ⟨s, atI_nat hg, hs⟩
theorem C_spoil (T : Tx K mg) : Cal P w K mg base CX0 2 "_law_spoil" ["bag", "text"] [] spSpoil := by
  obtain ⟨fd, F⟩ := T.d__law_spoil
  have C__law_draw := C_draw (P := P) (w := w) (base := base) T
  refine ⟨_, fd, [], F.ok sc__law_spoil (fun vs H Q E h => ?_) (fun cdv A outer s H vs Q E hr h => ?_), T.g__law_spoil, F.kp, F.bindsN fun _ _ _ _ _ _ us hl => match us, hl with | [_, _], _ => rfl, .nil⟩
  · obtain ⟨b, c, n, z, rfl, _⟩ := h
    rfl
  · obtain ⟨b, c, n, z, rfl, B, hn, hz, k⟩ := h
    have le : ∀ {m : Nat}, m ≤ 20000 → m ≤ sizeLine := fun h => Nat.le_trans h (by decide)
    have z16 : z.length ≤ sizeLine := le (by omega)
    refine ⟨_, PSs.nox (pss_cons (ps_set (i := 2) sc__law_spoil.nd rfl (Or.inl rfl) (pe_cal C__law_draw (hr.mono (by decide)) pass0 (pa_cons (pv 0) (pa_cons (pe_op op_add (pe_callB call_len_str (by rfl) T.n_len (by decide +kernel) (pa_cons (pv 1) pa_nil)) pe_int) pa_nil))))
      (pss_cons (ps_set (i := 3) sc__law_spoil.nd rfl (Or.inl rfl) (pe_ix ix_list (pe_lst (pa_cons pe_str (pa_cons pe_str (pa_cons pe_str (pa_cons pe_str (pa_cons pe_str (pa_cons pe_str (pa_cons pe_str (pa_cons pe_str (pa_cons pe_str (pa_cons pe_str (pa_cons pe_str (pa_cons pe_str (pa_cons pe_str (pa_cons pe_str (pa_cons pe_str (pa_cons pe_str pa_nil))))))))))))))))) (pe_cal C__law_draw (hr.mono (by decide)) pass0 (pa_cons (pv 0) (pa_cons pe_int pa_nil))) (fun _ _ => rfl)))
      (pss_cons (ps_set (i := 4) sc__law_spoil.nd rfl (Or.inl rfl) (pe_cal C__law_draw (hr.mono (by decide)) pass0 (pa_cons (pv 0) (pa_cons pe_int pa_nil))))
      (pss_cons (ps_if (pt_cmpR op_eq (pv 4) pe_int (nomark _))
        (pss_one (ps_ret (pe_op op_add_str (pe_slice sl_str (pv 1) po_none (po_some (pv 2))) (pe_slice sl_str (pv 1) (po_some (pe_op op_add (pv 2) pe_int)) po_none))))
        pss_nil)
      (pss_cons (ps_if (pt_cmpR op_eq (pv 4) pe_int (nomark _))
        (pss_one (ps_ret (pe_op op_add_str (pe_op op_add_str (pe_slice sl_str (pv 1) po_none (po_some (pv 2))) (pv 3)) (pe_slice sl_str (pv 1) (po_some (pv 2)) po_none))))
        pss_nil)
      (pss_one (ps_ret (pe_op op_add_str (pe_op op_add_str (pe_slice sl_str (pv 1) po_none (po_some (pv 2))) (pv 3)) (pe_slice sl_str (pv 1) (po_some (pe_op op_add (pv 2) pe_int)) po_none))))))))), ?_⟩
    refine ⟨_, rfl, _, rfl, z, rfl, z16, _, _, rfl, rfl, b, c, _, _, rfl, B, by omega, ?_, by omega, fun at_ H1 a0 a1 o1 B1 => ?_⟩
    · exact Int.lt_of_le_of_lt (show ((z.length : Nat) : Int) + 1 ≤ 7000 by omega) (by decide)
    refine ⟨by show 16 ≤ sizeLine; decide, fun l nl => ?_⟩
    have lb := (B1.new nl).1
    refine ⟨_, rfl, b, c, 16, _, rfl, B1.updNew nl, by decide, by decide, by omega, fun r H3 r0 r16 o3 B3 => ?_⟩
    obtain ⟨s, hs, ls⟩ := spoil_at r0 r16
    refine ⟨l, spoilL, r, _, rfl, rfl, SqL.of (o3.at lb upd_same), hs, ?_⟩
    refine ⟨_, rfl, b, c, 3, _, rfl, B3, by decide, by decide, by omega, fun way H4 w0 w3 o4 B4 => ?_⟩
    have kb : Kb b H H4 := o1.kb.trans ((kb_new nl).trans (o3.kb.trans o4.kb))
    have c1 := cutS_length z none (some at_)
    have c2 := cutS_length z (some at_) none
    have c3 := cutS_length z (some (at_ + 1)) none
    refine ⟨_, rfl, rfl, _, rfl, ite2 (fun q1 => ?_) (fun q1 => ?_)⟩
    · exact ⟨_, rfl, _, rfl, _, rfl, _, rfl, z16, _, rfl, _, rfl, _, _, rfl, rfl, _, rfl, _, rfl, z16, _, _, rfl, rfl, le (by omega), k _ H4 (by rw [strLen_append]; omega) kb (B4.mono (by omega))⟩
    refine ⟨_, rfl, rfl, _, rfl, ite2 (fun q2 => ?_) (fun q2 => ?_)⟩
    · exact ⟨_, rfl, _, rfl, _, rfl, _, rfl, z16, _, rfl, _, _, rfl, rfl, le (by omega), _, rfl, _, rfl, _, rfl, _, rfl, z16, _, _, rfl, rfl, le (by rw [strLen_append]; omega), k _ H4 (by rw [strLen_append, strLen_append]; omega) kb (B4.mono (by omega))⟩
    · exact ⟨_, rfl, _, rfl, _, rfl, _, rfl, z16, _, rfl, _, _, rfl, rfl, le (by omega), _, rfl, _, rfl, _, _, rfl, rfl, _, rfl, _, rfl, z16, _, _, rfl, rfl, le (by rw [strLen_append]; omega), k _ H4 (by rw [strLen_append, strLen_append]; omega) kb (B4.mono (by omega))⟩
end
end K04

set_option maxRecDepth 100000
set_option maxHeartbeats 4000000
namespace K04
open PySem PySem.Spec PyProof.Rows L2 Q RZ RT TL
section
variable {P : Program} {w : World} {K : PySem.W.Frag} {mg : Str → Option Value} {base : Heap} {f : Addr} {fd : FuncData}
/-- a text of moderate length -/
def Mod (v : V) : Prop := ∃ x : Str, v = .str x ∧ x.length ≤ 7900
theorem mod_len {x : Str} (h : x.length ≤ 7900) : Mod (.str x) := ⟨x, rfl, h⟩
def spEnds : Sp := fun vs H Q _ => ∃ (b c : Addr) (n : Int), vs = [.ref b] ∧ BagAt H b c n ∧ n < 2 ^ 58 ∧ ∀ H', Kb b H H' → Q (.bl true) H'
def Se (b : Addr) (a1 a2 a3 a4 a5 : Str) (σ : L2.St) : Prop := ∃ o1 o7 o8 o9 o10, σ = [some (.ref b), o1, some (.str a1), some (.str a2), some (.str a3), some (.str a4), some (.str a5), o7, o8, o9, o10]
theorem C_ends (T : Tx K mg) : Cal P w K mg base CX0 47 "_law_ends_right" ["bag"] [] spEnds := by
  obtain ⟨fd, F⟩ := T.d__law_ends_right
  have C__law_draw := C_draw (P := P) (w := w) (base := base) T
  have C__law_right := C_right (P := P) (w := w) (base := base) T
  have C_read_data := C_read_data (P := P) (w := w) (base := base) T
  refine ⟨_, fd, [], F.ok sc__law_ends_right (fun vs H Q E h => ?_) (fun cdv A outer s H vs Q E hr h => ?_), T.g__law_ends_right, F.kp, F.bindsN fun _ _ _ _ _ _ us hl => match us, hl with | [_], _ => rfl, .nil⟩
  · obtain ⟨b, c, n, rfl, _⟩ := h
    rfl
  · obtain ⟨b, c, n, rfl, B, hn, k⟩ := h
    have le : ∀ {m : Nat}, m ≤ 20000 → m ≤ sizeLine := fun h => Nat.le_trans h (by decide)
    refine ⟨_, PSs.nox (pss_cons (ps_set (i := 2) sc__law_ends_right.nd rfl (Or.inl rfl) (pe_bm PySem.F.plainAttrs_str PySem.F.slot_str_join PySem.F.type_str_join mt_join pe_str (pa_cons (pe_lc (own := [("k", 1)]) (g := gName 1) (tt := tYes) (by rfl) sc__law_ends_right.nd (pi_range1 (by rfl) T.n_range (pa_cons pe_int pa_nil)) (blkOk_by (N := ["bag", "k", "name", "number", "minus", "opened", "closed", "text", "odd", "place", "e"]) (sc := defScope s__law_ends_right) (by decide +kernel)) (fun _ _ _ _ _ => (pg_name (i := 1) sc__law_ends_right.nd rfl (Or.inl rfl))) (fun _ _ _ _ _ => pts_nil) (fun _ _ _ _ _ => (pe_ix ix_str pe_str (pe_cal C__law_draw (hr.mono (by decide)) pass0 (pa_cons (pv 0) (pa_cons pe_int pa_nil))) (fun _ _ => rfl)))) pa_nil)))
      (pss_cons (ps_set (i := 3) sc__law_ends_right.nd rfl (Or.inl rfl) (pe_callTy call_str_int (by rfl) T.n_str (by decide +kernel) (pa_cons (pe_op op_sub (pe_op op_sub (pe_op op_powR (pe_op op_pow pe_int pe_int) pe_int) pe_int) (pe_cal C__law_draw (hr.mono (by decide)) pass0 (pa_cons (pv 0) (pa_cons (pe_op op_pow pe_int pe_int) pa_nil)))) pa_nil)))
      (pss_cons (ps_set (i := 4) sc__law_ends_right.nd rfl (Or.inl rfl) (pe_ix ix_list (pe_lst (pa_cons pe_str (pa_cons pe_str pa_nil))) (pe_cal C__law_draw (hr.mono (by decide)) pass0 (pa_cons (pv 0) (pa_cons pe_int pa_nil))) (fun _ _ => rfl)))
      (pss_cons (ps_set (i := 5) sc__law_ends_right.nd rfl (Or.inl rfl) (pe_op op_mulS pe_str pe_int))
      (pss_cons (ps_set (i := 6) sc__law_ends_right.nd rfl (Or.inl rfl) (pe_op op_mulS pe_str pe_int))
      (pss_cons (ps_for PassesOwn.never rfl (pi_list (pe_lst (pa_cons (pv 2) (pa_cons (pe_op op_add_str (pv 2) pe_str) (pa_cons (pe_op op_add_str (pv 4) (pv 3)) (pa_cons (pe_op op_add_str (pe_op op_add_str (pv 4) (pv 3)) pe_str) (pa_cons (pe_op op_add_str (pe_op op_add_str (pe_op op_add_str (pe_op op_add_str pe_str (pv 2)) pe_str) (pv 3)) pe_str) (pa_cons (pe_op op_add_str (pv 5) (pv 6)) pa_nil)))))))) (pg_name (i := 7) sc__law_ends_right.nd rfl (Or.inl rfl))
        (pss_one (ps_if (pt_not (pt_val (pe_cal C__law_right (hr.mono (by decide)) pass0 (pa_cons (pv 7) pa_nil))))
          (pss_one (ps_ret pe_bl))
          pss_nil)))
      (pss_cons (ps_for PassesOwn.never rfl (pi_list (pe_lst (pa_cons (pe_op op_add_str (pv 2) pe_str) (pa_cons (pe_op op_add_str (pe_op op_add_str (pv 4) (pv 3)) pe_str) (pa_cons pe_str (pa_cons pe_str (pa_cons pe_str pa_nil))))))) (pg_name (i := 7) sc__law_ends_right.nd rfl (Or.inl rfl))
        (pss_one (ps_if (pt_not (pt_val (pe_cal C__law_right (hr.mono (by decide)) pass0 (pa_cons (pv 7) pa_nil))))
          (pss_one (ps_ret pe_bl))
          pss_nil)))
      (pss_cons (ps_for PassesOwn.never rfl (pi_list (pe_lst (pa_cons (pe_op op_add_str (pe_op op_add_str (pv 5) (pv 2)) (pv 6)) (pa_cons (pe_op op_add_str (pe_op op_add_str (pe_op op_add_str (pv 5) pe_str) pe_str) (pv 6)) (pa_cons (pe_op op_add_str (pe_op op_add_str (pv 5) pe_str) (pv 6)) (pa_cons (pe_op op_add_str (pv 5) (pe_slice sl_str (pv 6) po_none (po_some (pe_un un_neg pe_int)))) (pa_cons (pe_op op_add_str (pe_op op_add_str (pv 5) (pv 6)) pe_str) pa_nil))))))) (pg_name (i := 7) sc__law_ends_right.nd rfl (Or.inl rfl))
        (pss_one (ps_if (pt_not (pt_val (pe_cal C__law_right (hr.mono (by decide)) pass0 (pa_cons (pv 7) pa_nil))))
          (pss_one (ps_ret pe_bl))
          pss_nil)))
      (pss_cons (ps_for PassesOwn.never rfl (pi_list (pe_lst (pa_cons pe_non (pa_cons pe_int (pa_cons (pe_lst (pa_cons pe_str pa_nil)) (pa_cons (pe_tup (pa_cons pe_str pa_nil)) (pa_cons pe_bl pa_nil))))))) (pg_name (i := 8) sc__law_ends_right.nd rfl (Or.inl rfl))
        (pss_cons (ps_set (i := 9) sc__law_ends_right.nd rfl (Or.inl rfl) (pe_un un_neg pe_int))
        (pss_cons (ps_try_as (i := 10) (tb := _) (ts := _) rfl rfl sc__law_ends_right.nd rfl rfl ⟨rfl, by decide, Or.inl T.g_BadText⟩ takes0 (fun W pn xe tk _ => (pss_one (ps_expr (pe_calS C_read_data (hr.mono (by decide)) (fun σ => passAt tk σ) (pa_cons (pv 8) pa_nil)))))
          (fun a oe cls d pn hz hf => (pss_one (ps_set (i := 9) sc__law_ends_right.nd rfl (Or.inl rfl) (pe_xf (xfC_of T.x_BadText) T.noat_BadText_place hz hf (pv 10))))))
        (pss_one (ps_if (pt_cmpR op_ne (pv 9) pe_int (nomark _))
          (pss_one (ps_ret pe_bl))
          pss_nil)))))
      (pss_one (ps_ret pe_bl))))))))))), ?_⟩
    -- name
    refine ⟨rfl, 12, rfl, by decide, by decide, fun D nD => ?_⟩
    have Db := (B.new nD).1
    have Dc := (B.new nD).2
    refine lc_range (lo := 0) (n := 12) (fun i H' => Kb b H H' ∧ BagAt H' b c (n + i) ∧ ∃ cs : List Nat, H' D = some (.lst ((cs.map sgn).map V.str)) ∧ cs.length = i) ⟨kb_new nD, (B.updNew nD).mono (by omega), [], upd_same, rfl⟩ ?_ ?_
    · rintro i H3 hi ⟨kb, B3, cs, hD, hl⟩
      refine ⟨rfl, ⟨_, rfl, b, c, 26, _, rfl, B3, by decide, by decide, by omega, fun r H4 r0 r26 o4 B4 => ?_⟩⟩
      obtain ⟨ch, at_, inl⟩ := letter_at r0 r26
      have hD4 := o4.at Db hD
      refine ⟨lettersT, r, ch, rfl, rfl, by decide +kernel, at_, _, hD4, ?_, ?_, ?_, cs ++ [ch], ?_, by rw [List.length_append, hl]; rfl⟩
      · rw [List.length_map, List.length_map]
        exact small1000 (by omega)
      · intro a o ne e
        by_cases ha : a = D
        · rw [ha, nD] at e
          cases e
        · rw [upd_ne ha]
          exact o4.at ne (kb a o ne e)
      · exact (B4.upd Db Dc).mono (by omega)
      · rw [upd_same, List.map_append, List.map_append]
        rfl
    rintro H1 ⟨k1, B1, cs, hD, hl⟩
    have e0 : (Str.ofString "").length = 0 := by decide +kernel
    refine ⟨_, D, cs.map sgn, rfl, rfl, .inl (SqL.of hD), ?_, ?_⟩
    · rw [sum_ones, List.length_map, e0]
      omega
    rw [join_sgn]
    have sl : (SX.S cs).length = cs.length := List.size_toArray ..
    have l1 : (SX.S cs).length ≤ 12 := by omega
    generalize SX.S cs = name at l1 ⊢
    -- number
    have big : (10 : Int) ^ (30 : Int).toNat = 1000000000000000000000000000000 := by decide +kernel
    have gr : (10 : Int) ^ 41 ≤ 10 ^ 400 := by decide +kernel
    have gr2 : (10 : Int) ^ 41 = 100000000000000000000000000000000000000000 := by decide +kernel
    refine ⟨_, _, rfl, rfl, ⟨by decide, by decide, by decide⟩, _, _, 10 ^ 400, rfl, rfl, ⟨by decide, by decide +kernel⟩, by decide +kernel, _, _, rfl, rfl, ?_⟩
    refine ⟨_, rfl, _, _, rfl, rfl, ⟨by decide, by decide, by decide⟩, b, c, _, _, rfl, B1, by decide +kernel, by decide +kernel, by omega, fun r H2 r0 r1 o2 B2 => ?_⟩
    rw [big] at r1
    have nb : 1 - 10 ^ 400 ≤ (10 : Int) ^ 400 - 1 - r ∧ (10 : Int) ^ 400 - 1 - r ≤ 10 ^ 400 - 1 := by omega
    have lg : ((10 : Int) ^ 400 - 1 - r).natAbs.log2 < 1920 := by
      have h1 : ((10 : Int) ^ 400 - 1 - r).natAbs < 2 ^ 1400 := by
        have h2 : ((10 : Int) ^ 400) = ((10 ^ 400 : Nat) : Int) := by push_cast; rfl
        have h3 : (10 : Nat) ^ 400 ≤ 2 ^ 1400 := by decide +kernel
        rw [h2] at nb ⊢
        generalize (10 : Nat) ^ 400 = bg at nb h3 ⊢
        generalize (2 : Nat) ^ 1400 = bh at h3 ⊢
        omega
      have := PySem.Flt.log2_lt_of (by decide) h1
      omega
    refine ⟨_, _, rfl, rfl, _, rfl, lg, ?_⟩
    have l2 := num_len nb
    generalize Str.ofString (toString ((10 : Int) ^ 400 - 1 - r)) = number at l2 ⊢
    -- minus
    refine ⟨by show 2 ≤ sizeLine; decide, fun l nl => ?_⟩
    have lb := (B2.new nl).1
    refine ⟨_, rfl, b, c, 2, _, rfl, B2.updNew nl, by decide, by decide, by omega, fun r H3 r0 r2 o3 B3 => ?_⟩
    have it : ∃ s : Str, atI [V.str "", V.str "-"] r = some (.str s) ∧ s.length ≤ 1 := by
      obtain rfl | rfl : r = 0 ∨ r = 1 := by omega
      · exact ⟨_, rfl, by decide +kernel⟩
      · exact ⟨_, rfl, by decide +kernel⟩
    obtain ⟨minus, hm, l3⟩ := it
    refine ⟨l, _, _, _, rfl, rfl, SqL.of (o3.at lb upd_same), hm, ?_⟩
    have k3 : Kb b H H3 := k1.trans (o2.kb.trans ((kb_new nl).trans o3.kb))
    -- brackets
    have ob : MulOk (Str.ofString "[") 40 := ⟨by decide, fun _ _ => by decide +kernel, fun _ _ => by decide +kernel⟩
    have cb : MulOk (Str.ofString "]") 40 := ⟨by decide, fun _ _ => by decide +kernel, fun _ _ => by decide +kernel⟩
    refine ⟨_, _, rfl, rfl, ob, _, _, rfl, rfl, cb, ?_⟩
    have l4 : (Txt.mul (Str.ofString "[") 40).length ≤ 40 := Nat.le_trans (mul_len _ (by decide)) (by decide +kernel)
    have l5 : (Txt.mul (Str.ofString "]") 40).length ≤ 40 := Nat.le_trans (mul_len _ (by decide)) (by decide +kernel)
    generalize Txt.mul (Str.ofString "[") 40 = opened at l4 ⊢
    generalize Txt.mul (Str.ofString "]") 40 = closed at l5 ⊢
    clear ob cb hm lg nb gr gr2 big
    have qa : (Str.ofString "a").length = 1 := by decide +kernel
    have q0 : (Str.ofString "0").length = 1 := by decide +kernel
    have qo : (Str.ofString "[").length = 1 := by decide +kernel
    have qb : (Str.ofString "b,").length = 2 := by decide +kernel
    have qc : (Str.ofString "]").length = 1 := by decide +kernel
    have qn : (Str.ofString "\n").length = 1 := by decide +kernel
    have qm : (Str.ofString ",").length = 1 := by decide +kernel
    have q2 : (Str.ofString "[]\n").length = 3 := by decide +kernel
    have q3 : (Str.ofString "[7,\n8]").length = 6 := by decide +kernel
    have q4 : (Str.ofString "\n7").length = 2 := by decide +kernel
    have q5 : (cutS closed none (some (-1))).length ≤ 40 := Nat.le_trans (cutS_length _ _ _) l5
    have sz : ∀ {m : Nat}, m ≤ 7000 → m ≤ sizeLine := fun h => Nat.le_trans h (by decide)
    have c16 : closed.length ≤ sizeLine := sz (by omega)
    refine ⟨_, rfl, _, rfl, _, _, rfl, rfl, sz (by first | omega | (simp only [strLen_append]; omega)), _, rfl, _, rfl, _, _, rfl, rfl, sz (by first | omega | (simp only [strLen_append]; omega)), _, rfl, _, rfl, _, _, rfl, rfl, sz (by first | omega | (simp only [strLen_append]; omega)), _, _, rfl, rfl, sz (by first | omega | (simp only [strLen_append]; omega)), _, rfl, _, _, rfl, rfl, sz (by first | omega | (simp only [strLen_append]; omega)), _, _, rfl, rfl, sz (by first | omega | (simp only [strLen_append]; omega)), _, rfl, _, _, rfl, rfl, sz (by first | omega | (simp only [strLen_append]; omega)), _, _, rfl, rfl, sz (by first | omega | (simp only [strLen_append]; omega)), _, rfl, _, rfl, _, _, rfl, rfl, sz (by first | omega | (simp only [strLen_append]; omega)), by show 6 ≤ sizeLine; decide, fun L4 nL4 => ?_⟩
    have s4 : Same H3 (upd H3 L4 (.lst [.str (name), .str (name ++ Str.ofString "a"), .str (minus ++ number), .str (minus ++ number ++ Str.ofString "0"), .str (Str.ofString "[" ++ name ++ Str.ofString "b," ++ number ++ Str.ofString "]"), .str (opened ++ closed)])) := same_new nL4
    have h4 : upd H3 L4 (.lst [.str (name), .str (name ++ Str.ofString "a"), .str (minus ++ number), .str (minus ++ number ++ Str.ofString "0"), .str (Str.ofString "[" ++ name ++ Str.ofString "b," ++ number ++ Str.ofString "]"), .str (opened ++ closed)]) L4 = some (.lst [.str (name), .str (name ++ Str.ofString "a"), .str (minus ++ number), .str (minus ++ number ++ Str.ofString "0"), .str (Str.ofString "[" ++ name ++ Str.ofString "b," ++ number ++ Str.ofString "]"), .str (opened ++ closed)]) := upd_same
    generalize upd H3 L4 (.lst [.str (name), .str (name ++ Str.ofString "a"), .str (minus ++ number), .str (minus ++ number ++ Str.ofString "0"), .str (Str.ofString "[" ++ name ++ Str.ofString "b," ++ number ++ Str.ofString "]"), .str (opened ++ closed)]) = H4 at s4 h4 ⊢
    have m4 : ∀ v ∈ ([.str (name), .str (name ++ Str.ofString "a"), .str (minus ++ number), .str (minus ++ number ++ Str.ofString "0"), .str (Str.ofString "[" ++ name ++ Str.ofString "b," ++ number ++ Str.ofString "]"), .str (opened ++ closed)] : List V), Mod v := by
      intro v hv
      simp only [List.mem_cons, List.not_mem_nil, or_false] at hv
      rcases hv with rfl | rfl | rfl | rfl | rfl | rfl <;> exact mod_len (by first | omega | (simp only [strLen_append]; omega))
    refine ⟨L4, rfl, ⟨_, SqL.of h4⟩, for_list (K := K) (a := L4) (xs := [.str (name), .str (name ++ Str.ofString "a"), .str (minus ++ number), .str (minus ++ number ++ Str.ofString "0"), .str (Str.ofString "[" ++ name ++ Str.ofString "b," ++ number ++ Str.ofString "]"), .str (opened ++ closed)]) (fun i σ H' => Same H4 H' ∧ Se b name number minus opened closed σ) ⟨Same.refl _, _, _, _, _, _, rfl⟩ (fun i σ H' _ h => SqL.of (h.1 _ _ h4)) ?_ ?_⟩
    · rintro i x σ H' hx ⟨sm, o1, o7, o8, o9, o10, rfl⟩
      obtain ⟨y, rfl, ly⟩ := m4 x (List.mem_of_getElem? hx)
      exact ⟨_, rfl, y, rfl, ly, fun H9 s9 => ⟨_, rfl, iteF ⟨sm.trans s9, _, _, _, _, _, rfl⟩⟩⟩
    rintro σ H4x ⟨sm4, o1, o7, o8, o9, o10, rfl⟩
    refine ⟨_, rfl, _, _, rfl, rfl, sz (by first | omega | (simp only [strLen_append]; omega)), _, rfl, _, rfl, _, _, rfl, rfl, sz (by first | omega | (simp only [strLen_append]; omega)), _, _, rfl, rfl, sz (by first | omega | (simp only [strLen_append]; omega)), by show 5 ≤ sizeLine; decide, fun L5 nL5 => ?_⟩
    have s5 : Same H4x (upd H4x L5 (.lst [.str (name ++ Str.ofString "\n"), .str (minus ++ number ++ Str.ofString "\n"), .str (Str.ofString "[]\n"), .str (Str.ofString "[7,\n8]"), .str (Str.ofString "\n7")])) := same_new nL5
    have h5 : upd H4x L5 (.lst [.str (name ++ Str.ofString "\n"), .str (minus ++ number ++ Str.ofString "\n"), .str (Str.ofString "[]\n"), .str (Str.ofString "[7,\n8]"), .str (Str.ofString "\n7")]) L5 = some (.lst [.str (name ++ Str.ofString "\n"), .str (minus ++ number ++ Str.ofString "\n"), .str (Str.ofString "[]\n"), .str (Str.ofString "[7,\n8]"), .str (Str.ofString "\n7")]) := upd_same
    generalize upd H4x L5 (.lst [.str (name ++ Str.ofString "\n"), .str (minus ++ number ++ Str.ofString "\n"), .str (Str.ofString "[]\n"), .str (Str.ofString "[7,\n8]"), .str (Str.ofString "\n7")]) = H5 at s5 h5 ⊢
    have m5 : ∀ v ∈ ([.str (name ++ Str.ofString "\n"), .str (minus ++ number ++ Str.ofString "\n"), .str (Str.ofString "[]\n"), .str (Str.ofString "[7,\n8]"), .str (Str.ofString "\n7")] : List V), Mod v := by
      intro v hv
      simp only [List.mem_cons, List.not_mem_nil, or_false] at hv
      rcases hv with rfl | rfl | rfl | rfl | rfl <;> exact mod_len (by first | omega | (simp only [strLen_append]; omega))
    refine ⟨L5, rfl, ⟨_, SqL.of h5⟩, for_list (K := K) (a := L5) (xs := [.str (name ++ Str.ofString "\n"), .str (minus ++ number ++ Str.ofString "\n"), .str (Str.ofString "[]\n"), .str (Str.ofString "[7,\n8]"), .str (Str.ofString "\n7")]) (fun i σ H' => Same H5 H' ∧ Se b name number minus opened closed σ) ⟨Same.refl _, _, _, _, _, _, rfl⟩ (fun i σ H' _ h => SqL.of (h.1 _ _ h5)) ?_ ?_⟩
    · rintro i x σ H' hx ⟨sm, o1, o7, o8, o9, o10, rfl⟩
      obtain ⟨y, rfl, ly⟩ := m5 x (List.mem_of_getElem? hx)
      exact ⟨_, rfl, y, rfl, ly, fun H9 s9 => ⟨_, rfl, iteF ⟨sm.trans s9, _, _, _, _, _, rfl⟩⟩⟩
    rintro σ H5x ⟨sm5, o1, o7, o8, o9, o10, rfl⟩
    refine ⟨_, rfl, _, rfl, _, _, rfl, rfl, sz (by first | omega | (simp only [strLen_append]; omega)), _, rfl, _, _, rfl, rfl, sz (by first | omega | (simp only [strLen_append]; omega)), _, rfl, _, _, rfl, rfl, sz (by first | omega | (simp only [strLen_append]; omega)), _, _, rfl, rfl, sz (by first | omega | (simp only [strLen_append]; omega)), _, rfl, _, _, rfl, rfl, sz (by first | omega | (simp only [strLen_append]; omega)), _, rfl, _, _, rfl, rfl, sz (by first | omega | (simp only [strLen_append]; omega)), _, rfl, _, _, rfl, rfl, sz (by first | omega | (simp only [strLen_append]; omega)), _, rfl, _, rfl, _, rfl, _, rfl, _, rfl, c16, _, _, rfl, rfl, sz (by first | omega | (simp only [strLen_append]; omega)), _, rfl, _, rfl, _, _, rfl, rfl, sz (by first | omega | (simp only [strLen_append]; omega)), _, _, rfl, rfl, sz (by first | omega | (simp only [strLen_append]; omega)), by show 5 ≤ sizeLine; decide, fun L6 nL6 => ?_⟩
    have s6 : Same H5x (upd H5x L6 (.lst [.str (opened ++ name ++ closed), .str (opened ++ Str.ofString "[" ++ Str.ofString "]" ++ closed), .str (opened ++ Str.ofString "," ++ closed), .str (opened ++ cutS closed none (some (-1))), .str (opened ++ closed ++ Str.ofString "]")])) := same_new nL6
    have h6 : upd H5x L6 (.lst [.str (opened ++ name ++ closed), .str (opened ++ Str.ofString "[" ++ Str.ofString "]" ++ closed), .str (opened ++ Str.ofString "," ++ closed), .str (opened ++ cutS closed none (some (-1))), .str (opened ++ closed ++ Str.ofString "]")]) L6 = some (.lst [.str (opened ++ name ++ closed), .str (opened ++ Str.ofString "[" ++ Str.ofString "]" ++ closed), .str (opened ++ Str.ofString "," ++ closed), .str (opened ++ cutS closed none (some (-1))), .str (opened ++ closed ++ Str.ofString "]")]) := upd_same
    generalize upd H5x L6 (.lst [.str (opened ++ name ++ closed), .str (opened ++ Str.ofString "[" ++ Str.ofString "]" ++ closed), .str (opened ++ Str.ofString "," ++ closed), .str (opened ++ cutS closed none (some (-1))), .str (opened ++ closed ++ Str.ofString "]")]) = H6 at s6 h6 ⊢
    have m6 : ∀ v ∈ ([.str (opened ++ name ++ closed), .str (opened ++ Str.ofString "[" ++ Str.ofString "]" ++ closed), .str (opened ++ Str.ofString "," ++ closed), .str (opened ++ cutS closed none (some (-1))), .str (opened ++ closed ++ Str.ofString "]")] : List V), Mod v := by
      intro v hv
      simp only [List.mem_cons, List.not_mem_nil, or_false] at hv
      rcases hv with rfl | rfl | rfl | rfl | rfl <;> exact mod_len (by first | omega | (simp only [strLen_append]; omega))
    refine ⟨L6, rfl, ⟨_, SqL.of h6⟩, for_list (K := K) (a := L6) (xs := [.str (opened ++ name ++ closed), .str (opened ++ Str.ofString "[" ++ Str.ofString "]" ++ closed), .str (opened ++ Str.ofString "," ++ closed), .str (opened ++ cutS closed none (some (-1))), .str (opened ++ closed ++ Str.ofString "]")]) (fun i σ H' => Same H6 H' ∧ Se b name number minus opened closed σ) ⟨Same.refl _, _, _, _, _, _, rfl⟩ (fun i σ H' _ h => SqL.of (h.1 _ _ h6)) ?_ ?_⟩
    · rintro i x σ H' hx ⟨sm, o1, o7, o8, o9, o10, rfl⟩
      obtain ⟨y, rfl, ly⟩ := m6 x (List.mem_of_getElem? hx)
      exact ⟨_, rfl, y, rfl, ly, fun H9 s9 => ⟨_, rfl, iteF ⟨sm.trans s9, _, _, _, _, _, rfl⟩⟩⟩
    rintro σ H6x ⟨sm6, o1, o7, o8, o9, o10, rfl⟩
    -- what is no text
    have kb6 : Kb b H H6x := k3.trans (.of_same (s4.trans (sm4.trans (s5.trans (sm5.trans (s6.trans sm6))))))
    refine ⟨by show 1 ≤ sizeLine; decide, fun la nla => ⟨by show 1 ≤ sizeLine; decide, fun ta nta => ⟨by show 5 ≤ sizeLine; decide, fun L7 nL7 => ?_⟩⟩⟩
    have e1 : upd (upd (upd H6x la (.lst [.str "a"])) ta (.tup [.str "a"])) L7 (.lst [.non, .int 3, .ref la, .ref ta, .bl true]) la = some (.lst [.str "a"]) := same_new nL7 _ _ (same_new nta _ _ upd_same)
    have e2 : upd (upd (upd H6x la (.lst [.str "a"])) ta (.tup [.str "a"])) L7 (.lst [.non, .int 3, .ref la, .ref ta, .bl true]) ta = some (.tup [.str "a"]) := same_new nL7 _ _ upd_same
    have e3 : upd (upd (upd H6x la (.lst [.str "a"])) ta (.tup [.str "a"])) L7 (.lst [.non, .int 3, .ref la, .ref ta, .bl true]) L7 = some (.lst [.non, .int 3, .ref la, .ref ta, .bl true]) := upd_same
    have s7 : Same H6x (upd (upd (upd H6x la (.lst [.str "a"])) ta (.tup [.str "a"])) L7 (.lst [.non, .int 3, .ref la, .ref ta, .bl true])) := ((same_new nla).trans (same_new nta)).trans (same_new nL7)
    generalize upd (upd (upd H6x la (.lst [.str "a"])) ta (.tup [.str "a"])) L7 (.lst [.non, .int 3, .ref la, .ref ta, .bl true]) = H7 at e1 e2 e3 s7 ⊢
    have m7 : ∀ v ∈ ([.non, .int 3, .ref la, .ref ta, .bl true] : List V), (∃ T, Kn H7 v T) ∧ readV v = .error 0 ∧ ∀ z, v ≠ .str z := by
      intro v hv
      simp only [List.mem_cons, List.not_mem_nil, or_false] at hv
      rcases hv with rfl | rfl | rfl | rfl | rfl
      · exact ⟨⟨_, .non⟩, rfl, fun _ e => nomatch e⟩
      · exact ⟨⟨_, .int 3⟩, rfl, fun _ e => nomatch e⟩
      · exact ⟨⟨_, .lst e1⟩, rfl, fun _ e => nomatch e⟩
      · exact ⟨⟨_, .tup e2⟩, rfl, fun _ e => nomatch e⟩
      · exact ⟨⟨_, .bl true⟩, rfl, fun _ e => nomatch e⟩
    refine ⟨L7, rfl, ⟨_, SqL.of e3⟩, for_list (K := K) (a := L7) (xs := [.non, .int 3, .ref la, .ref ta, .bl true]) (fun i σ H' => Same H7 H' ∧ Se b name number minus opened closed σ) ⟨Same.refl _, _, _, _, _, _, rfl⟩ (fun i σ H' _ h => SqL.of (h.1 _ _ e3)) ?_ ?_⟩
    · rintro i x σ H' hx ⟨sm, o1, o7, o8, o9, o10, rfl⟩
      obtain ⟨⟨U, kn⟩, er, ns⟩ := m7 x (List.mem_of_getElem? hx)
      refine ⟨_, rfl, ?_⟩
      refine ⟨_, rfl, x, U, rfl, kn.same sm, fun z e => absurd e (ns z), fun t et v' H2 rt s2 => (by rw [er] at et; cases et), fun e ee d H2 s2 nd hd => ?_⟩
      rw [er] at ee
      cases ee
      refine ⟨true, T.e_BadText, fun _ a na => ?_, fun z => nomatch z⟩
      refine ⟨_, rfl, rfl, rfl, d, _, _, rfl, hd, by rfl, ?_⟩
      refine ⟨_, rfl, rfl, _, rfl, ite2 (fun c => absurd c (by decide)) (fun _ => ⟨sm.trans s2, _, _, _, _, _, rfl⟩)⟩
    rintro σ H7x ⟨sm7, o1, o7, o8, o9, o10, rfl⟩
    exact k H7x (kb6.trans (.of_same (s7.trans sm7)))
end
end K04

set_option maxRecDepth 100000
set_option maxHeartbeats 4000000
namespace K04
open PySem PySem.Spec PyProof.Rows L2 Q RZ RT TL
theorem rgC_pos {len c : Int} (h0 : 0 ≤ len) (h1 : len < 2 ^ 40) (c0 : 1 ≤ c) (c1 : c < 2 ^ 20) : RgC 0 len c (Builtin.Range.rangeSize 0 len c).toNat := by
  refine ⟨by omega, by omega, ?_, rangeSize_toNat 0 len c⟩
  have p : c > 0 := by omega
  have e := rangeSize_toNat_le 0 len c
  have e0 := rangeSize_toNat 0 len c
  unfold Builtin.Range.small
  simp only [Builtin.Range.rangeFitsLong, Bool.and_eq_true, Bool.or_eq_true, decide_eq_true_eq, beq_iff_eq, p, if_true]
  omega
section
variable {P : Program} {w : World} {K : PySem.W.Frag} {mg : Str → Option Value} {base : Heap} {f : Addr} {fd : FuncData}
def spLaw (K : PySem.W.Frag) : Sp := fun vs H Q _ => ∃ (a : Addr) (ns : List Int), vs = [.ref a] ∧ SqL K H a (ns.map V.int) ∧ ∀ H', Q (.bl true) H'
theorem ok_law0 (T : Tx K mg) : ∃ fd, FnOk P w K mg base CX0 60 (He.ga K "law") fd ["script"] (spLaw K) ∧ FnP K "law" "law" s_law [] (He.ga K "law") fd := by
  obtain ⟨fd, F⟩ := T.d_law
  have C__law_bag := C_bag (P := P) (w := w) (base := base) T
  have C__law_draw := C_draw (P := P) (w := w) (base := base) T
  have C__law_piece3 := C_piece (P := P) (w := w) (base := base) T 3
  have C__law_piece1 := C_piece (P := P) (w := w) (base := base) T 1
  have C__law_spoil := C_spoil (P := P) (w := w) (base := base) T
  have C__law_right := C_right (P := P) (w := w) (base := base) T
  have C__law_ends_right := C_ends (P := P) (w := w) (base := base) T
  refine ⟨fd, F.ok sc_law (fun vs H Q E h => ?_) (fun cdv A outer s H vs Q E hr h => ?_), F⟩
  · obtain ⟨a, ns, rfl, _⟩ := h
    rfl
  · obtain ⟨a, ns, rfl, hS, kQ⟩ := h
    refine ⟨_, PSs.nox (pss_cons (ps_set (i := 1) sc_law.nd rfl (Or.inr rfl) (pe_cal C__law_bag (hr.mono (by decide)) pass0 (pa_cons (pv 0) pa_nil)))
      (pss_cons (ps_set (i := 3) sc_law.nd rfl (Or.inl rfl) (pe_op op_add_str (pe_op op_add_str pe_str (pe_bm PySem.F.plainAttrs_str PySem.F.slot_str_join PySem.F.type_str_join mt_join pe_str (pa_cons (pe_lc (own := [("k", 2)]) (g := gName 2) (tt := tYes) (by rfl) sc_law.nd (pi_range1 (by rfl) T.n_range (pa_cons (pe_op op_add pe_int (pe_cal C__law_draw (hr.mono (by decide)) pass0 (pa_cons (pv 1) (pa_cons pe_int pa_nil)))) pa_nil)) (blkOk_by (N := ["script", "bag", "k", "text", "step", "at", "turn", "small", "signs"]) (sc := defScope s_law) (by decide +kernel)) (fun _ _ _ _ _ => (pg_name (i := 2) sc_law.nd rfl (Or.inl rfl))) (fun _ _ _ _ _ => pts_nil) (fun _ _ _ _ _ => (pe_cal C__law_piece3 (hr.mono (by decide)) pass0 (pa_cons (pv 1) (pa_cons pe_int pa_nil))))) pa_nil))) pe_str))
      (pss_cons (ps_set (i := 4) sc_law.nd rfl (Or.inl rfl) (pe_op op_add pe_int (pe_op op_fdiv (pe_callB call_len_str (by rfl) T.n_len (by decide +kernel) (pa_cons (pv 3) pa_nil)) pe_int)))
      (pss_cons (ps_for PassesOwn.never rfl (pi_range3 (by rfl) T.n_range (pa_cons pe_int (pa_cons (pe_op op_add (pe_callB call_len_str (by rfl) T.n_len (by decide +kernel) (pa_cons (pv 3) pa_nil)) pe_int) (pa_cons (pv 4) pa_nil)))) (pg_name (i := 5) sc_law.nd rfl (Or.inl rfl))
        (pss_one (ps_if (pt_not (pt_val (pe_cal C__law_right (hr.mono (by decide)) pass0 (pa_cons (pe_slice sl_str (pv 3) po_none (po_some (pv 5))) pa_nil))))
          (pss_one (ps_ret pe_bl))
          pss_nil)))
      (pss_cons (ps_for PassesOwn.never rfl (pi_range1 (by rfl) T.n_range (pa_cons pe_int pa_nil)) (pg_name (i := 6) sc_law.nd rfl (Or.inl rfl))
        (pss_one (ps_if (pt_not (pt_val (pe_cal C__law_right (hr.mono (by decide)) pass0 (pa_cons (pe_cal C__law_spoil (hr.mono (by decide)) pass0 (pa_cons (pv 1) (pa_cons (pv 3) pa_nil))) pa_nil))))
          (pss_one (ps_ret pe_bl))
          pss_nil)))
      (pss_cons (ps_set (i := 7) sc_law.nd rfl (Or.inl rfl) (pe_cal C__law_piece1 (hr.mono (by decide)) pass0 (pa_cons (pv 1) (pa_cons pe_int pa_nil))))
      (pss_cons (ps_if (PW.pt (pw_or (pt_not (pt_val (pe_cal C__law_right (hr.mono (by decide)) pass0 (pa_cons (pv 7) pa_nil)))) (pw_or (pt_not (pt_val (pe_cal C__law_right (hr.mono (by decide)) pass0 (pa_cons (pe_cal C__law_spoil (hr.mono (by decide)) pass0 (pa_cons (pv 1) (pa_cons (pv 7) pa_nil))) pa_nil)))) (pw_or1 (pt_not (pt_val (pe_cal C__law_right (hr.mono (by decide)) pass0 (pa_cons pe_str pa_nil))))))))
        (pss_one (ps_ret pe_bl))
        pss_nil)
      (pss_cons (ps_set (i := 8) sc_law.nd rfl (Or.inr rfl) pe_str)
      (pss_cons (ps_for PassesOwn.never rfl (pi_range1 (by rfl) T.n_range (pa_cons pe_int pa_nil)) (pg_name (i := 6) sc_law.nd rfl (Or.inl rfl))
        (pss_one (ps_if (pt_not (pt_val (pe_cal C__law_right (hr.mono (by decide)) pass0 (pa_cons (pe_bm PySem.F.plainAttrs_str PySem.F.slot_str_join PySem.F.type_str_join mt_join pe_str (pa_cons (pe_lc (own := [("k", 2)]) (g := gName 2) (tt := tYes) (by rfl) sc_law.nd (pi_range1 (by rfl) T.n_range (pa_cons (pe_cal C__law_draw (hr.mono (by decide)) pass0 (pa_cons (pv 1) (pa_cons pe_int pa_nil))) pa_nil)) (blkOk_by (N := ["script", "bag", "k", "text", "step", "at", "turn", "small", "signs"]) (sc := defScope s_law) (by decide +kernel)) (fun _ _ _ _ _ => (pg_name (i := 2) sc_law.nd rfl (Or.inl rfl))) (fun _ _ _ _ _ => pts_nil) (fun _ _ _ _ _ => (pe_ix ix_str (pv 8) (pe_cal C__law_draw (hr.mono (by decide)) pass0 (pa_cons (pv 1) (pa_cons pe_int pa_nil))) (fun _ _ => rfl)))) pa_nil)) pa_nil))))
          (pss_one (ps_ret pe_bl))
          pss_nil)))
      (pss_one (ps_ret (pe_cal C__law_ends_right (hr.mono (by decide)) pass0 (pa_cons (pv 1) pa_nil))))))))))))), ?_⟩
    have le : ∀ {m : Nat}, m ≤ 20000 → m ≤ sizeLine := fun h => Nat.le_trans h (by decide)
    have q1 : (Str.ofString "[").length = 1 := by decide +kernel
    have q2 : (Str.ofString "]").length = 1 := by decide +kernel
    have e3 : lenP 3 = 1158 := rfl
    have c3 : cost 3 = 1200 := rfl
    refine ⟨_, rfl, a, ns, rfl, hS, fun b c H1 nb nc s1 B1 => ?_⟩
    -- text
    refine ⟨rfl, _, rfl, b, c, 3, _, rfl, B1, by decide, by decide, by decide, fun len H2 n0 n3 o2 B2 => ?_⟩
    obtain ⟨j, rfl⟩ : ∃ m : Nat, len = (m : Int) := ⟨len.toNat, by omega⟩
    refine ⟨_, _, rfl, rfl, 1 + (j : Int), rfl, by omega, by omega, fun D nD => ?_⟩
    rw [show ((1 : Int) + (j : Int)).toNat = j + 1 by omega]
    have Db := (B2.new nD).1
    have Dc := (B2.new nD).2
    refine lc_range (lo := 0) (n := j + 1) (fun i H' => BagAt H' b c (1 + (i : Int) * 1200) ∧ ∃ xs : List Str, H' D = some (.lst (xs.map V.str)) ∧ xs.length = i ∧ (xs.map (·.length)).sum ≤ i * 1158) ⟨(B2.updNew nD).mono (by omega), [], upd_same, rfl, Nat.zero_le _⟩ ?_ ?_
    · rintro i H3 hi ⟨B3, xs, hD, hl, hs⟩
      refine ⟨rfl, _, rfl, b, c, _, rfl, by decide, B3, by rw [c3]; omega, fun x H4 xl k4 B4 => ?_⟩
      refine ⟨_, k4 _ _ Db hD, by rw [List.length_map, hl, sizeLine_eq]; omega, (B4.upd Db Dc).mono (by rw [c3]; omega), xs ++ [x], by rw [upd_same, List.map_append]; rfl, by rw [List.length_append, hl]; rfl, ?_⟩
      rw [List.map_append, List.sum_append]
      show _ + (x.length + 0) ≤ _
      omega
    rintro H3 ⟨B3, xs, hD, hl, hs⟩
    have cl : comma.length = 1 := rfl
    have jl := join_le xs
    rw [← TL.join_eq] at jl
    refine ⟨comma, D, xs, rfl, rfl, .inl (SqL.of hD), by rw [cl]; omega, _, _, rfl, rfl, by rw [q1, sizeLine_eq]; omega, _, _, rfl, rfl, by rw [strLen_append, q1, q2, sizeLine_eq]; omega, ?_⟩
    have tl4 : (Str.ofString "[" ++ Txt.join comma xs ++ Str.ofString "]").length ≤ 3600 := by rw [strLen_append, strLen_append]; omega
    replace B3 := B3.mono (n' := 4000) (by omega)
    generalize Str.ofString "[" ++ Txt.join comma xs ++ Str.ofString "]" = text at tl4 ⊢
    have t16 : text.length ≤ sizeLine := le (by omega)
    -- step
    refine ⟨_, rfl, text, rfl, t16, _, _, rfl, rfl, ⟨by decide, by decide⟩, _, _, rfl, rfl, ?_⟩
    have st0 : 0 ≤ (text.length : Int) / 30 := Int.ediv_nonneg (by omega) (by decide)
    have st1 : (text.length : Int) / 30 ≤ 3600 := by omega
    refine ⟨_, rfl, text, rfl, t16, _, _, rfl, rfl, _, rfl, 0, _, _, _, rfl, rgC_pos (by omega) (by omega) (by omega) (by omega), ?_⟩
    refine for_rangeC (lo := 0) (c := 1 + (text.length : Int) / 30) (n := _) (fun i σ H' => (∃ o5, σ = [some (.ref a), some (.ref b), none, some (.str text), some (.int (1 + (text.length : Int) / 30)), o5, none, none, none]) ∧ BagAt H' b c 4000) ⟨⟨none, rfl⟩, B3⟩ ?_ ?_
    · rintro i σ H' hi ⟨⟨o5, rfl⟩, B4⟩
      refine ⟨_, rfl, _, rfl, _, rfl, _, rfl, t16, _, rfl, Nat.le_trans (cutS_length _ _ _) (by omega), fun H9 s9 => ⟨_, rfl, iteF ⟨⟨_, rfl⟩, B4.same s9⟩⟩⟩
    rintro σ H4 ⟨⟨o5, rfl⟩, B4⟩
    -- spoilt
    refine ⟨8, rfl, by decide, by decide, for_range (lo := 0) (n := 8) (fun i σ H' => (∃ o6, σ = [some (.ref a), some (.ref b), none, some (.str text), some (.int (1 + (text.length : Int) / 30)), o5, o6, none, none]) ∧ BagAt H' b c (4000 + i * 3)) ⟨⟨none, rfl⟩, B4.mono (by omega)⟩ ?_ ?_⟩
    · rintro i σ H' hi ⟨⟨o6, rfl⟩, B5⟩
      refine ⟨_, rfl, _, rfl, b, c, _, text, rfl, B5, by omega, by omega, fun x H6 xl k6 B6 => ⟨x, rfl, by omega, fun H9 s9 => ⟨_, rfl, iteF ⟨⟨_, rfl⟩, (B6.same s9).mono (by omega)⟩⟩⟩⟩
    rintro σ H5 ⟨⟨o6, rfl⟩, B5⟩
    have e1 : lenP 1 = 126 := rfl
    have c1 : cost 1 = 120 := rfl
    -- small
    refine ⟨_, rfl, b, c, _, rfl, by decide, B5, by rw [c1]; decide, fun small H6 sl k6 B6 => ?_⟩
    refine ⟨_, rfl, small, rfl, by omega, fun H7 s7 => ⟨_, rfl, iteF ?_⟩⟩
    refine ⟨_, rfl, _, rfl, b, c, _, small, rfl, B6.same s7, by rw [c1]; decide, by omega, fun x H8 xl k8 B8 => ⟨x, rfl, by omega, fun H9 s9 => ⟨_, rfl, iteF ?_⟩⟩⟩
    refine ⟨_, rfl, by decide +kernel, fun H10 s10 => ⟨_, rfl, iteF ?_⟩⟩
    have B9 := (B8.same (s9.trans s10)).mono (n' := 5000) (by rw [c1]; decide)
    clear B8 B6 s7 s9 s10 k8 k6
    -- rows of signs
    refine ⟨6, rfl, by decide, by decide, for_range (lo := 0) (n := 6) (fun i σ H' => (∃ o2 o6, σ = [some (.ref a), some (.ref b), o2, some (.str text), some (.int (1 + (text.length : Int) / 30)), o5, o6, some (.str small), some (.str "ab019[],-[]")]) ∧ BagAt H' b c (5000 + i * 20)) ⟨⟨_, _, rfl⟩, B9.mono (by omega)⟩ ?_ ?_⟩
    · rintro i σ H11 hi ⟨⟨o2, o6, rfl⟩, B11⟩
      refine ⟨rfl, _, rfl, b, c, 9, _, rfl, B11, by decide, by decide, by omega, fun len H12 n0 n9 o12 B12 => ?_⟩
      obtain ⟨m, rfl⟩ : ∃ m : Nat, len = (m : Int) := ⟨len.toNat, by omega⟩
      refine ⟨(m : Int), rfl, by omega, by omega, fun D nD => ?_⟩
      rw [Int.toNat_natCast]
      have Db := (B12.new nD).1
      have Dc := (B12.new nD).2
      refine lc_range (lo := 0) (n := m) (fun j H' => BagAt H' b c (5000 + i * 20 + 1 + j) ∧ ∃ cs : List Nat, H' D = some (.lst ((cs.map sgn).map V.str)) ∧ cs.length = j) ⟨(B12.updNew nD).mono (by omega), [], upd_same, rfl⟩ ?_ ?_
      · rintro j H13 hj ⟨B13, cs, hD, hl⟩
        refine ⟨rfl, ⟨_, rfl, _, rfl, b, c, 11, _, rfl, B13, by decide, by decide, by omega, fun r H14 r0 r11 o14 B14 => ?_⟩⟩
        obtain ⟨k, rfl⟩ : ∃ k : Nat, r = (k : Int) := ⟨r.toNat, by omega⟩
        have sgl : (("ab019[],-[]" : Str)).cps.toList.length = 11 := by decide +kernel
        have gk : (("ab019[],-[]" : Str)).cps.toList[k]? = some (("ab019[],-[]" : Str)).cps.toList[k] := List.getElem?_eq_getElem (by omega)
        refine ⟨_, _, _, rfl, rfl, by decide +kernel, atI_nat gk, _, o14.at Db hD, ?_, (B14.upd Db Dc).mono (by omega), cs ++ [(("ab019[],-[]" : Str)).cps.toList[k]], ?_, by rw [List.length_append, hl]; rfl⟩
        · rw [List.length_map, List.length_map]
          exact small1000 (by omega)
        · rw [upd_same, List.map_append, List.map_append]
          rfl
      · rintro H13 ⟨B13, cs, hD, hl⟩
        have e0 : (Str.ofString "").length = 0 := by decide +kernel
        refine ⟨_, D, cs.map sgn, rfl, rfl, .inl (SqL.of hD), ?_, ?_⟩
        · rw [sum_ones, List.length_map, e0]
          omega
        rw [join_sgn]
        have sl : (SX.S cs).length = cs.length := List.size_toArray ..
        exact ⟨_, rfl, by omega, fun H9 s9 => ⟨_, rfl, iteF ⟨⟨_, _, rfl⟩, (B13.same s9).mono (by omega)⟩⟩⟩
    rintro σ H11 ⟨⟨o2, o6, rfl⟩, B11⟩
    exact ⟨_, rfl, b, c, _, rfl, B11, by decide, fun H' _ => kQ H'⟩
theorem ok_law (T : Tx K mg) : ∃ fd, FnG P w K mg base CX0 60 (He.ga K "law") fd ["script"] (spLaw K) ∧ FnP K "law" "law" s_law [] (He.ga K "law") fd :=
  let ⟨fd, a, b⟩ := ok_law0 (P := P) (w := w) (base := base) T
  ⟨fd, .of a, b⟩
end
end K04

set_option maxRecDepth 100000
set_option maxHeartbeats 4000000
namespace K04
open PySem PySem.Spec PyProof.Rows L2 Q RZ RT
theorem ends {P : Program} {w : World} {K : PySem.W.Frag} {h : Heap} {mg : Str → Option Value} {f : Addr} (X : K.In h) (G : h.Ns mainGlobals mg) (hf : mg ("law" : Str) = some (.ref f)) (c : SaysF fb fn K) :
    ∃ fd : FuncData, (∀ (s : Shared) (v : Value), BindsTo s fd ⟨[v], []⟩ [("script", v)]) ∧ ∀ base : Heap, K.In base → base.Ns mainGlobals mg → FnG P w K mg base CX0 60 f fd ["script"] (spLaw K) := by
  have T := tx_of X G c
  cases hf.symm.trans T.g_law
  obtain ⟨fd, F⟩ := T.d_law
  refine ⟨fd, fun s v => F.bindsA (ps := ["script"]) (fun _ _ _ _ _ _ us hl => match us, hl with | [_], _ => rfl) s [v] rfl, fun base _ _ => ?_⟩
  obtain ⟨fd', law, F'⟩ := ok_law (P := P) (w := w) (base := base) T
  obtain ⟨_, _, _, _, _, _, _, _, _, _, _, e1, _⟩ := F.ex
  obtain ⟨_, _, _, _, _, _, _, _, _, _, _, e2, _⟩ := F'.ex
  have e := e1.symm.trans e2
  obtain rfl : fd = fd' := by
    injection e with e
    injection e with _ _ e _
    injection e
  exact law

end K04
open PySem PySem.W PySem.Calls PyProof.Rows
set_option maxRecDepth 100000 in
set_option maxHeartbeats 0 in
theorem PySem.Challenge.cw_fewfetches_k04_wrong_data_texts_at_their_holds : PySem.Challenge.rw_fewfetches_k04_wrong_data_texts_at_their.Holds := by
  w_on; o_law
  refine HandSHeadRun.head_any (r := OpenLaw.row PySem.Challenge.rw_fewfetches_k04_wrong_data_texts_at_their) (q := view (OpenLaw.row PySem.Challenge.rw_fewfetches_k04_wrong_data_texts_at_their).prog [30]) (H := K04.hk) (ob := K04.ob) (M := 4000) (loose := ["FetchError", "BadData", "BadText", "LETTERS", "LONGEST_NAME", "is_whole", "is_name", "SMALL", "FIGURES", "MOST_LETTERS", "MOST_FIGURES", "DEEPEST", "TOO_GREAT", "data_text", "name_from", "number_from", "item_from", "read_data", "_law_bag", "_law_draw", "_law_step", "_law_place", "_law_right", "_law_piece", "_law_spoil", "_law_ends_right"]) (d := HandSHeadRun.topDef (OpenLaw.row PySem.Challenge.rw_fewfetches_k04_wrong_data_texts_at_their).prog 30) (kwd := []) K04.ob_eq
    (by kernel_rfl) (fun s => by kernel_rfl) K04.run (by kernel_rfl) (by kernel_rfl) (by kernel_rfl) (by rfl) (by first | assumption | decide +kernel) (by decide +kernel) ⟨rfl, rfl, rfl, rfl, rfl, by decide +kernel⟩ ?hw ?hc
  case hw => w_witness2
  case hc =>
    refine Q.walk_ofG (l := PySem.Challenge.rw_fewfetches_k04_wrong_data_texts_at_their) (n := 63) (k := 60) (x := "script") (CX := L2.CX0) rfl (by decide) (by kernel_rfl) ⟨rfl, by decide, by decide⟩ ?F (fun _ _ _ _ z => z)
    intro w mg fa h Y G hmg0
    obtain ⟨K, KX, c⟩ := Y
    have hmg : mg ("law" : PySem.Str) = some (.ref fa) := by
      have e : (HandSHeadRun.topDef (OpenLaw.row PySem.Challenge.rw_fewfetches_k04_wrong_data_texts_at_their).prog 30).name = ("law" : PySem.Str) := by kernel_rfl
      rw [← e]
      exact hmg0
    obtain ⟨fd, hb, hF⟩ := K04.ends (P := (PySem.Challenge.rw_fewfetches_k04_wrong_data_texts_at_their).prog) (w := w) KX G hmg c
    exact ⟨K, fd, K04.spLaw K, KX, hb, fun H a ns hl _ hS => ⟨a, ns, rfl, hS, fun _ => rfl⟩, hF⟩
#print axioms PySem.Challenge.cw_fewfetches_k04_wrong_data_texts_at_their_holds


