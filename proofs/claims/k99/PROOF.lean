import PyProof.Rows.All
import Wide.All
import OpenK.AllK
import Wide.FinOn
import KE.KStateDown
import Lean
import PyProof.ReprRoads
import KE.KExcIs
import HandS.Base
import HandS.Call
import HandS.List
import HandS.Comp
import HandS.Ends
import HandS.Exc
import HandS.ExcOwn
import HandS.ExcInit
import HandS.ExcField
import HandS.ExcIs
import HandS.TryOnly
import HandS.Dict
import HandS.Iter
import HandS.Text
import HandS.More
import HandS.Words
import HandS.WordsList
import HandS.WordsDict
import HandS.WordsExc
import HandS.Defaults
import HandS.IsInst
import HandS.Wide
import HandS.Zip
import HandS.Conv
import HandS.Codes
import HandS.TupAny
import HandS.DeepEq
import HandS.Head0
import HandS.Head1
import HandS.Head2
import HandS.HeadEnd
import HandS.HeadHook1
import HandS.HeadHook2
import HandS.HeadNt
import KE.GoesMore
import KE.GoesEnum
import HandS.Rev
import HandS.Walk
import PyProof.CallFns
import HandS.FStr
import HandS.ExcValue
import PySem.Challenge.RW_fewfetches_k99_errors_stand_apart
set_option Elab.async false
set_option linter.all false
set_option maxRecDepth 100000
set_option maxHeartbeats 4000000
/-! What all our proofs share: how a caller takes a def, heaps, an exception's isinstance, repr of data. -/
namespace Q
open PySem PySem.Spec PyProof.Rows L2
/-! ### a def as its callers take it -/
structure Cal (P : Program) (w : World) (K : PySem.W.Frag) (mg : Str → Option Value) (base : Heap) (CX : CXT) (k : Nat) (x : Str) (ps : List Str) (dvs : List V) (sp : Sp) : Prop where
  ex : ∃ (f : Addr) (fd : FuncData) (ds : List Value), FnOk P w K mg base CX k f fd ps sp ∧ mg x = some (.ref f) ∧ PySem.W.keepIn K (.ref f) = true ∧ Binds K fd ps ds ∧ Vals dvs ds
section
variable {X : Cx} {CX : CXT} {k : Nat} {ps : List Str} {sp : Sp} {dvs : List V} {E : XK} {x : Str} {p pos : Pos} {e : Expr} {es : List Expr} {t : TA}
theorem pe_cal (C : Cal X.prog X.w X.K X.mg X.base CX k x ps dvs sp) (hr : Room k X.A) (hx : Passes CX X E) (ha : PA X (e :: es) t) (hg : Gl X x := by rfl) (hdb : (x == ("__debug__" : Str)) = false := by decide)
    (he : starEach (e :: es) X.env = (false, eval e X.env) :: starEach es X.env := by rfl) (hpl : (backTo pos (starEach es X.env)).any (·.1) = false := by rfl) :
    PE X (.Call (.Name x p) (e :: es) [] pos) (tCall sp dvs E t) := by
  obtain ⟨f, fd, ds, G, g, kp, b, v⟩ := C.ex
  exact pe_call G hr hg g kp b v hx ha hdb he hpl
theorem pe_cal0 (C : Cal X.prog X.w X.K X.mg X.base CX k x ps dvs sp) (hr : Room k X.A) (hx : Passes CX X E) (hg : Gl X x := by rfl) (hdb : (x == ("__debug__" : Str)) = false := by decide) :
    PE X (.Call (.Name x p) [] [] pos) (tCall sp dvs E tNil) := by
  obtain ⟨f, fd, ds, G, g, kp, b, v⟩ := C.ex
  exact pe_call0 G hr hg g kp b v hx hdb
end
section
variable {X : Cx} {CX : CXT} {k : Nat} {ps : List Str} {sp : Sp} {E : L2.St → XK} {x : Str} {p pos : Pos} {e : Expr} {es : List Expr} {t : TA}
theorem pe_calS (C : Cal X.prog X.w X.K X.mg X.base CX k x ps [] sp) (hr : Room k X.A) (hx : ∀ σ, PassesAt CX X σ (E σ)) (ha : PA X (e :: es) t) (hg : Gl X x := by rfl) (hdb : (x == ("__debug__" : Str)) = false := by decide)
    (he : starEach (e :: es) X.env = (false, eval e X.env) :: starEach es X.env := by rfl) (hpl : (backTo pos (starEach es X.env)).any (·.1) = false := by rfl) :
    PE X (.Call (.Name x p) (e :: es) [] pos) (tCallS sp E t) := by
  obtain ⟨f, fd, ds, G, g, kp, b, v⟩ := C.ex
  cases v
  exact pe_callS G hr hg g kp b hx ha hdb he hpl
end
/-! ### an instance made by an __init__ that may raise, in a try's body -/
section
variable {X : Cx} {CX : CXT} {k : Nat} {f C : Addr} {fd : FuncData} {ps : List Str} {sp : Sp} {E : L2.St → XK} {x : Str} {p pos : Pos} {e : Expr} {es : List Expr} {t : TA}
theorem run_newS {pins : List (Addr × Obj)} {σ : L2.St} {H : Hp} {s : Shared} {Q : VK} {us : List Value} {vs : List V} (M : Mk X.K C f) (F : FnOk X.prog X.w X.K X.mg X.base CX k f fd ps sp) (hr : Room (k + 1) X.A) (hb : Binds X.K fd ps [])
    (hx : PassesAt CX X σ (E σ)) (I : Inv X pins σ H s) (r : Vals vs us)
    (h : ∀ y dy, H y = none → H dy = none → dy ≠ y → sp (.ref y :: vs) (upd (upd H dy (.own y)) y (.ins C dy [])) (fun v H2 => v = .non ∧ Q (.ref y) H2) (E σ)) :
    wpAny (model X.prog X.w) X.A (call (.ref C) us) (EP X pins σ Q) X.xe s := by
  have n1 : H (s.heap.objs.size + 1) = none := I.hok.fresh (Nat.le_succ _)
  have n0 : H s.heap.objs.size = none := I.hok.fresh (Nat.le_refl _)
  have todo := h _ _ n1 n0 (Nat.ne_of_lt (Nat.lt_succ_self _))
  have J := Inv.made (C := C) I
  have rr : Vals (V.ref (s.heap.objs.size + 1) :: vs) (Value.ref (s.heap.objs.size + 1) :: us) := .cons rfl r
  have ln : (Value.ref (s.heap.objs.size + 1) :: us).length = ps.length := by
    have e1 := rr.length
    have e2 := F.len _ _ _ _ todo
    omega
  have bb := hb _ (Value.ref (s.heap.objs.size + 1) :: us) J.kIn (by rw [List.append_nil]; exact ln)
  rw [List.append_nil] at bb
  refine wpAny_call (make_map (f := f) I.kIn M.makes M.init (beq_iff_eq.mp M.fn) (codeAny_mono
    (F.run _ X.stack _ _ ⟨Value.ref (s.heap.objs.size + 1) :: us, []⟩ _ _ _ (E σ) (hr.make C us []) (J.env0.make C us []) bb rr todo) fun r s' z => ?_))
  cases r with
  | error er => exact hx pins _ _ er s' J z
  | ok fl =>
    cases fl with
    | ret u =>
      obtain ⟨v, H', I3, rv, ev, q3⟩ := J.after z
      subst ev
      exact ⟨rv, V.ref (s.heap.objs.size + 1), H', I3, rfl, q3⟩
    | next => exact z.elim
    | brk => exact z.elim
    | cont => exact z.elim
def tNewS (C : Addr) (sp : Sp) (E : L2.St → XK) (t : TA) : TE := fun σ H Q => t σ H fun vs H1 => ∀ y dy, H1 y = none → H1 dy = none → dy ≠ y →
  sp (.ref y :: vs) (upd (upd H1 dy (.own y)) y (.ins C dy [])) (fun v H2 => v = .non ∧ Q (.ref y) H2) (E σ)
theorem pe_newS (M : Mk X.K C f) (F : FnOk X.prog X.w X.K X.mg X.base CX k f fd ps sp) (hr : Room (k + 1) X.A) (hm : X.mg x = some (.ref C)) (hb : Binds X.K fd ps []) (hx : ∀ σ, PassesAt CX X σ (E σ))
    (ha : PA X (e :: es) t) (hg : Gl X x := by rfl) (hdb : (x == ("__debug__" : Str)) = false := by decide) (he : starEach (e :: es) X.env = (false, eval e X.env) :: starEach es X.env := by rfl)
    (hpl : (backTo pos (starEach es X.env)).any (·.1) = false := by rfl) : PE X (.Call (.Name x p) (e :: es) [] pos) (tNewS C sp E t) := by
  refine ⟨fun pins s σ H Q I h => wpAny_Call_Name_kw (ld_glob I hg hm ?_ hdb)⟩
  refine PySem.W.callWith_K (h₀ := X.base) I.ok.mod.kin M.kp (thn (ha.run pos pins s σ H _ I h) fun us s1 ⟨vs, H1, I1, r, q⟩ => ⟨I1.kIn, ?_⟩) he hpl
  exact run_newS M F hr hb (hx σ) I1 r q
end
/-! ### isinstance of a caught exception, its dict there or not -/
def rIsX (K : PySem.W.Frag) (D a : Addr) (cls : Value) (d : Option Addr) : List V → Hp → VK → Prop := fun xs H Q => cls = .ref D ∧ (∀ dd, d = some dd → ∃ o, H dd = some o) ∧ rIsE K D a xs H Q
theorem call_isX {X : Cx} {a D : Addr} {oe : Obj} {cls : Value} {d : Option Addr} {pn : List (Addr × Obj)} (T : ExcC X.K D) (hz : Zc cls d oe) (hf : ∃ vs, oe.data = .fields vs) : CallR (X.suite a ((a, oe) :: pn)) (.builtin "isinstance") (rIsX X.K D a cls d) := by
  intro pins s σ H xs us Q I r h
  obtain ⟨rfl, there, c, cv, b, rfl, hcv, e, q⟩ := h
  obtain ⟨u1, u2, rfl, r1, r2⟩ := vals2 r
  obtain rfl : u1 = Value.ref a := r1
  obtain rfl := hcv _ r2
  have got := (I.pin (a, oe) (List.mem_append_left _ List.mem_cons_self)).1
  obtain ⟨vs, hv⟩ := hf
  have nc : PySem.W.notCls oe := by
    unfold PySem.W.notCls
    rw [hv]
  obtain ⟨od, hod⟩ : ∃ od : Option Obj, PySem.W.InstAt s.heap a oe D od := by
    cases d with
    | none => exact ⟨none, got, hz.1, nc, by rw [hz.2]; trivial⟩
    | some dd =>
      obtain ⟨o, ho⟩ := there dd rfl
      obtain ⟨u, hu⟩ := objOk_get (I.hok dd o ho)
      exact ⟨some u, got, hz.1, nc, by rw [hz.2]; exact hu⟩
  exact PySem.W.kia_one (PySem.W.kitx_exc (od := od) (by obtain ⟨cd, hc, _⟩ := PySem.W.any_some T.hd; rw [hc]; rfl) T.hg T.hk T.hs T.ha T.hn T.ht T.hm) I.kIn hod e (fun z => nomatch z) fun tk => ⟨.bl b, H, I.kept (t' := tk) fun _ _ z => z, rfl, q⟩
/-! ### repr of data that stands in the heap: asked where no repr runs around -/
def rReprD (K : PySem.W.Frag) : List V → Hp → VK → Prop := fun xs H Q => ∃ (x : V) (d : PyData), xs = [x] ∧ Dp K H x d ∧ (∃ a, x = .ref a) ∧ d.showable = true ∧ d.hasDict = false ∧ d.depth ≤ 60 ∧ d.shown.length ≤ sizeLine ∧ Q (.str d.shown) H
theorem call_reprD {X : Cx} (hg : X.A.guards = some []) (hu : X.A.units + 64 < cLine) : CallR X (.builtin "repr") (rReprD X.K) := by
  intro pins s σ H xs us Q I r h
  obtain ⟨x, d, rfl, hD, ⟨a, rfl⟩, hs, hno, hdp, hl, q⟩ := h
  obtain ⟨u, rfl, r1⟩ := vals1 r
  obtain rfl : u = Value.ref a := r1
  obtain ⟨as, rd⟩ := Dp.reads I d _ _ hD rfl
  refine repr_of_reads' rd hs (fun z => by rw [hno] at z; cases z) hg (by omega) (fun _ _ e => e) (fun h' t tk hk => ⟨.str d.shown, H, I.kept (t' := tk) hk, ⟨t, rfl⟩, q⟩) hl
/-! ### defs that ask for this: their promise is kept where no repr runs around -/
structure FnG (P : Program) (w : World) (K : PySem.W.Frag) (mg : Str → Option Value) (base : Heap) (CX : CXT) (k : Nat) (f : Addr) (fd : FuncData) (ps : List Str) (sp : Sp) : Prop where
  len : ∀ vs H Q E, sp vs H Q E → vs.length = ps.length
  run : ∀ (A : Around) (outer : List Env) (s : Shared) (H : Hp) (args : Args) (us : List Value) (vs : List V) (Q : VK) (E : XK), A.guards = some [] → Room k A → Env0 P w K mg base A outer s H → BindsTo s fd args (ps.zip us) → Vals vs us →
    sp vs H Q E → codeAny (model P w) A (.call (.ref f) args) (CR CX outer P w H s Q E) s
theorem FnG.of {P : Program} {w : World} {K : PySem.W.Frag} {mg : Str → Option Value} {base : Heap} {CX : CXT} {k : Nat} {f : Addr} {fd : FuncData} {ps : List Str} {sp : Sp} (F : FnOk P w K mg base CX k f fd ps sp) : FnG P w K mg base CX k f fd ps sp :=
  ⟨F.len, fun A outer s H args us vs Q E _ => F.run A outer s H args us vs Q E⟩
section
variable {P : Program} {w : World} {K : PySem.W.Frag} {mg : Str → Option Value} {base : Heap} {x qual : Str} {params : Arguments} {body : List Stmt} {scope : Scope} {dvs : List V} {kws : List (Str × V)} {f : Addr} {fd : FuncData} {CX : CXT} {N ps : List Str} {k : Nat} {sp : Sp}
theorem funG (F : FunD K x qual params body scope dvs kws f fd) (S : FnScope N ps scope) (len : ∀ vs H Q E, sp vs H Q E → vs.length = ps.length)
    (hbody : ∀ (cdv : Value) (A : Around) (outer : List Env) (s : Shared) (H : Hp) (vs : List V) (Q : VK) (E : XK), A.guards = some [] → Room k (A.deeper (envOfC qual scope s.heap.objs.size f cdv)) → sp vs H Q E →
      ∃ t, PSs (cxOf CX P w K mg base N qual scope f cdv A outer s H E) body t ∧ t { nx := fun _ H' => Q .non H', rt := Q } (start N vs) H) : FnG P w K mg base CX (k + 1) f fd ps sp := by
  obtain ⟨oc, od, dV, kV, doc, pm, an, cdv, ct, osl, rfl, lk, hcd, -, -⟩ := F.ex
  refine ⟨len, fun A outer s H args us vs Q E gd hr e0 hb r todo => ?_⟩
  have hlen := len _ _ _ _ todo
  have inH : K.In s.heap := e0.mod.kin.keeps fun b o z => (e0.bs b o z).1
  have noLim : s.heap.NoLimit := e0.mod.nolimit.keeps fun b o z => (e0.bs b o z).1
  refine codeAny_call_function hr.depth (inH _ _ lk) rfl S.co S.gen rfl (PySem.W.codeRec_of inH hcd) (hb _ _ _ _ (wpAny_newFunctionEnv_cells S.kind (fun y hy => ?_) fun env he s1 entered => ?_))
  · rcases S.par y.1 (List.of_mem_zip (show (y.1, y.2) ∈ ps.zip us from hy)).1 with c | c
    · exact .inl c
    · exact .inr ⟨c, PySem.W.cellsFrom_some _ _ _ (.inl c)⟩
  · subst he
    obtain ⟨t, ht, hq⟩ := hbody cdv A outer s H vs Q E gd (hr.deeper _) todo
    have J : Inv (cxOf CX P w K mg base N qual scope f cdv A outer s H E) [] (start N vs) H s1 := inv_start S hr.hd e0 hlen r entered
    refine ⟨noLim.keeps entered.toInCall.keep, codeAny_func (wpAny_mono (ht.run [] s1 (start N vs) H _ J hq) (fun fl s' over => ?_) fun _ _ z => z)⟩
    cases fl with
    | ret u => exact let ⟨v, _, H', J', rv, qv⟩ := over; ⟨v, H', J'.os, J'.bare, J'.base, J'.hok, rv, qv⟩
    | next => exact let ⟨_, H', J', qv⟩ := over; ⟨V.non, H', J'.os, J'.bare, J'.base, J'.hok, rfl, qv⟩
    | brk => exact let ⟨_, _, _, z⟩ := over; False.elim z
    | cont => exact let ⟨_, _, _, z⟩ := over; False.elim z
end
structure CalG (P : Program) (w : World) (K : PySem.W.Frag) (mg : Str → Option Value) (base : Heap) (CX : CXT) (k : Nat) (x : Str) (ps : List Str) (dvs : List V) (sp : Sp) : Prop where
  ex : ∃ (f : Addr) (fd : FuncData) (ds : List Value), FnG P w K mg base CX k f fd ps sp ∧ mg x = some (.ref f) ∧ PySem.W.keepIn K (.ref f) = true ∧ Binds K fd ps ds ∧ Vals dvs ds
section
variable {X : Cx} {CX : CXT} {k : Nat} {ps : List Str} {sp : Sp} {dvs : List V} {E : XK} {x : Str} {p pos : Pos} {e : Expr} {es : List Expr} {t : TA}
theorem pe_calG (C : CalG X.prog X.w X.K X.mg X.base CX k x ps dvs sp) (gd : X.A.guards = some []) (hr : Room k X.A) (hx : Passes CX X E) (ha : PA X (e :: es) t) (hg : Gl X x := by rfl) (hdb : (x == ("__debug__" : Str)) = false := by decide)
    (he : starEach (e :: es) X.env = (false, eval e X.env) :: starEach es X.env := by rfl) (hpl : (backTo pos (starEach es X.env)).any (·.1) = false := by rfl) :
    PE X (.Call (.Name x p) (e :: es) [] pos) (tCall sp dvs E t) := by
  obtain ⟨f, fd, ds, G, g, kp, hb, hd⟩ := C.ex
  refine ⟨fun pins s σ H Q I h => wpAny_Call_Name_kw (ld_glob I hg g ?_ hdb)⟩
  refine PySem.W.callWith_K (h₀ := X.base) I.ok.mod.kin kp (thn (ha.run pos pins s σ H _ I h) fun us s1 ⟨vs, H1, I1, r, q⟩ => ⟨I1.kIn, ?_⟩) he hpl
  have rr : Vals (vs ++ dvs) (us ++ ds) := r.append hd
  have ln : (us ++ ds).length = ps.length := rr.length.symm.trans (G.len _ _ _ _ q)
  refine wpAny_call (codeAny_mono (G.run X.A X.stack s1 H1 ⟨us, []⟩ _ _ Q E gd hr I1.env0 (hb s1 us I1.kIn ln) rr q) fun res s' z => ?_)
  cases res with
  | error er => exact hx pins σ H1 s1 er s' I1 z
  | ok fl =>
    cases fl with
    | ret u => exact I1.after z
    | next => exact z.elim
    | brk => exact z.elim
    | cont => exact z.elim
end
/-! ### the law's end, its def's promise kept where no repr runs around -/
section
open PySem.W
/-- the heap in which the script alone is tracked (as the object that it is), or nothing -/
def scriptH (K : Frag) (a : Addr) (vs : List Value) (ns : List Int) : Hp := fun b => if b = a ∧ K.lookup a = none then some (.frz { cls := .type "list", data := .seq vs.toArray } (.lst (ns.map V.int))) else none
theorem scriptH_some {K : Frag} {a b : Addr} {vs : List Value} {ns : List Int} {u : HO} (h : scriptH K a vs ns b = some u) : b = a ∧ K.lookup a = none ∧ u = .frz { cls := .type "list", data := .seq vs.toArray } (.lst (ns.map V.int)) := by
  unfold scriptH at h
  split at h
  · rename_i c
    exact ⟨c.1, c.2, (Option.some.inj h).symm⟩
  · cases h
theorem law_callG {P : Program} {w : World} {K : Frag} {mg mb : Str → Option Value} {CX : CXT} {k : Nat} {fa a : Addr} {fd : FuncData} {x : Str} {sp : Sp} {s₁ : Shared} {vs : List Value} {ns : List Int}
    (KX : K.In s₁.heap) (hns : s₁.heap.Ns mainGlobals mg) (hb : s₁.heap.Ns builtinsNs mb) (hbb : ∀ x : Str, x ≠ "__name__" → mb x = bootBuiltins x) (hlim : s₁.heap.NoLimit) (hg : s₁.gens = #[])
    (ha : s₁.heap.get? a = some { cls := .type "list", data := .seq vs.toArray }) (hi : IntsAre vs ns) (hl : ns.length ≤ sizeLine) (hr : Room k callerA)
    (F : ∀ base : Heap, K.In base → base.Ns mainGlobals mg → FnG P w K mg base CX k fa fd [x] sp) (hbind : ∀ (s : Shared) (u : Value), BindsTo s fd ⟨[u], []⟩ [(x, u)])
    (hsp : ∀ H : Hp, Only H → SqL K H a (ns.map V.int) → sp [.ref a] H (fun v _ => v = .bl true) fun _ _ _ => False) (hCX : ∀ H e s', CX [] H s₁ (fun _ _ _ => False) e s' → False) :
    codeAny (model P w) callerA (.call (.ref fa) ⟨[.ref a], []⟩) (fun r s' => r = .ok (.ret (.bool true)) ∧ OldK s₁.heap s'.heap ∧ s'.os = s₁.os ∧ AllBare s'.gens) s₁ := by
  generalize hH : scriptH K a vs ns = H
  have only : Only H := fun b => by
    cases q : H b with
    | none => exact .inl rfl
    | some u =>
      rw [← hH] at q
      obtain ⟨-, -, rfl⟩ := scriptH_some q
      exact .inr ⟨_, _, rfl⟩
  have ok : HOk P w H s₁.heap := fun b u q => by
    rw [← hH] at q
    obtain ⟨rfl, -, rfl⟩ := scriptH_some q
    exact ⟨ha, by rw [List.length_map]; exact hl, vs, _, vals_ints hi, ha⟩
  have isA : ∀ b u, H b = some u → b = a ∧ K.lookup a = none := fun b u q => by
    rw [← hH] at q
    exact ⟨(scriptH_some q).1, (scriptH_some q).2.1⟩
  have seen : SqL K H a (ns.map V.int) := by
    cases hk : K.lookup a with
    | some o =>
      have z := KX a o hk
      rw [ha] at z
      cases z
      exact .inr ⟨_, vs.toArray, _, hk, rfl, rfl, rfl, by rw [List.size_toArray, hi.length]; exact hl, by simpa using vals_ints hi⟩
    | none => exact .inl (.inr ⟨{ cls := .type "list", data := .seq vs.toArray }, by rw [← hH]; unfold scriptH; rw [if_pos ⟨rfl, hk⟩]⟩)
  have dictFree : ∀ {b : Addr} {o : Obj} {es : Array DictEntry} {ep : Nat}, s₁.heap.get? b = some o → o.data = .dict es ep → H b = none := fun {b o es ep} e d => by
    cases q : H b with
    | none => rfl
    | some u =>
      obtain ⟨rfl, -⟩ := isA b u q
      rw [ha] at e
      cases e
      cases d
  have nsOn : ∀ {b : Addr} {m : Str → Option Value}, s₁.heap.Ns b m → (hidT s₁.heap H).Ns b m := fun {b m} ⟨o, es, ep, e, d, r⟩ => ⟨o, es, ep, hidT_get e (dictFree e d), d, r⟩
  have kinB : K.In (hidT s₁.heap H) := fun b o e => hidT_get (KX b o e) (by
    cases q : H b with
    | none => rfl
    | some u =>
      obtain ⟨rfl, z⟩ := isA b u q
      rw [z] at e
      cases e)
  have e0 : Env0 P w K mg (hidT s₁.heap H) callerA [] s₁ H :=
    ⟨rfl, ⟨kinB, nsOn hns, ⟨mb, nsOn hb, hbb⟩, let ⟨mc, h1, h2⟩ := hlim; ⟨mc, nsOn h1, h2⟩⟩, fun b o e => of_hidT e, Nat.le_of_eq (hidT_size _ _), trivial, fun b hb => absurd (show b ∈ ([] : List Addr) from hb) (by simp), ok, .of_eq hg⟩
  refine codeAny_mono ((F _ kinB (nsOn hns)).run callerA [] s₁ H ⟨[.ref a], []⟩ [.ref a] [.ref a] _ _ rfl hr e0 (hbind s₁ (.ref a)) (.cons rfl .nil) (hsp H only seen)) fun res s' z => ?_
  cases res with
  | error e => exact (hCX H e s' z).elim
  | ok fl =>
    cases fl with
    | ret u =>
      obtain ⟨v, H', os, bare, un, hok', rv, qv⟩ := z
      have ev : v = .bl true := qv
      subst ev
      obtain rfl : u = Value.bool true := rv
      refine ⟨rfl, OldK.of_keep fun b o e => ?_, os, bare⟩
      cases q : H b with
      | none => exact un.keep b o e q (fun z => absurd (show b ∈ ([] : List Addr) from z) (by simp)) (by simp)
      | some u =>
        rcases only b with z | ⟨ob, xs, z⟩
        · rw [z] at q
          cases q
        · have now := (hok' b _ (un.frzs b ob _ z)).1
          have old := (ok b _ z).1
          rw [e] at old
          cases old
          exact now
    | next => exact z.elim
    | brk => exact z.elim
    | cont => exact z.elim
theorem walk_ofG {l : PySem.W.OpenLaw} {n k : Nat} {q : Program} {loose : List Str} {XP : (Str → Option Value) → Heap → Prop} {YP : World → Heap → Prop} {d : DefRec} {CX : CXT} {x : Str}
    (hn : l.most = some n) (hn2 : n ≤ sizeLine) (hdf : d.params.defaults = []) (hr : Room k callerA)
    (F : ∀ (w : World) (mg : Str → Option Value) (fa : Addr) (h : Heap), YP w h → h.Ns mainGlobals mg → mg d.name = some (.ref fa) →
      ∃ (K : PySem.W.Frag) (fd : FuncData) (sp : Sp), K.In h ∧ (∀ (s : Shared) (u : Value), BindsTo s fd ⟨[u], []⟩ [(x, u)]) ∧
        (∀ (H : Hp) (a : Addr) (ns : List Int), ns.length ≤ n → Only H → SqL K H a (ns.map V.int) → sp [.ref a] H (fun v _ => v = .bl true) fun _ _ _ => False) ∧
        ∀ base : Heap, K.In base → base.Ns mainGlobals mg → FnG l.prog w K mg base CX k fa fd [x] sp)
    (hCX : ∀ (H : Hp) (s : Shared) (e : Value) (s' : Shared), CX [] H s (fun _ _ _ => False) e s' → False) : PySem.W.WalkO q loose XP YP l.row.toRowW d [] (fun f vs => PySem.call f vs) := by
  refine Att.attach_call hn hdf fun w s₀ s₁ mg mb fa o pm cd doc a vs ns G Y _ _ _ hmg hobj hints hlen hg => ?_
  obtain ⟨K, fd, sp, KX, hbd, hsp, hF⟩ := F w mg fa _ Y G.T.g hmg
  exact law_callG KX G.T.g G.T.b G.T.builtins G.T.nolimit hg hobj hints (Nat.le_trans hlen hn2) hr hF hbd (fun H hO hS => hsp H a ns hlen hO hS) fun H e s' => hCX H s₁ e s'
end
/-! ### facts of the top, told by one Bool -/
section
open PySem.W
def obsF (fb : Frag → Bool) (fn : List He.DefD) (K : Frag) : He.AlD := (fb K && fn.all fun d => d.ok K, fn.map fun d => He.fnW K d.at_)
def SaysF (fb : Frag → Bool) (fn : List He.DefD) (K : Frag) : Prop := obsF fb fn K = He.valD fn
def obsFG (n : Nat) (fb : Frag → Bool) (fn : List He.DefD) (g : Addr → Option Obj) : He.AlD := obsF fb fn (He.frG g (He5.asA g n))
def hookF (n : Nat) (fb : Frag → Bool) (fn : List He.DefD) : Hook where
  α := He.AlD
  obs := fun s => obsFG n fb fn s.heap.get?
  val := fun _ => He.valD fn
  says := fun _ h => ∃ K : Frag, K.In h ∧ SaysF fb fn K
  of := fun _ _ e => ⟨_, He.frG_in, e⟩
  keeps := fun _ _ _ ⟨K, inK, c⟩ k => ⟨K, Frag.In.keeps inK k, c⟩
theorem obsFG_eq {n : Nat} {fb : Frag → Bool} {fn : List He.DefD} {g : Addr → Option Obj} {s : Shared} (h : ∀ a, g a = s.heap.get? a) : obsFG n fb fn g = (hookF n fb fn).obs s := by
  obtain rfl : g = s.heap.get? := funext h
  rfl
theorem SaysF.all {fb : Frag → Bool} {fn : List He.DefD} {K : Frag} (c : SaysF fb fn K) : fb K = true ∧ ∀ d ∈ fn, d.ok K = true := by
  have z : (fb K && fn.all fun d => d.ok K) = true := congrArg (fun z : He.AlD => z.1) c
  exact ⟨(Bool.and_eq_true_iff.mp z).1, List.all_eq_true.mp (Bool.and_eq_true_iff.mp z).2⟩
theorem SaysF.def_ {fb : Frag → Bool} {fn : List He.DefD} {K : Frag} (c : SaysF fb fn K) {d : He.DefD} (h : d ∈ fn) : ∃ fd, FunD K d.name d.qual d.params d.body d.scope (d.dvs K) (d.kws K) (He.fAd K d.at_) fd := by
  have e : fn.map (fun d => He.fnW K d.at_) = fn.map He.DefD.val := congrArg (fun z : He.AlD => z.2) c
  exact He.DefD.funD (List.map_inj_left.mp e d h) (c.all.2 d h)
end
/-! ### an own exception class with an __init__ of its own, as one Bool -/
section
open PySem.W
def oexB (K : Frag) (C : Addr) : Bool := (match K.lookup C with
  | some ⟨.type "type", _, .cls cd, sl⟩ => (match cd.mro, sl.toList with
    | .ref C' :: bm, [_, _, _, _, some (.builtin n), _] => C' == C && (n == "ValueError.__new__" && (!cd.hasDel && (cd.hasDict && HandSPX.refsVE bm)))
    | _, _ => false)
  | _ => false) && (decide (findIn K (.ref C) "__setattr__" = some (some (.builtin "object.__setattr__"))) && (decide (subIn K (.ref C) (.type "BaseException") = some true) && (decide (typeIn K (.ref C) = some (.type "type")) && keepIn K (.ref C))))
theorem oexB_ok {K : Frag} {C : Addr} (h : oexB K C = true) : OexC K C := by
  obtain ⟨h1, h⟩ := He.ba h
  obtain ⟨h2, h⟩ := He.ba h
  obtain ⟨h3, h⟩ := He.ba h
  obtain ⟨h4, h5⟩ := He.ba h
  refine ⟨?_, of_decide_eq_true h2, of_decide_eq_true h3, of_decide_eq_true h4, h5⟩
  split at h1
  · rename_i dd cd sl found
    split at h1
    · rename_i C' bm k0 k1 k2 k3 n k5 isMro isSl
      obtain ⟨e1, h1⟩ := He.ba h1
      obtain ⟨e2, h1⟩ := He.ba h1
      obtain ⟨e3, h1⟩ := He.ba h1
      obtain ⟨e4, e5⟩ := He.ba h1
      obtain rfl := beq_iff_eq.mp e1
      obtain rfl := beq_iff_eq.mp e2
      obtain ⟨nm, bs, mro, ns, qn, hd, sn, sub, ab, col, del⟩ := cd
      obtain ⟨l⟩ := sl
      dsimp only at isMro isSl e3 e4
      subst isMro isSl e4
      obtain rfl : del = false := by simpa using e3
      exact ⟨nm, qn, ns, bs, bm, sn, sub, ab, col, dd, k0, k1, k2, k3, k5, found, e5⟩
    · cases h1
  · cases h1
def excB (K : Frag) (D : Addr) : Bool := decide (findIn K (.ref D) "__getattribute__" = some (some (.builtin "BaseException.__getattribute__"))) && (decide (findIn K (.ref D) "__getattr__" = some none) && (decide (subIn K (.ref D) (.type "BaseException") = some true) && (hasDictIn K D &&
  (decide (findIn K (.ref D) "__class__" = some (some (.builtin "object.__class__"))) && (decide (specialIn K (.builtin "object.__class__") "__get__" = some (some (.builtin "getset_descriptor.__get__"))) && (decide (takesIn K (.builtin "object.__class__") = some true) && decide (mroIn K D (.type "object") = some true)))))))
theorem excB_ok {K : Frag} {D : Addr} (h : excB K D = true) : ExcC K D := by
  obtain ⟨h1, h⟩ := He.ba h
  obtain ⟨h2, h⟩ := He.ba h
  obtain ⟨h3, h⟩ := He.ba h
  obtain ⟨h4, h⟩ := He.ba h
  obtain ⟨h5, h⟩ := He.ba h
  obtain ⟨h6, h⟩ := He.ba h
  obtain ⟨h7, h8⟩ := He.ba h
  exact ⟨of_decide_eq_true h1, of_decide_eq_true h2, of_decide_eq_true h3, h4, of_decide_eq_true h5, of_decide_eq_true h6, of_decide_eq_true h7, of_decide_eq_true h8⟩
theorem xfC_of {K : Frag} {D : Addr} (h : ExcC K D) : XfC K D := ⟨h.hg, h.hk, h.hs, h.hd⟩
end
/-! ### constants of the top; heaps that part at one address alone; the laws' bag of draws -/
section
variable {X : Cx} {x : Str} {pos : Pos}
theorem pe_gint {i : Int} (h : ∃ t, X.mg x = some (.int i t)) (hg : Gl X x := by rfl) (hd : (x == ("__debug__" : Str)) = false := by decide) : PE X (.Name x pos) (tC (.int i)) := by
  obtain ⟨t, e⟩ := h
  exact pe_glob hg e ⟨t, rfl⟩ hd
theorem pe_gstr {z : Str} (h : ∃ t, X.mg x = some (.str z t)) (hg : Gl X x := by rfl) (hd : (x == ("__debug__" : Str)) = false := by decide) : PE X (.Name x pos) (tC (.str z)) := by
  obtain ⟨t, e⟩ := h
  exact pe_glob hg e ⟨t, rfl⟩ hd
end
/-- H' is H but at b -/
def Off (b : Addr) (H H' : Hp) : Prop := ∀ a, a ≠ b → H' a = H a
theorem Off.refl (b : Addr) (H : Hp) : Off b H H := fun _ _ => rfl
theorem Off.trans {b : Addr} {H H1 H2 : Hp} (h : Off b H H1) (h' : Off b H1 H2) : Off b H H2 := fun a n => (h' a n).trans (h a n)
theorem Off.upd {b : Addr} {H : Hp} {o : HO} : Off b H (upd H b o) := fun _ n => upd_ne n
theorem Off.at {b a : Addr} {H H' : Hp} {o : HO} (h : Off b H H') (n : a ≠ b) (e : H a = some o) : H' a = some o := (h a n).trans e
theorem same_new {H : Hp} {p : Addr} {o : HO} (h : H p = none) : Same H (upd H p o) := fun b x e => by
  rw [upd_ne (ne_of_none e h)]
  exact e
/-- all that was tracked, but for the object at b, is as it was -/
def Kb (b : Addr) (H H' : Hp) : Prop := ∀ a o, a ≠ b → H a = some o → H' a = some o
theorem Kb.refl (b : Addr) (H : Hp) : Kb b H H := fun _ _ _ e => e
theorem Kb.trans {b : Addr} {H H1 H2 : Hp} (h : Kb b H H1) (h' : Kb b H1 H2) : Kb b H H2 := fun a o n e => h' a o n (h a o n e)
theorem Off.kb {b : Addr} {H H' : Hp} (h : Off b H H') : Kb b H H' := fun _ _ n e => h.at n e
theorem Kb.of_same {b : Addr} {H H' : Hp} (h : Same H H') : Kb b H H' := fun a o _ e => h a o e
theorem kb_new {b : Addr} {H : Hp} {p : Addr} {o : HO} (h : H p = none) : Kb b H (L2.upd H p o) := .of_same (same_new h)
abbrev bagO (c : Addr) (p r k m : Int) : HO := .lst [.ref c, .int p, .int r, .int k, .int m]
/-- a bag at b, its cells at c, of which at most n draws were made -/
def BagAt (H : Hp) (b c : Addr) (n : Int) : Prop := ∃ (ns : List Int) (p : Nat) (r k m : Int), H b = some (bagO c p r k m) ∧ H c = some (.lst (ns.map V.int)) ∧ 0 ≤ k ∧ k ≤ n ∧ 0 ≤ m ∧ m < 2147483647
theorem BagAt.mono {H : Hp} {b c : Addr} {n n' : Int} (h : BagAt H b c n) (l : n ≤ n') : BagAt H b c n' := by
  obtain ⟨ns, p, r, k, m, h1, h2, h3, h4, h5, h6⟩ := h
  exact ⟨ns, p, r, k, m, h1, h2, h3, Int.le_trans h4 l, h5, h6⟩
theorem BagAt.there {H : Hp} {b c : Addr} {n : Int} (h : BagAt H b c n) : (∃ o, H b = some o) ∧ ∃ o, H c = some o := by
  obtain ⟨ns, p, r, k, m, h1, h2, _⟩ := h
  exact ⟨⟨_, h1⟩, _, h2⟩
theorem BagAt.new {H : Hp} {a b c : Addr} {n : Int} (h : BagAt H b c n) (na : H a = none) : a ≠ b ∧ a ≠ c := by
  obtain ⟨⟨_, h1⟩, _, h2⟩ := h.there
  exact ⟨(ne_of_none h1 na).symm, (ne_of_none h2 na).symm⟩
theorem BagAt.two {H : Hp} {b c : Addr} {n : Int} (h : BagAt H b c n) : c ≠ b := fun z => by
  obtain ⟨ns, p, r, k, m, h1, h2, _⟩ := h
  rw [z, h1] at h2
  cases ns with
  | nil => cases h2
  | cons n ns => cases h2
/-- the bag stays where what was tracked stays -/
theorem BagAt.same {H H' : Hp} {b c : Addr} {n : Int} (h : BagAt H b c n) (e : Same H H') : BagAt H' b c n := by
  obtain ⟨ns, p, r, k, m, h1, h2, h3⟩ := h
  exact ⟨ns, p, r, k, m, e _ _ h1, e _ _ h2, h3⟩
theorem BagAt.upd {H : Hp} {a b c : Addr} {n : Int} {o : HO} (h : BagAt H b c n) (nb : a ≠ b) (nc : a ≠ c) : BagAt (L2.upd H a o) b c n := by
  obtain ⟨ns, p, r, k, m, h1, h2, h3⟩ := h
  exact ⟨ns, p, r, k, m, by rw [upd_ne nb.symm]; exact h1, by rw [upd_ne nc.symm]; exact h2, h3⟩
theorem BagAt.updNew {H : Hp} {a b c : Addr} {n : Int} {o : HO} (h : BagAt H b c n) (na : H a = none) : BagAt (L2.upd H a o) b c n := h.upd (h.new na).1 (h.new na).2
/-- _law_bag(script) -/
def spBag (K : PySem.W.Frag) : Sp := fun vs H Q _ => ∃ (a : Addr) (ns : List Int), vs = [.ref a] ∧ SqL K H a (ns.map V.int) ∧ ∀ b c H', H b = none → H c = none → Same H H' → BagAt H' b c 0 → Q (.ref b) H'
/-- _law_draw(bag, limit): a number from 0 to limit - 1, the bag turned -/
def spDraw : Sp := fun vs H Q _ => ∃ (b c : Addr) (lim n : Int), vs = [.ref b, .int lim] ∧ BagAt H b c n ∧ 0 < lim ∧ lim < 2 ^ 200 ∧ n < 2 ^ 60 ∧ ∀ (r : Int) (H' : Hp), 0 ≤ r → r < lim → Off b H H' → BagAt H' b c (n + 1) → Q (.int r) H'
theorem cut63 {ns : List Int} : cutV (ns.map V.int) none (some 63) = (ns.take 63).map V.int := by
  unfold cutV
  rw [show HT.sIx (ns.map V.int).length (ns.map V.int).length (some 63) = min 63 (ns.map V.int).length from HT.sIx_nat _ _ 63, HT.sIx_none, List.drop_zero, Nat.sub_zero, ← List.map_take]
  congr 1
  rw [List.length_map, Nat.min_comm]
  by_cases h : ns.length ≤ 63
  · rw [Nat.min_eq_left h, List.take_of_length_le (Nat.le_refl _), List.take_of_length_le h]
  · rw [Nat.min_eq_right (by omega)]
/-! ### own exceptions whose __init__ stores its arguments, one a field -/
/-- __init__(self, ..) of the class at C keeps this: the fields are fs of the arguments -/
def spXI (C : Addr) (n : Nat) (fs : List V → List (Str × V)) : Sp := fun vs H Q _ => ∃ (a : Addr) (ws : List V), vs = .ref a :: ws ∧ ws.length = n ∧ H a = some (exo a C none) ∧
  ∀ dx, H dx = none → dx ≠ a → Q .non (L2.upd (L2.upd H dx (exd dx (fs ws))) a (exo a C (some dx)))
/-- C(e, ..): for every new d the error, its dict at d -/
def tMkF (C : Addr) (n : Nat) (fs : List V → List (Str × V)) (ta : TA) : L2.St → Hp → XK → Prop := fun σ H Q => ta σ H fun vs H1 => vs.length = n ∧ ∀ d, H1 d = none → Q (.ref C) (some d) (L2.upd H1 d (.xd (fs vs)))
theorem pmk_fld {X : Cx} {CX : CXT} {x : Str} {C fI : Addr} {k n : Nat} {fd : FuncData} {ps : List Str} {fs : List V → List (Str × V)} {e : Expr} {es : List Expr} {ta : TA} {p pos : Pos} (T : OexC X.K C) (iC : PySem.W.findIn X.K (.ref C) "__init__" = some (some (.ref fI))) (tI : PySem.W.typeIn X.K (.ref fI) = some (.type "function"))
    (F1 : FnOk X.prog X.w X.K X.mg X.base CX k fI fd ps (spXI C n fs)) (hr : Room (k + 1) X.A) (hb : Binds X.K fd ps []) (hx : Passes CX X (fun _ _ _ => False)) (hm : X.mg x = some (.ref C)) (hn : n ≤ 1000) (ha : PA X (e :: es) ta)
    (mono : ∀ σ H (R R' : List V → Hp → Prop), (∀ vs H1, R vs H1 → R' vs H1) → ta σ H R → ta σ H R') (hg : Gl X x := by rfl)
    (hdb : (x == ("__debug__" : Str)) = false := by decide) (he : starEach (e :: es) X.env = (false, eval e X.env) :: starEach es X.env := by rfl) (hpl : (backTo pos (starEach es X.env)).any (·.1) = false := by rfl) :
    PMk X (.Call (.Name x p) (e :: es) [] pos) (tMkF C n fs ta) := by
  have base := pmk_oex (p := p) (pos := pos) (dvs := []) (ds := []) T iC tI F1 hr hb .nil hx hg hm ha hdb he hpl
  intro pins s σ H Q I h
  refine base pins s σ H Q I (mono σ H _ _ (fun vs H1 q => ?_) h)
  obtain ⟨hl, q⟩ := q
  refine ⟨by omega, fun a na => ⟨a, vs, by rw [List.append_nil], hl, upd_same, fun dx nd ne => ⟨rfl, dx, fs vs, upd_same, by rw [upd_ne ne, upd_same], ?_, ?_⟩⟩⟩
  · rw [upd_ne ne] at nd
    exact nd
  · have nd1 : H1 dx = none := by
      rw [upd_ne ne] at nd
      exact nd
    have e : L2.upd (L2.del (L2.upd (L2.upd (L2.upd H1 a (exo a C none)) dx (exd dx (fs vs))) a (exo a C (some dx))) a) dx (.xd (fs vs)) = L2.upd H1 dx (.xd (fs vs)) := by
      funext b
      by_cases h1 : b = dx
      · rw [h1, upd_same, upd_same]
      · rw [upd_ne h1, upd_ne h1]
        by_cases h2 : b = a
        · rw [h2, del_same, na]
        · rw [del_ne h2, upd_ne h2, upd_ne h1, upd_ne h2]
    rw [e]
    exact q dx nd1
theorem xi_two {H : Hp} {a dx C : Addr} {f1 f2 : Str} {y1 y2 : V} (ne : dx ≠ a) : L2.upd (L2.upd (L2.upd H dx (exd dx [(f1, y1)])) a (exo a C (some dx))) dx (exd dx [(f2, y2), (f1, y1)]) = L2.upd (L2.upd H dx (exd dx [(f2, y2), (f1, y1)])) a (exo a C (some dx)) := by
  funext b
  by_cases h1 : b = dx
  · rw [h1, upd_same, upd_ne ne, upd_same]
  · by_cases h2 : b = a
    · rw [h2, upd_ne ne.symm, upd_same, upd_same]
    · rw [upd_ne h1, upd_ne h2, upd_ne h1, upd_ne h2, upd_ne h1]
/-! ### what a value is, by its built-in class -/
inductive Kn (H : Hp) : V → String → Prop
  | non : Kn H .non "NoneType"
  | bl (b : Bool) : Kn H (.bl b) "bool"
  | int (i : Int) : Kn H (.int i) "int"
  | str (x : Str) : Kn H (.str x) "str"
  | lst {a : Addr} {xs : List V} (e : H a = some (.lst xs)) : Kn H (.ref a) "list"
  | tup {a : Addr} {xs : List V} (e : H a = some (.tup xs)) : Kn H (.ref a) "tuple"
  | dct {a : Addr} {kvs : List (Key × V)} (e : H a = some (.dK kvs)) : Kn H (.ref a) "dict"
theorem Kn.ty {K : PySem.W.Frag} {H : Hp} {v : V} {T : String} (h : Kn H v T) : TyX K H v (.type T) := by
  cases h with
  | non => exact .base .non
  | bl b => exact .base (.bl b)
  | int i => exact .base (.int i)
  | str x => exact .base (.str x)
  | lst e => exact .base (.lst e)
  | tup e => exact .base (.tup e)
  | dct e => exact .base (.dK e)
def wholeV (v : V) (lo hi : Int) : Bool := match v with
  | .int i => decide (lo ≤ i) && decide (i ≤ hi)
  | _ => false
/-- an int, a truth, or neither -/
theorem Kn.whole {K : PySem.W.Frag} {H : Hp} {v : V} {T : String} (h : Kn H v T) : (∃ i, v = .int i ∧ PySem.W.kitOne K (.type T) (.type "int") = some true ∧ PySem.W.kitOne K (.type T) (.type "bool") = some false) ∨
    (((PySem.W.kitOne K (.type T) (.type "int") = some true ∧ PySem.W.kitOne K (.type T) (.type "bool") = some true) ∨ PySem.W.kitOne K (.type T) (.type "int") = some false) ∧ (∀ i, v ≠ .int i) ∧ ∀ lo hi, wholeV v lo hi = false) := by
  cases h with
  | int i => exact .inl ⟨i, rfl, kit_ty (by decide +kernel), kit_ty (by decide +kernel)⟩
  | bl b => exact .inr ⟨.inl ⟨kit_ty (by decide +kernel), kit_ty (by decide +kernel)⟩, (fun _ z => nomatch z), fun _ _ => rfl⟩
  | non => exact .inr ⟨.inr (kit_ty (by decide +kernel)), (fun _ z => nomatch z), fun _ _ => rfl⟩
  | str x => exact .inr ⟨.inr (kit_ty (by decide +kernel)), (fun _ z => nomatch z), fun _ _ => rfl⟩
  | lst e => exact .inr ⟨.inr (kit_ty (by decide +kernel)), (fun _ z => nomatch z), fun _ _ => rfl⟩
  | tup e => exact .inr ⟨.inr (kit_ty (by decide +kernel)), (fun _ z => nomatch z), fun _ _ => rfl⟩
  | dct e => exact .inr ⟨.inr (kit_ty (by decide +kernel)), (fun _ z => nomatch z), fun _ _ => rfl⟩
/-- isinstance(v, (list, tuple)) -/
def seqT (T : String) : Bool := decide (T = "list") || decide (T = "tuple")
theorem Kn.seq {K : PySem.W.Frag} {H : Hp} {v : V} {T : String} (h : Kn H v T) : PySem.W.kitAny K (.type T) [.type "list", .type "tuple"] = some (seqT T) := by
  have two : ∀ {a b : Bool}, PySem.W.kitOne K (.type T) (.type "list") = some a → PySem.W.kitOne K (.type T) (.type "tuple") = some b → PySem.W.kitAny K (.type T) [.type "list", .type "tuple"] = some (a || b) := fun {a b} e1 e2 =>
    kitAny_cons e1 (fun ea => by rw [ea]; exact kitAny_cons e2 (fun eb => by rw [eb]; exact kitAny_nil) (fun eb => by rw [eb]; rfl)) (fun ea => by rw [ea]; rfl)
  cases h with
  | int i => exact two (a := false) (b := false) (kit_ty (by decide +kernel)) (kit_ty (by decide +kernel))
  | bl b => exact two (a := false) (b := false) (kit_ty (by decide +kernel)) (kit_ty (by decide +kernel))
  | non => exact two (a := false) (b := false) (kit_ty (by decide +kernel)) (kit_ty (by decide +kernel))
  | str x => exact two (a := false) (b := false) (kit_ty (by decide +kernel)) (kit_ty (by decide +kernel))
  | lst e => exact two (a := true) (b := false) (kit_ty (by decide +kernel)) (kit_ty (by decide +kernel))
  | tup e => exact two (a := false) (b := true) (kit_ty (by decide +kernel)) (kit_ty (by decide +kernel))
  | dct e => exact two (a := false) (b := false) (kit_ty (by decide +kernel)) (kit_ty (by decide +kernel))
/-- the items of a list or a tuple; none of another thing -/
def seqOf (H : Hp) : V → Option (List V)
  | .ref a => match H a with
    | some (.lst xs) => some xs
    | some (.tup xs) => some xs
    | _ => none
  | _ => none
theorem Kn.seqSome {H : Hp} {v : V} {T : String} (h : Kn H v T) : (seqT T = true ∧ ∃ a xs, v = .ref a ∧ seqOf H v = some xs ∧ ((H a = some (.lst xs)) ∨ H a = some (.tup xs))) ∨ (seqT T = false ∧ seqOf H v = none) := by
  cases h with
  | @lst a xs e => exact .inl ⟨rfl, a, xs, rfl, by simp only [seqOf, e], .inl e⟩
  | @tup a xs e => exact .inl ⟨rfl, a, xs, rfl, by simp only [seqOf, e], .inr e⟩
  | dct e => exact .inr ⟨rfl, by simp only [seqOf, e]⟩
  | int i => exact .inr ⟨rfl, rfl⟩
  | bl b => exact .inr ⟨rfl, rfl⟩
  | non => exact .inr ⟨rfl, rfl⟩
  | str x => exact .inr ⟨rfl, rfl⟩
theorem seqOf_lst {H : Hp} {a : Addr} {xs : List V} (h : H a = some (.lst xs)) : seqOf H (.ref a) = some xs := by simp only [seqOf, h]
theorem seqOf_tup {H : Hp} {a : Addr} {xs : List V} (h : H a = some (.tup xs)) : seqOf H (.ref a) = some xs := by simp only [seqOf, h]
theorem Kn.keep {H H' : Hp} {v : V} {T : String} (h : Kn H v T) (k : ∀ a o, v = .ref a → H a = some o → H' a = some o) : Kn H' v T := by
  cases h with
  | non => exact .non
  | bl b => exact .bl b
  | int i => exact .int i
  | str x => exact .str x
  | lst e => exact .lst (k _ _ rfl e)
  | tup e => exact .tup (k _ _ rfl e)
  | dct e => exact .dct (k _ _ rfl e)
theorem Kn.same {H H' : Hp} {v : V} {T : String} (h : Kn H v T) (k : Same H H') : Kn H' v T := h.keep fun a o _ e => k a o e
theorem Kn.seqOf {H H' : Hp} {v : V} {T : String} (h : Kn H v T) (k : Same H H') : seqOf H' v = Q.seqOf H v := by
  cases h with
  | lst e => simp only [Q.seqOf, k _ _ e, e]
  | tup e => simp only [Q.seqOf, k _ _ e, e]
  | dct e => simp only [Q.seqOf, k _ _ e, e]
  | _ => rfl
theorem seqOf_same {H H' : Hp} {v : V} {xs : List V} (h : seqOf H v = some xs) (k : Same H H') : seqOf H' v = some xs := by
  cases v with
  | ref a =>
    simp only [seqOf] at h ⊢
    cases e : H a with
    | none => rw [e] at h; cases h
    | some o =>
      rw [k _ _ e]
      rw [e] at h
      exact h
  | _ => cases h
/-- is_whole(thing, low, high), all three given -/
def spWhole : Sp := fun vs H Q _ => ∃ (v : V) (lo hi : Int) (T : String), vs = [v, .int lo, .int hi] ∧ Kn H v T ∧ Q (.bl (wholeV v lo hi)) H
/-! ### a list or a tuple, whichever -/
def Sq (K : PySem.W.Frag) (H : Hp) (a : Addr) (xs : List V) : Prop := SqL K H a xs ∨ SqT K H a xs
theorem sq_of {K : PySem.W.Frag} {H : Hp} {a : Addr} {xs : List V} (h : H a = some (.lst xs) ∨ H a = some (.tup xs)) : Sq K H a xs := h.elim (fun e => .inl (SqL.of e)) fun e => .inr (SqT.of e)
theorem sqT_same {K : PySem.W.Frag} {H H' : Hp} {a : Addr} {xs : List V} (e : Same H H') (h : SqT K H a xs) : SqT K H' a xs := by
  rcases h with (h | ⟨o, h⟩) | h
  · exact .inl (.inl (e _ _ h))
  · exact .inl (.inr ⟨o, e _ _ h⟩)
  · exact .inr h
theorem Sq.same {K : PySem.W.Frag} {H H' : Hp} {a : Addr} {xs : List V} (h : Sq K H a xs) (e : Same H H') : Sq K H' a xs := h.elim (fun z => .inl (e.seq z)) fun z => .inr (sqT_same e z)
theorem rix_of {K : PySem.W.Frag} {H : Hp} {a : Addr} {xs : List V} {i : Int} {v : V} {R : VK} (h : Sq K H a xs) (e : atI xs i = some v) (q : R v H) : rIx K (.ref a) (.int i) H R :=
  h.elim (fun z => .inl ⟨a, xs, i, v, rfl, rfl, z, e, q⟩) fun z => .inr (.inl ⟨a, xs, i, v, rfl, rfl, z, e, q⟩)
@[irreducible] def rTupOf (K : PySem.W.Frag) : List V → Hp → VK → Prop := fun xs H R => ∃ p ys, xs = [V.ref p] ∧ ((SqL K H p ys ∧ ∀ l, H l = none → R (.ref l) (L2.upd H l (.tup ys))) ∨ (SqT K H p ys ∧ R (.ref p) H))
theorem call_tupOf {X : Cx} : CallR X (.type "tuple") (rTupOf X.K) := by
  unfold rTupOf
  exact call_tuple_of
theorem tupOf_of {K : PySem.W.Frag} {H : Hp} {a : Addr} {xs : List V} {R : VK} (h : Sq K H a xs) (q : ∀ (l : Addr) (H' : Hp), SqT K H' l xs → Same H H' → (∀ b, H b = none → b ≠ l → H' b = none) → R (.ref l) H') : rTupOf K [.ref a] H R := by
  unfold rTupOf
  exact ⟨a, xs, rfl, h.elim (fun z => .inl ⟨z, fun l hl => q l _ (SqT.of upd_same) (same_new hl) fun b e n => by rw [upd_ne n]; exact e⟩) fun z => .inr ⟨z, q a H z (Same.refl H) fun b e _ => e⟩⟩
/-! ### rows of whole numbers as data -/
theorem dpAll_ints {K : PySem.W.Frag} {H : Hp} : ∀ ns : List Int, DpAll K H (ns.map V.int) (ns.map PyData.int)
  | [] => .nil
  | n :: ns => .cons (.int n) (dpAll_ints ns)
theorem lay_ints : ∀ ns : List Int, PyData.canLayAll0 (ns.map PyData.int) = true
  | [] => rfl
  | n :: ns => by
    show (true && PyData.canLayAll0 (ns.map PyData.int)) = true
    rw [lay_ints ns]
    rfl
theorem depth_ints : ∀ ns : List Int, PyData.depthAll (ns.map PyData.int) = 0
  | [] => rfl
  | n :: ns => by
    show max 0 (PyData.depthAll (ns.map PyData.int)) = 0
    rw [depth_ints ns]
    rfl
theorem shaped_ints (ns : List Int) : SeqAt.shaped (.tuple (ns.map PyData.int)) = true := by
  show (PyData.canLayAll0 (ns.map PyData.int) && decide (PyData.depthAll (ns.map PyData.int) + 1 ≤ 64)) = true
  rw [lay_ints, depth_ints]
  rfl
theorem eqvAll_ints : ∀ ns ms : List Int, PyData.eqvAll (ns.map PyData.int) (ms.map PyData.int) = decide (ns = ms)
  | [], [] => rfl
  | [], _ :: _ => rfl
  | _ :: _, [] => rfl
  | n :: ns, m :: ms => by
    show ((n == m) && PyData.eqvAll (ns.map PyData.int) (ms.map PyData.int)) = _
    rw [eqvAll_ints ns ms]
    by_cases h : n = m
    · subst h
      rw [beq_self_eq_true, Bool.true_and]
      by_cases h2 : ns = ms
      · rw [decide_eq_true h2, h2]
        exact (decide_eq_true rfl).symm
      · rw [decide_eq_false h2]
        exact (decide_eq_false fun z => h2 (List.cons.inj z).2).symm
    · rw [beq_eq_false_iff_ne.mpr h, Bool.false_and]
      exact (decide_eq_false fun z => h (List.cons.inj z).1).symm
theorem eqv_ints (ns ms : List Int) : PyData.eqv (.tuple (ns.map PyData.int)) (.tuple (ms.map PyData.int)) = decide (ns = ms) := eqvAll_ints ns ms
theorem dp_ints {K : PySem.W.Frag} {H : Hp} {p : Addr} {ns : List Int} (h : SqT K H p (ns.map V.int)) : Dp K H (.ref p) (.tuple (ns.map PyData.int)) := .tup h (dpAll_ints ns)
theorem ix_nat {n j : Nat} (h : j < n) : ixN n (j : Int) = some j := by
  unfold ixN
  rw [if_pos (by omega), if_pos (by omega), Int.toNat_natCast]
/-- tuple(a list that stands) is new -/
theorem tupL_of {K : PySem.W.Frag} {H : Hp} {a : Addr} {xs : List V} {R : VK} (h : SqL K H a xs) (q : ∀ l : Addr, H l = none → R (.ref l) (L2.upd H l (.tup xs))) : rTupOf K [.ref a] H R := by
  unfold rTupOf
  exact ⟨a, xs, rfl, .inl ⟨h, q⟩⟩
/-! ### data stand where what was tracked stands -/
mutual
theorem dp_same {K : PySem.W.Frag} {H H' : Hp} (e : Same H H') : ∀ (d : PyData) (v : V), Dp K H v d → Dp K H' v d
  | .none, _, h => by
    cases h
    exact .non
  | .bool b, _, h => by
    cases h
    exact .bl b
  | .int i, _, h => by
    cases h
    exact .int i
  | .str x, _, h => by
    cases h
    exact .str x
  | .list ds, _, h => by
    cases h with
    | lst s a => exact .lst (e.seq s) (dpAll_same e ds _ a)
  | .tuple ds, _, h => by
    cases h with
    | tup s a => exact .tup (sqT_same e s) (dpAll_same e ds _ a)
  | .dict _, _, h => by cases h
theorem dpAll_same {K : PySem.W.Frag} {H H' : Hp} (e : Same H H') : ∀ (ds : List PyData) (vs : List V), DpAll K H vs ds → DpAll K H' vs ds
  | [], _, h => by
    cases h
    exact .nil
  | d :: ds, _, h => by
    cases h with
    | cons a b => exact .cons (dp_same e d _ a) (dpAll_same e ds _ b)
end
end Q

set_option maxRecDepth 100000
set_option maxHeartbeats 4000000
/-! Loops and zips over a list or a tuple, whichever it is. -/
namespace Q
open PySem PySem.Spec PyProof.Rows L2
/-- a list (true), a tuple (false) -/
def SqB (k : Bool) (K : PySem.W.Frag) (H : Hp) (a : Addr) (xs : List V) : Prop := match k with
  | true => SqL K H a xs
  | false => SqT K H a xs
theorem Sq.b {K : PySem.W.Frag} {H : Hp} {a : Addr} {xs : List V} (h : Sq K H a xs) : ∃ k, SqB k K H a xs := h.elim (fun z => ⟨true, z⟩) fun z => ⟨false, z⟩
theorem SqB.sq {k : Bool} {K : PySem.W.Frag} {H : Hp} {a : Addr} {xs : List V} (h : SqB k K H a xs) : Sq K H a xs := match k, h with
  | true, h => .inl h
  | false, h => .inr h
theorem SqB.same {k : Bool} {K : PySem.W.Frag} {H H' : Hp} {a : Addr} {xs : List V} (h : SqB k K H a xs) (e : Same H H') : SqB k K H' a xs := match k, h with
  | true, h => e.seq h
  | false, h => sqT_same e h
def ItS (k : Bool) (K : PySem.W.Frag) (a : Addr) : It := match k with
  | true => Itl K a
  | false => Itt K a
def iSeq (K : PySem.W.Frag) (tl : TE) : TI := fun σ H R => tl σ H fun x H1 => ∃ a xs k, x = .ref a ∧ SqB k K H1 a xs ∧ R (ItS k K a) H1
section
variable {X : Cx} {tg : Expr}
theorem pi_seq {l : Expr} {tl : TE} (hl : PE X l tl) : PI X tg l (iSeq X.K tl) := by
  refine ⟨fun pins s σ H R I h => ?_⟩
  refine thn (hl.run pins s σ H _ I h) fun v s1 ⟨x, H1, I1, r1, q1⟩ => ?_
  obtain ⟨a, xs, k, e, hq, q⟩ := q1
  subst e
  cases r1
  have new : ∀ b ∈ [s1.heap.objs.size], FpOk X pins H1 b := fun b hb => by
    have e : b = s1.heap.objs.size := by simpa using hb
    subst e
    exact I1.fpOk (Nat.le_refl _) (I1.hok.fresh (Nat.le_refl _))
  cases k with
  | true =>
    obtain ⟨its, rv, p, hz⟩ := I1.list hq
    refine wpAny_pyIter_list p.isList ?_
    exact ⟨s1.heap.objs.size, [s1.heap.objs.size], _, _, H1, rfl, I1.kept (t' := s1.toks) fun b o e => Heap.get?_push_of_some _ e, turn_list a _, ⟨_, Heap.get?_push_size _ rfl, rfl, rfl⟩, new, q⟩
  | false =>
    obtain ⟨its, rv, p, hz⟩ := I1.tuple hq
    refine wpAny_pyIter_tuple (show s1.heap.IsTuple a its.toArray from p) ?_
    exact ⟨s1.heap.objs.size, [s1.heap.objs.size], _, _, H1, rfl, I1.kept (t' := s1.toks) fun b o e => Heap.get?_push_of_some _ e, turn_tuple a _, ⟨_, Heap.get?_push_size _ rfl, rfl, rfl⟩, new, q⟩
end
theorem for_seq {K : PySem.W.Frag} {k : Bool} {a : Addr} {xs : List V} {g : TG} {tb : TS} {D : Ends} {σ : L2.St} {H : Hp} (Pv : Nat → L2.St → Hp → Prop) (h0 : Pv 0 σ H) (hl : ∀ i σ H, i ≤ xs.length → Pv i σ H → SqB k K H a xs)
    (hs : ∀ i x σ H, xs[i]? = some x → Pv i σ H → g x σ H fun σ2 H2 => tb { D with nx := Pv (i + 1), ct := Pv (i + 1), bk := D.nx } σ2 H2) (hd : ∀ σ H, Pv xs.length σ H → D.nx σ H) :
    ∃ W : Nat → Nat → L2.St → Hp → Prop, (∃ m, W 0 m σ H) ∧ ∀ i m σ H, W i m σ H →
      ((ItS k K a).stop i H ∧ D.nx σ H) ∨ ((ItS k K a).go i H ∧ ∃ N : L2.St → Hp → Prop, (∀ σ' H', N σ' H' → ∃ m', m' < m ∧ W (i + 1) m' σ' H') ∧ ∀ x H', (ItS k K a).yld i H x H' → g x σ H' fun σ2 H2 => tb { D with nx := N, ct := N, bk := D.nx } σ2 H2) := by
  cases k with
  | true => exact for_list Pv h0 hl hs hd
  | false => exact for_tup Pv h0 hl hs hd
/-! ### zip -/
def itB (k : Bool) (h : Heap) (it l : Addr) (i : Nat) : Prop := match k with
  | true => h.IsListIter it l i
  | false => h.IsTupleIter it l i
def isB (k : Bool) (h : Heap) (l : Addr) (its : List Value) : Prop := match k with
  | true => h.IsList l its.toArray
  | false => h.IsTuple l its.toArray
theorem drawsB {P : Program} {w : World} {A : Around} {k : Bool} {it l : Addr} {its : List Value} (hh : A.handled = none) (ne : l ≠ it) :
    Draws P w A it [it, l] its.length (fun i v => its[i]? = some v) (fun i h => itB k h it l i ∧ isB k h l its) := by
  cases k with
  | true =>
    have D := Draws.list (prog := P) (w := w) hh it l ne its.toArray
    simp only [List.size_toArray, List.getElem?_toArray] at D
    exact D
  | false =>
    have D := Draws.tuple (prog := P) (w := w) hh it l ne its.toArray
    simp only [List.size_toArray, List.getElem?_toArray] at D
    exact D
theorem seqB {X : Cx} {pins : List (Addr × Obj)} {σ : L2.St} {H : Hp} {s : Shared} {k : Bool} {a : Addr} {xs : List V} (I : Inv X pins σ H s) (h : SqB k X.K H a xs) : ∃ its, Vals xs its ∧ isB k s.heap a its ∧ a < s.heap.objs.size := by
  cases k with
  | true =>
    obtain ⟨its, rv, p, _⟩ := I.list h
    exact ⟨its, rv, p.isList, p.lt⟩
  | false =>
    obtain ⟨its, rv, p, _⟩ := I.tuple h
    obtain ⟨o, ho, _⟩ := id p
    exact ⟨its, rv, p, Heap.lt_size ho⟩
theorem seqB_inj {X : Cx} {pins : List (Addr × Obj)} {σ : L2.St} {H : Hp} {s : Shared} {k : Bool} {a : Addr} {xs ys : List V} (I : Inv X pins σ H s) (h : SqB k X.K H a xs) (h' : SqB k X.K H a ys) : ys = xs := by
  cases k with
  | true => exact I.list_inj h' h
  | false => exact I.tuple_inj h' h
/-- the two as they stand at each turn, the items in new pairs -/
def ItzS (k1 k2 : Bool) (K : PySem.W.Frag) (a b : Addr) : It :=
  ⟨fun i H => ∃ (xs ys : List V) (x y : V), SqB k1 K H a xs ∧ SqB k2 K H b ys ∧ xs[i]? = some x ∧ ys[i]? = some y,
    fun i H v H' => ∃ T x y, v = .ref T ∧ H T = none ∧ H' = upd H T (.tup [x, y]) ∧ (∀ xs, SqB k1 K H a xs → xs[i]? = some x) ∧ ∀ ys, SqB k2 K H b ys → ys[i]? = some y,
    fun i H => ∃ xs ys : List V, SqB k1 K H a xs ∧ SqB k2 K H b ys ∧ xs.length = i ∧ ys.length = i⟩
theorem itB_at {k : Bool} {h h' : Heap} {it l : Addr} {i : Nat} (st : itB k h it l i) (q : ∀ o, h.get? it = some o → h'.get? it = some o) : itB k h' it l i := by
  cases k with
  | true => exact Heap.IsListIter.at st q
  | false => exact Heap.IsTupleIter.at st q
theorem itB_ob {k : Bool} {h : Heap} {it l : Addr} {i : Nat} (st : itB k h it l i) : ∃ o, h.get? it = some o ∧ ∀ v, o.data ≠ .cell v := by
  cases k with
  | true =>
    obtain ⟨o, e, _, d⟩ := st
    exact ⟨o, e, fun v q => by rw [d] at q; cases q⟩
  | false =>
    obtain ⟨o, e, _, d⟩ := st
    exact ⟨o, e, fun v q => by rw [d] at q; cases q⟩
theorem turn_zipS {P : Program} {w : World} {K : PySem.W.Frag} {elts : List Expr} {kk : Nat} {tpos : Pos} {k1 k2 : Bool} {a b z TI TO i1 i2 : Addr} (S : ZipSep2 z TI TO i1 i2 [i1, a] [i2, b]) (n1 : a ≠ i1) (n2 : b ≠ i2) :
    Turn P w K (.Tuple elts kk tpos) (ItzS k1 k2 K a b) [z, TI, TO, i1, i2] z (fun i h => IsZip h z TI TO .none ∧ IsTupOf2 h TI (.ref i1) (.ref i2) ∧ (∃ x y, IsTupOf2 h TO x y) ∧ itB k1 h i1 a i ∧ itB k2 h i2 b i) where
  mem := by simp
  obj := fun i h st c hc => by
    obtain ⟨hz, hTI, ⟨x, y, hTO⟩, t1, t2⟩ := st
    have e' : c = z ∨ c = TI ∨ c = TO ∨ c = i1 ∨ c = i2 := by simpa using hc
    rcases e' with rfl | rfl | rfl | rfl | rfl
    · exact ⟨_, hz, fun v q => nomatch q⟩
    · exact ⟨_, hTI, fun v q => nomatch q⟩
    · exact ⟨_, hTO, fun v q => nomatch q⟩
    · exact itB_ob t1
    · exact itB_ob t2
  keep := fun i h h' st k => by
    obtain ⟨hz, hTI, ⟨x, y, hTO⟩, h1, h2⟩ := st
    exact ⟨k z (by simp) _ hz, k TI (by simp) _ hTI, ⟨x, y, k TO (by simp) _ hTO⟩, itB_at h1 fun o q => k i1 (by simp) o q, itB_at h2 fun o q => k i2 (by simp) o q⟩
  item := by
    intro X hP hw hK hc i pins s σ H E I hf st hg
    subst hP hw hK
    obtain ⟨hz, hTI, ⟨x0, y0, hTO⟩, h1, h2⟩ := st
    obtain ⟨xs, ys, x, y, hqx, hqy, hx, hy⟩ := hg
    obtain ⟨its, rv, p, _⟩ := seqB I hqx
    obtain ⟨its2, rv2, p2, _⟩ := seqB I hqy
    obtain ⟨u, hu, ru⟩ := rv.get hx
    obtain ⟨u2, hu2, ru2⟩ := rv2.get hy
    have hzl : z < s.heap.objs.size := Heap.lt_size hz
    have hh : X.A.in1.handled = none := I.ok.hd hc
    refine wpAny_pyNext_zipD2_item S (drawsB (k := k1) (its := its) hh n1) (drawsB (k := k2) (its := its2) hh n2) hz hTI hTO ⟨h1, p⟩ ⟨h2, p2⟩ (List.getElem?_eq_some_iff.mp hu).1 (List.getElem?_eq_some_iff.mp hu2).1
      fun v1 v2 h' tk e1 e2 z' TO' st1 st2 hT hsz hk => ?_
    obtain rfl : u = v1 := Option.some.inj (hu.symm.trans e1)
    obtain rfl : u2 = v2 := Option.some.inj (hu2.symm.trans e2)
    refine ⟨_, rfl, wpAny_letOwnedTupleGo_zip (s := { s with heap := h', toks := tk }) z' fun h'' z'' sb => ?_⟩
    have hT2 : h''.get? s.heap.objs.size = some { cls := .type "tuple", data := .seq #[u, u2] } := (sb.2 _ (Nat.ne_of_gt hzl)).trans hT
    have new : ObjOk X.prog X.w (upd H s.heap.objs.size (.tup [x, y])) h'' s.heap.objs.size (.tup [x, y]) :=
      ⟨by show 2 ≤ sizeLine; decide, [u, u2], .cons ru (.cons ru2 .nil), ⟨_, hT2, rfl, _, rfl⟩⟩
    have I1 : Inv X pins σ (upd H s.heap.objs.size (.tup [x, y])) { s with heap := h'', toks := tk } :=
      I.turnedNew (t' := tk) (ch := [z, TI, TO, i1, i2]) (fun c o hb q => (sb.2 c (fun q' => hb (by simp [q']))).trans (hk c o (fun q' => hb (by simp [q'])) (fun q' => hb (by simp [q'])) (fun q' => hb (by simp [q'])) (fun q' => hb (by simp [q'])) q)) hf (Nat.le_refl _) new
    refine ⟨.ref s.heap.objs.size, _, I1, rfl, ⟨_, x, y, rfl, I.hok.fresh (Nat.le_refl _), rfl, fun l hl => by rw [seqB_inj I hqx hl]; exact hx, fun l hl => by rw [seqB_inj I hqy hl]; exact hy⟩, ⟨z'', ?_, ⟨u, u2, ?_⟩, ?_, ?_⟩, fun c hcm => ?_⟩
    · exact (sb.2 _ S.TIz).trans (hk _ _ S.TIz S.TITO S.TIi1 S.TIi2 hTI)
    · exact (sb.2 _ S.TOz).trans TO'
    · exact itB_at st1.1 fun o q => (sb.2 _ S.zi1.symm).trans q
    · exact itB_at st2.1 fun o q => (sb.2 _ S.zi2.symm).trans q
    · have hlt : c < s.heap.objs.size := by
        have e' : c = z ∨ c = TI ∨ c = TO ∨ c = i1 ∨ c = i2 := by simpa using hcm
        rcases e' with rfl | rfl | rfl | rfl | rfl
        · exact hzl
        · exact Heap.lt_size hTI
        · exact Heap.lt_size hTO
        · obtain ⟨_, e1, _⟩ := itB_ob h1; exact Heap.lt_size e1
        · obtain ⟨_, e1, _⟩ := itB_ob h2; exact Heap.lt_size e1
      rw [upd_ne (Nat.ne_of_lt hlt)]
      exact (hf c hcm).1
  done := by
    intro X hP hw hK hc i pins s σ H E I hf st hg
    subst hP hw hK
    obtain ⟨hz, hTI, ⟨x0, y0, hTO⟩, h1, h2⟩ := st
    obtain ⟨xs, ys, hqx, hqy, e1, e2⟩ := hg
    obtain ⟨its, rv, p, _⟩ := seqB I hqx
    obtain ⟨its2, rv2, p2, _⟩ := seqB I hqy
    have l1 := rv.length
    have l2 := rv2.length
    have hh : X.A.in1.handled = none := I.ok.hd hc
    exact wpAny_pyNext_zipD2_end S (drawsB (k := k1) (its := its) hh n1) (drawsB (k := k2) (its := its2) hh n2) hz hTI hTO ⟨h1, p⟩ ⟨h2, p2⟩ (by omega) (by omega) (.inl (by omega)) fun h' tk hk => ⟨rfl, I.turnedL (t' := tk) (ch := [z, TI, TO, i1, i2]) (fun c o hb q =>
      hk c o (fun q' => hb (by simp [q'])) (fun q' => hb (by simp [q'])) (fun q' => hb (by simp [q'])) (fun q' => hb (by simp [q'])) q) hf⟩
  self := fun A i s Q E st h => wpAny_pyIter_zip st.1 h
def obB (k : Bool) (l : Addr) : Obj := match k with
  | true => { cls := .type "list_iterator", data := .fields #[.ref l, .int 0 0] }
  | false => { cls := .type "tuple_iterator", data := .fields #[.ref l, .int 0 0] }
theorem beginsB {k : Bool} {l : Addr} {its : List Value} : Begins (.ref l) (obB k l) fun h => isB k h l its := by
  cases k with
  | true => exact begins_list l its.toArray
  | false => exact begins_tuple l its.toArray
theorem itB_new {k : Bool} {h : Heap} {it l : Addr} (e : h.get? it = some (obB k l)) : itB k h it l 0 := by
  cases k with
  | true => exact ⟨_, e, rfl, rfl⟩
  | false => exact ⟨_, e, rfl, rfl⟩
def iZipS (K : PySem.W.Frag) (ta : TA) : TI := fun σ H R => ta σ H fun vs H1 => ∃ a b xs ys k1 k2, vs = [.ref a, .ref b] ∧ SqB k1 K H1 a xs ∧ SqB k2 K H1 b ys ∧ R (ItzS k1 k2 K a b) H1
theorem pi_zipS {X : Cx} {e e2 : Expr} {ta : TA} {p pos tpos : Pos} {elts : List Expr} {kk : Nat} (hg : Gl X "zip") (hm : X.mg "zip" = none) (ha : PA X [e, e2] ta)
    (hs : starEach [e, e2] X.env = (false, eval e X.env) :: starEach [e2] X.env := by rfl) (hpl : (backTo pos (starEach [e2] X.env)).any (·.1) = false := by rfl) :
    PI X (.Tuple elts kk tpos) (.Call (.Name "zip" p) [e, e2] [] pos) (iZipS X.K ta) := by
  refine ⟨fun pins s σ H R I h => ?_⟩
  refine Call_ (ld_blt I hg hm PyProof.Rows.boot_zip (PyProof.Rows.callWith_type1 (thn (ha.run pos pins s σ H _ I h) fun us s1 ⟨vs, H1, I1, r1, q1⟩ => ?_) hs hpl))
  obtain ⟨a, b, xs, ys, k1, k2, rfl, hqx, hqy, q⟩ := q1
  obtain ⟨u1, u2, rfl, rr1, rr2⟩ := vals2 r1
  obtain rfl : u1 = Value.ref a := rr1
  obtain rfl : u2 = Value.ref b := rr2
  obtain ⟨its, rv, p1, la⟩ := seqB I1 hqx
  obtain ⟨its2, rv2, p2, lb⟩ := seqB I1 hqy
  refine zip_begins2 (beginsB (k := k1)) (beginsB (k := k2)) p1 p2 fun h' hz hTI hTO g1 g2 hsz hk => wpAny_pyIter_zip hz ?_
  have I2 : Inv X pins σ H1 { s1 with heap := h' } := I1.kept (t' := s1.toks) hk
  refine ⟨s1.heap.objs.size + 4, [s1.heap.objs.size + 4, s1.heap.objs.size + 2, s1.heap.objs.size + 3, s1.heap.objs.size, s1.heap.objs.size + 1], _, _, H1, rfl, I2,
    turn_zipS (zip_sep2 (fp1 := [a]) (fp2 := [b]) (fun c hc => by obtain rfl := List.mem_singleton.mp hc; exact la) (fun c hc => by obtain rfl := List.mem_singleton.mp hc; exact lb)) (Nat.ne_of_lt la) (Nat.ne_of_lt (Nat.lt_succ_of_lt lb)), ⟨hz, hTI, ⟨_, _, hTO⟩, itB_new g1, itB_new g2⟩, fun c hcm => ?_, q⟩
  have e' : c = s1.heap.objs.size + 4 ∨ c = s1.heap.objs.size + 2 ∨ c = s1.heap.objs.size + 3 ∨ c = s1.heap.objs.size ∨ c = s1.heap.objs.size + 1 := by simpa using hcm
  have hle : s1.heap.objs.size ≤ c := by
    rcases e' with z | z | z | z | z
    · rw [z]; exact Nat.le_add_right _ _
    · rw [z]; exact Nat.le_add_right _ _
    · rw [z]; exact Nat.le_add_right _ _
    · rw [z]; exact Nat.le_refl _
    · rw [z]; exact Nat.le_add_right _ _
  exact I1.fpOk hle (I1.hok.fresh hle)
/-- a loop over zip of two of one length -/
theorem for_zipS {K : PySem.W.Frag} {k1 k2 : Bool} {a b : Addr} {xs ys : List V} {g : TG} {tb : TS} {D : Ends} {σ : L2.St} {H : Hp} (hl : xs.length = ys.length) (Pv : Nat → L2.St → Hp → Prop) (h0 : Pv 0 σ H) (hq : ∀ i σ H, Pv i σ H → SqB k1 K H a xs ∧ SqB k2 K H b ys)
    (hs : ∀ (i : Nat) (x y : V) (T : Addr) (σ : L2.St) (H : Hp), xs[i]? = some x → ys[i]? = some y → Pv i σ H → H T = none → g (.ref T) σ (upd H T (.tup [x, y])) fun σ2 H2 => tb { D with nx := Pv (i + 1), ct := Pv (i + 1), bk := D.nx } σ2 H2) (hd : ∀ σ H, Pv xs.length σ H → D.nx σ H) :
    ∃ W : Nat → Nat → L2.St → Hp → Prop, (∃ m, W 0 m σ H) ∧ ∀ i m σ H, W i m σ H →
      ((ItzS k1 k2 K a b).stop i H ∧ D.nx σ H) ∨ ((ItzS k1 k2 K a b).go i H ∧ ∃ N : L2.St → Hp → Prop, (∀ σ' H', N σ' H' → ∃ m', m' < m ∧ W (i + 1) m' σ' H') ∧ ∀ v H', (ItzS k1 k2 K a b).yld i H v H' → g v σ H' fun σ2 H2 => tb { D with nx := N, ct := N, bk := D.nx } σ2 H2) := by
  refine ⟨fun i m σ H => m = xs.length - i ∧ i ≤ xs.length ∧ Pv i σ H, ⟨xs.length, rfl, Nat.zero_le _, h0⟩, ?_⟩
  rintro i m σ H ⟨rfl, hi, p⟩
  obtain ⟨qx, qy⟩ := hq i σ H p
  by_cases hlt : i < xs.length
  · have hx : xs[i]? = some xs[i] := List.getElem?_eq_getElem hlt
    have hlt2 : i < ys.length := by omega
    have hy : ys[i]? = some ys[i] := List.getElem?_eq_getElem hlt2
    refine .inr ⟨⟨xs, ys, _, _, qx, qy, hx, hy⟩, Pv (i + 1), fun σ' H' p' => ⟨xs.length - (i + 1), by omega, rfl, hlt, p'⟩, fun v H' y => ?_⟩
    obtain ⟨T, x', y', rfl, hT, rfl, f1, f2⟩ := y
    exact hs i x' y' T σ H (f1 xs qx) (f2 ys qy) p hT
  · obtain rfl : i = xs.length := by omega
    exact .inl ⟨⟨xs, ys, qx, qy, rfl, by omega⟩, hd σ H p⟩
end Q

set_option maxRecDepth 100000
set_option maxHeartbeats 4000000
/-! More that the laws share: own errors without arguments, repr of any data, small data, whole numbers in rows. -/
namespace Q
open PySem PySem.Spec PyProof.Rows L2
/-- X(), X an own exception class without own __init__ -/
theorem pmk_own0 {X : Cx} {C : Addr} {x : Str} {p pos : Pos} (q : PySem.W.excIn X.K C He.veBase "ValueError.__new__" = true) (gC : X.mg x = some (.ref C)) (kC : PySem.W.keepIn X.K (.ref C) = true) (r : Raises X (.ref C)) (hg : Gl X x := by rfl)
    (hdb : (x == ("__debug__" : Str)) = false := by decide) : PMk X (.Call (.Name x p) [] [] pos) (fun _ H Q => Q (.ref C) none H) := by
  intro pins s σ H Q I h
  refine wpAny_Call_Name_kw (ld_glob I hg gC ?_ hdb)
  refine PySem.W.callWith_K0 I.kIn kC ?_
  show wpAny _ _ (call (.ref C) []) _ _ _
  obtain ⟨bm, N, nm, qn, bs, hdct, sn, sub, ab, col, dd, k0, k1, k2, k3, k5, mN, hC, hN, hni, T⟩ := exc_obj I.kIn q
  refine wpAny_call_exc_subT PySem.F.excBase_ValueError T hC hN hni (fun h' e hm => ?_) (by show 0 ≤ sizeLine; exact Nat.zero_le _)
  exact mk_of I hm r h (I.hok.gone hm.new)
/-- repr of data: asked where no repr runs around -/
def rReprV (K : PySem.W.Frag) : List V → Hp → VK → Prop := fun xs H Q => ∃ (x : V) (d : PyData), xs = [x] ∧ Dp K H x d ∧ d.showable = true ∧ d.hasDict = false ∧ d.depth ≤ 60 ∧ d.shown.length ≤ sizeLine ∧ Q (.str d.shown) H
theorem call_reprV {X : Cx} (hg : X.A.guards = some []) (hu : X.A.units + 64 < cLine) : CallR X (.builtin "repr") (rReprV X.K) := by
  intro pins s σ H xs us Q I r h
  obtain ⟨x, d, rfl, hD, hs, hno, hdp, hl, q⟩ := h
  obtain ⟨u, rfl, r1⟩ := vals1 r
  have D := hD
  cases hD with
  | non =>
    obtain rfl : u = Value.none := r1
    exact PySem.P.repr_of_none ⟨.str _, H, I.tok _, ⟨_, rfl⟩, q⟩
  | bl b =>
    obtain rfl : u = Value.bool b := r1
    exact PySem.P.repr_of_bool ⟨.str _, H, I.tok _, ⟨_, by cases b <;> rfl⟩, q⟩
  | int i =>
    obtain ⟨t, rfl⟩ := r1
    exact PySem.P.repr_of_int (of_decide_eq_true hs) ⟨.str _, H, I.tok _, ⟨_, rfl⟩, q⟩
  | str z =>
    obtain ⟨t, rfl⟩ := r1
    exact PySem.P.repr_of_str ⟨.str _, H, I.tok _, ⟨_, rfl⟩, q⟩ hl
  | lst hq da =>
    exact call_reprD hg hu pins s σ H _ _ Q I r ⟨_, _, rfl, D, ⟨_, rfl⟩, hs, hno, hdp, hl, q⟩
  | tup hq da =>
    exact call_reprD hg hu pins s σ H _ _ Q I r ⟨_, _, rfl, D, ⟨_, rfl⟩, hs, hno, hdp, hl, q⟩
theorem call_reprVS {X : Cx} {a : Addr} {pn : List (Addr × Obj)} (hg : X.A.guards = some []) (hu : X.A.units + 64 < cLine) : CallR (X.suite a pn) (.builtin "repr") (rReprV X.K) := call_reprV (X := X.suite a pn) hg hu
/-! ### whole numbers, with bounds or without -/
def loB (lo : V) (i : Int) : Bool := match lo with
  | .int l => decide (l ≤ i)
  | _ => true
def hiB (hi : V) (i : Int) : Bool := match hi with
  | .int h => decide (i ≤ h)
  | _ => true
def wholeG (v lo hi : V) : Bool := match v with
  | .int i => loB lo i && hiB hi i
  | _ => false
def Bnd (v : V) : Prop := v = .non ∨ ∃ i, v = .int i
theorem wholeG_int {v : V} {lo hi : Int} : wholeG v (.int lo) (.int hi) = wholeV v lo hi := by cases v <;> rfl
theorem wholeG_no {v lo hi : V} (h : ∀ i, v ≠ .int i) : wholeG v lo hi = false := by
  cases v with
  | int i => exact absurd rfl (h i)
  | _ => rfl
def spWholeG : Sp := fun vs H Q _ => ∃ (v lo hi : V) (T : String), vs = [v, lo, hi] ∧ Kn H v T ∧ Bnd lo ∧ Bnd hi ∧ Q (.bl (wholeG v lo hi)) H
/-! ### rows and their numbers; both read from the back -/
def prodR : List Int → Int
  | [] => 1
  | w :: ws => prodR ws * w
def numR : List Int → List Int → Int
  | w :: ws, v :: vs => numR ws vs * w + v
  | _, _ => 0
def digs : List Int → Int → List Int
  | [], _ => []
  | w :: ws, n => n % w :: digs ws (n / w)
def quoR : List Int → Int → Int
  | [], n => n
  | w :: ws, n => quoR ws (n / w)
/-- each in its width -/
def InR : List Int → List Int → Prop
  | [], [] => True
  | w :: ws, v :: vs => 0 ≤ v ∧ v < w ∧ InR ws vs
  | _, _ => False
theorem InR.len : ∀ {ws vs : List Int}, InR ws vs → vs.length = ws.length
  | [], [], _ => rfl
  | [], _ :: _, h => h.elim
  | _ :: _, [], h => h.elim
  | _ :: ws, _ :: vs, h => by
    have := InR.len (ws := ws) (vs := vs) h.2.2
    simp [this]
theorem InR.get : ∀ {ws vs : List Int} {i : Nat} {w v : Int}, InR ws vs → ws[i]? = some w → vs[i]? = some v → 0 ≤ v ∧ v < w
  | [], _, _, _, _, _, h, _ => by simp at h
  | _ :: _, [], _, _, _, h, _, _ => h.elim
  | a :: ws, b :: vs, 0, w, v, h, h1, h2 => by
    simp at h1 h2
    subst h1 h2
    exact ⟨h.1, h.2.1⟩
  | a :: ws, b :: vs, i + 1, w, v, h, h1, h2 => InR.get (ws := ws) (vs := vs) (i := i) h.2.2 (by simpa using h1) (by simpa using h2)
theorem InR.of_get : ∀ {ws vs : List Int}, vs.length = ws.length → (∀ (i : Nat) (w v : Int), ws[i]? = some w → vs[i]? = some v → 0 ≤ v ∧ v < w) → InR ws vs
  | [], [], _, _ => trivial
  | [], _ :: _, h, _ => by simp at h
  | _ :: _, [], h, _ => by simp at h
  | a :: ws, b :: vs, h, k => by
    have z := k 0 a b rfl rfl
    exact ⟨z.1, z.2, InR.of_get (by simpa using h) fun i w v h1 h2 => k (i + 1) w v (by simpa using h1) (by simpa using h2)⟩
theorem InR.rev {ws vs : List Int} (h : InR ws vs) : InR ws.reverse vs.reverse := by
  have hl := h.len
  refine InR.of_get (by rw [List.length_reverse, List.length_reverse, hl]) fun i w v h1 h2 => ?_
  have hi : i < ws.length := by
    have := (List.getElem?_eq_some_iff.mp h1).1
    rwa [List.length_reverse] at this
  rw [List.getElem?_reverse hi] at h1
  rw [List.getElem?_reverse (by omega), hl] at h2
  exact h.get h1 h2
theorem num_bounds : ∀ {ws vs : List Int}, InR ws vs → 0 ≤ numR ws vs ∧ numR ws vs < prodR ws
  | [], [], _ => ⟨Int.le_refl _, by decide⟩
  | [], _ :: _, h => h.elim
  | _ :: _, [], h => h.elim
  | w :: ws, v :: vs, ⟨h0, h1, h⟩ => by
    obtain ⟨a, b⟩ := num_bounds (ws := ws) (vs := vs) h
    show 0 ≤ numR ws vs * w + v ∧ numR ws vs * w + v < prodR ws * w
    have w0 : 0 < w := by omega
    have e1 : 0 ≤ numR ws vs * w := Int.mul_nonneg a (Int.le_of_lt w0)
    have e2 : (numR ws vs + 1) * w ≤ prodR ws * w := Int.mul_le_mul_of_nonneg_right (by omega) (Int.le_of_lt w0)
    rw [Int.add_mul, Int.one_mul] at e2
    constructor <;> omega
theorem digs_num : ∀ {ws vs : List Int}, InR ws vs → digs ws (numR ws vs) = vs
  | [], [], _ => rfl
  | [], _ :: _, h => h.elim
  | _ :: _, [], h => h.elim
  | w :: ws, v :: vs, ⟨h0, h1, h⟩ => by
    have e1 : (numR ws vs * w + v) % w = v := by
      rw [Int.add_comm, Int.add_mul_emod_self_right]
      exact Int.emod_eq_of_lt h0 h1
    have e2 : (numR ws vs * w + v) / w = numR ws vs := by
      rw [Int.add_comm, Int.add_mul_ediv_right _ _ (by omega), Int.ediv_eq_zero_of_lt h0 h1, Int.zero_add]
    show (numR ws vs * w + v) % w :: digs ws ((numR ws vs * w + v) / w) = v :: vs
    rw [e1, e2, digs_num h]
theorem digs_len : ∀ (ws : List Int) (n : Int), (digs ws n).length = ws.length
  | [], _ => rfl
  | w :: ws, n => by
    show (digs ws (n / w)).length + 1 = ws.length + 1
    rw [digs_len]
theorem digs_in : ∀ {ws : List Int} {n : Int}, (∀ w ∈ ws, 0 < w) → 0 ≤ n → n < prodR ws → InR ws (digs ws n) ∧ numR ws (digs ws n) = n
  | [], n, _, h0, h1 => ⟨trivial, by
    have : n < 1 := h1
    show (0 : Int) = n
    omega⟩
  | w :: ws, n, hw, h0, h1 => by
    have w0 : 0 < w := hw w List.mem_cons_self
    have q0 : 0 ≤ n / w := Int.ediv_nonneg h0 (Int.le_of_lt w0)
    have q1 : n / w < prodR ws := Int.ediv_lt_of_lt_mul w0 h1
    obtain ⟨a, b⟩ := digs_in (ws := ws) (n := n / w) (fun x m => hw x (List.mem_cons_of_mem _ m)) q0 q1
    refine ⟨⟨Int.emod_nonneg _ (by omega), Int.emod_lt_of_pos _ w0, a⟩, ?_⟩
    show numR ws (digs ws (n / w)) * w + n % w = n
    rw [b, Int.mul_comm]
    exact Int.mul_ediv_add_emod n w
theorem digs_snoc : ∀ (ws : List Int) (w n : Int), digs (ws ++ [w]) n = digs ws n ++ [quoR ws n % w] ∧ quoR (ws ++ [w]) n = quoR ws n / w
  | [], w, n => ⟨rfl, rfl⟩
  | a :: ws, w, n => by
    obtain ⟨e1, e2⟩ := digs_snoc ws w (n / a)
    exact ⟨by show n % a :: digs (ws ++ [w]) (n / a) = n % a :: (digs ws (n / a) ++ [quoR ws (n / a) % w]); rw [e1], e2⟩
theorem prodR_pos : ∀ {ws : List Int}, (∀ w ∈ ws, 0 < w) → 0 < prodR ws
  | [], _ => by decide
  | w :: ws, h => Int.mul_pos (prodR_pos fun x m => h x (List.mem_cons_of_mem _ m)) (h w List.mem_cons_self)
theorem take_rev {α : Type} {l : List α} {i : Nat} {x : α} (h : l[i]? = some x) : (l.take (i + 1)).reverse = x :: (l.take i).reverse := by
  rw [List.take_add_one, h, List.reverse_append]
  rfl
theorem getMap {ws : List Int} {i : Nat} {x : V} (h : (ws.map V.int)[i]? = some x) : ∃ w, ws[i]? = some w ∧ x = .int w := by
  rw [List.getElem?_map] at h
  cases e : ws[i]? with
  | none => rw [e] at h; cases h
  | some w => rw [e] at h; exact ⟨w, rfl, (Option.some.inj h).symm⟩
/-! ### what check_widths and check_row look at -/
def unI : V → Int
  | .int i => i
  | _ => 0
def widthsOk (o : Option (List V)) : Bool := match o with
  | some xs => (decide (1 ≤ xs.length) && decide (xs.length ≤ 3)) && (xs.all (fun v => wholeV v 1 64) && decide (prodR (xs.map unI).reverse ≤ 4096))
  | none => false
def allIn : List Int → List V → Bool
  | w :: ws, x :: xs => wholeV x 0 (w - 1) && allIn ws xs
  | _, _ => true
def rowOk (ws : List Int) (o : Option (List V)) : Bool := match o with
  | some xs => decide (xs.length = ws.length) && allIn ws xs
  | none => false
theorem whole_is {v : V} {lo hi : Int} (h : wholeV v lo hi = true) : ∃ i, v = .int i ∧ lo ≤ i ∧ i ≤ hi := by
  cases v with
  | int i =>
    have z : (decide (lo ≤ i) && decide (i ≤ hi)) = true := h
    rw [Bool.and_eq_true] at z
    exact ⟨i, rfl, of_decide_eq_true z.1, of_decide_eq_true z.2⟩
  | _ => cases h
theorem all_whole {lo hi : Int} : ∀ {xs : List V}, xs.all (fun v => wholeV v lo hi) = true → xs = (xs.map unI).map V.int ∧ ∀ w ∈ xs.map unI, lo ≤ w ∧ w ≤ hi
  | [], _ => ⟨rfl, fun _ m => by cases m⟩
  | x :: xs, h => by
    rw [List.all_cons, Bool.and_eq_true] at h
    obtain ⟨i, rfl, h1, h2⟩ := whole_is h.1
    obtain ⟨e, k⟩ := all_whole h.2
    refine ⟨by rw [List.map_cons, List.map_cons, ← e]; rfl, fun w m => ?_⟩
    rcases List.mem_cons.mp (show w ∈ i :: xs.map unI from m) with rfl | m
    · exact ⟨h1, h2⟩
    · exact k w m
theorem unI_int (ns : List Int) : (ns.map V.int).map unI = ns := by
  rw [List.map_map]
  exact List.map_id'' (fun _ => rfl) ns
theorem allIn_is : ∀ {ws : List Int} {xs : List V}, xs.length = ws.length → allIn ws xs = true → xs = (xs.map unI).map V.int ∧ InR ws (xs.map unI)
  | [], [], _, _ => ⟨rfl, trivial⟩
  | [], _ :: _, h, _ => by simp at h
  | _ :: _, [], h, _ => by simp at h
  | w :: ws, x :: xs, hl, h => by
    have h' : (wholeV x 0 (w - 1) && allIn ws xs) = true := h
    rw [Bool.and_eq_true] at h'
    obtain ⟨i, rfl, h1, h2⟩ := whole_is h'.1
    obtain ⟨e, k⟩ := allIn_is (ws := ws) (xs := xs) (by simpa using hl) h'.2
    exact ⟨by rw [List.map_cons, List.map_cons, ← e]; rfl, h1, by show i < w; omega, k⟩
theorem allIn_of : ∀ {ws rs : List Int}, InR ws rs → allIn ws (rs.map V.int) = true
  | [], [], _ => rfl
  | [], _ :: _, h => h.elim
  | _ :: _, [], h => h.elim
  | w :: ws, r :: rs, ⟨h0, h1, h⟩ => by
    show ((decide (0 ≤ r) && decide (r ≤ w - 1)) && allIn ws (rs.map V.int)) = true
    rw [decide_eq_true h0, decide_eq_true (show r ≤ w - 1 by omega), allIn_of h]
    rfl
theorem rowOk_of {ws rs : List Int} (h : InR ws rs) : rowOk ws (some (rs.map V.int)) = true := by
  show (decide ((rs.map V.int).length = ws.length) && allIn ws (rs.map V.int)) = true
  rw [List.length_map, h.len, decide_eq_true rfl, allIn_of h]
  rfl
/-- the items of a list or a tuple are of known kinds -/
def Itm (H : Hp) (v : V) : Prop := ∀ xs, seqOf H v = some xs → ∀ x ∈ xs, ∃ T, Kn H x T
theorem Itm.ints {H : Hp} {v : V} {ns : List Int} (h : seqOf H v = some (ns.map V.int)) : Itm H v := fun xs hx x m => by
  rw [h] at hx
  cases hx
  obtain ⟨n, -, rfl⟩ := List.mem_map.mp m
  exact ⟨_, .int n⟩
theorem Itm.none {H : Hp} {v : V} (h : seqOf H v = none) : Itm H v := fun xs hx => by
  rw [h] at hx
  cases hx
theorem Itm.same {H H' : Hp} {v : V} {T : String} (h : Itm H v) (k : Kn H v T) (e : Same H H') : Itm H' v := fun xs hx x m => by
  rw [k.seqOf e] at hx
  obtain ⟨U, u⟩ := h xs hx x m
  exact ⟨U, u.same e⟩
/-! ### names -/
def lettersT : Str := "abcdefghijklmnopqrstuvwxyz"
def inLetters (c : Nat) : Bool := decide (c ∈ lettersT.cps.toList)
def nameV (v : V) : Bool := match v with
  | .str x => (decide (1 ≤ x.length) && decide (x.length ≤ 12)) && x.cps.toList.all inLetters
  | _ => false
theorem Kn.isStr {K : PySem.W.Frag} {H : Hp} {v : V} {T : String} (h : Kn H v T) : (∃ x, v = .str x ∧ PySem.W.kitOne K (.type T) (.type "str") = some true) ∨ (PySem.W.kitOne K (.type T) (.type "str") = some false ∧ nameV v = false) := by
  cases h with
  | str x => exact .inl ⟨x, rfl, kit_ty (by decide +kernel)⟩
  | int i => exact .inr ⟨kit_ty (by decide +kernel), rfl⟩
  | bl b => exact .inr ⟨kit_ty (by decide +kernel), rfl⟩
  | non => exact .inr ⟨kit_ty (by decide +kernel), rfl⟩
  | lst e => exact .inr ⟨kit_ty (by decide +kernel), rfl⟩
  | tup e => exact .inr ⟨kit_ty (by decide +kernel), rfl⟩
  | dct e => exact .inr ⟨kit_ty (by decide +kernel), rfl⟩
def spName : Sp := fun vs H Q _ => ∃ (v : V) (T : String), vs = [v] ∧ Kn H v T ∧ (∀ x, v = .str x → x.length ≤ 1000) ∧ ∀ H', Same H H' → Q (.bl (nameV v)) H'
end Q

set_option maxRecDepth 100000
set_option maxHeartbeats 4000000
/-! Small things that may stand in rows and lists, and what repr shows of them. -/
namespace Q
open PySem PySem.Spec PyProof.Rows L2
/-- data that repr shows in little room -/
structure Sm (d : PyData) (w : Nat) : Prop where
  sh : d.showable = true
  nd : d.hasDict = false
  dp : d.depth ≤ 1
  ls : d.leavesShort 60 = true
  wt : d.weight ≤ w
/-- data that repr shows -/
structure Shw (d : PyData) : Prop where
  sh : d.showable = true
  nd : d.hasDict = false
  dp : d.depth ≤ 60
  ln : d.shown.length ≤ sizeLine
theorem Sm.shw {d : PyData} {w : Nat} (h : Sm d w) (hw : w ≤ 100000) : Shw d := by
  have e := PyData.shown_le 60 (by decide) _ h.ls
  have := h.wt
  have := h.dp
  exact ⟨h.sh, h.nd, by omega, by rw [sizeLine_eq]; omega⟩
def smB (x : Str) : Bool := (PyData.str x).showable && ((PyData.str x).leavesShort 60 && decide ((PyData.str x).weight ≤ 200))
theorem sm_str {x : Str} (h : smB x = true) : Sm (.str x) 200 := by
  have z : ((PyData.str x).showable && ((PyData.str x).leavesShort 60 && decide ((PyData.str x).weight ≤ 200))) = true := h
  rw [Bool.and_eq_true, Bool.and_eq_true] at z
  exact ⟨z.1, rfl, Nat.zero_le _, z.2.1, of_decide_eq_true z.2.2⟩
theorem sm_int {i : Int} (h : i.natAbs < 10 ^ 40) : Sm (.int i) 200 := by
  have h1 : i.natAbs.log2 < 134 := PySem.Flt.log2_lt_of (by decide) (Nat.lt_of_lt_of_le h (by decide))
  refine ⟨?_, rfl, Nat.zero_le _, ?_, ?_⟩
  · show decide (i.natAbs.log2 < 1920) = true
    exact decide_eq_true (by omega)
  · have e := int_text_length_le10 (a := i) (k := 40) (by decide) h
    have e2 : (PyData.shown (.int i)).length = (toString i).length := PySem.ofString_length _
    exact decide_eq_true (by omega)
  · show (if i == 0 then 0 else i.natAbs.log2 + 1) ≤ 200
    split <;> omega
/-- what may stand in a row -/
inductive Odd (H : Hp) : V → Prop
  | non : Odd H .non
  | bl (b : Bool) : Odd H (.bl b)
  | str (x : Str) (h : smB x = true) : Odd H (.str x)
  | int (i : Int) (h : i.natAbs < 10 ^ 40) : Odd H (.int i)
  | tup {t : Addr} (n : Int) (h : n.natAbs < 10 ^ 40) (e : H t = some (.tup [.int n])) : Odd H (.ref t)
theorem Odd.kn {H : Hp} {v : V} (h : Odd H v) : ∃ T, Kn H v T := by
  cases h with
  | non => exact ⟨_, .non⟩
  | bl b => exact ⟨_, .bl b⟩
  | str x _ => exact ⟨_, .str _⟩
  | int i _ => exact ⟨_, .int i⟩
  | tup _ _ e => exact ⟨_, .tup e⟩
theorem Odd.keep {H H' : Hp} {v : V} (h : Odd H v) (k : ∀ t xs, H t = some (.tup xs) → H' t = some (.tup xs)) : Odd H' v := by
  cases h with
  | non => exact .non
  | bl b => exact .bl b
  | str x h => exact .str x h
  | int i h => exact .int i h
  | tup n h e => exact .tup n h (k _ _ e)
theorem Odd.same {H H' : Hp} {v : V} (h : Odd H v) (k : Same H H') : Odd H' v := h.keep fun t xs e => k _ _ e
theorem Odd.kb {H H' : Hp} {b c : Addr} {n : Int} {v : V} (h : Odd H v) (B : BagAt H b c n) (k : Kb b H H') : Odd H' v := h.keep fun t xs e => k t _ (fun z => by
  obtain ⟨ns, p, r, kk, m, h1, _⟩ := B
  rw [z, h1] at e
  cases e) e
theorem Odd.dat {K : PySem.W.Frag} {H : Hp} {v : V} (h : Odd H v) : ∃ d, Dp K H v d ∧ Sm d 200 := by
  cases h with
  | non => exact ⟨_, .non, by decide, by decide, by decide, by decide, by decide⟩
  | bl b => exact ⟨_, .bl b, by cases b <;> decide, by cases b <;> decide, by cases b <;> decide, by cases b <;> decide, by cases b <;> decide⟩
  | str x h => exact ⟨_, .str _, sm_str h⟩
  | int i h => exact ⟨_, .int i, sm_int h⟩
  | tup n h e =>
    have s := sm_int h
    refine ⟨.tuple [.int n], .tup (SqT.of e) (.cons (.int n) .nil), ?_, rfl, Nat.le_refl _, ?_, ?_⟩
    · show ((PyData.int n).showable && true) = true
      rw [s.sh]
      rfl
    · show ((PyData.int n).leavesShort 60 && true) = true
      rw [s.ls]
      rfl
    · show PyData.weightAll [.int n] ≤ 200
      have e1 : PyData.weightAll [.int n] = (PyData.int n).weight + 1 + 0 := rfl
      have h1 : n.natAbs.log2 < 134 := PySem.Flt.log2_lt_of (by decide) (Nat.lt_of_lt_of_le h (by decide))
      have e2 : (PyData.int n).weight ≤ 135 := by
        show (if n == 0 then 0 else n.natAbs.log2 + 1) ≤ 135
        split <;> omega
      omega
theorem odds_dat {K : PySem.W.Frag} {H : Hp} : ∀ {xs : List V}, (∀ x ∈ xs, Odd H x) → ∃ ds, DpAll K H xs ds ∧ PyData.showableAll ds = true ∧ PyData.hasDictAll ds = false ∧ PyData.depthAll ds ≤ 1 ∧ PyData.leavesShortAll 60 ds = true ∧ PyData.weightAll ds ≤ 201 * xs.length
  | [], _ => ⟨[], .nil, rfl, rfl, Nat.zero_le _, rfl, Nat.zero_le _⟩
  | x :: xs, h => by
    obtain ⟨d, D, S⟩ := (h x List.mem_cons_self).dat (K := K)
    obtain ⟨ds, E, e1, e2, e3, e4, e5⟩ := odds_dat (K := K) fun y hy => h y (List.mem_cons_of_mem _ hy)
    refine ⟨d :: ds, .cons D E, ?_, ?_, ?_, ?_, ?_⟩
    · show (d.showable && PyData.showableAll ds) = true
      rw [S.sh, e1]
      rfl
    · show (d.hasDict || PyData.hasDictAll ds) = false
      rw [S.nd, e2]
      rfl
    · exact Nat.max_le.mpr ⟨S.dp, e3⟩
    · show (d.leavesShort 60 && PyData.leavesShortAll 60 ds) = true
      rw [S.ls, e4]
      rfl
    · show d.weight + 1 + PyData.weightAll ds ≤ 201 * (xs.length + 1)
      have := S.wt
      omega
/-- a list or a tuple of such things, or one of them: what a caller hands in -/
inductive Arg (H : Hp) : V → Prop
  | one {v : V} (h : Odd H v) : Arg H v
  | lst {a : Addr} {xs : List V} (e : H a = some (.lst xs)) (h : ∀ x ∈ xs, Odd H x) (n : xs.length ≤ 100) : Arg H (.ref a)
  | tup {a : Addr} {xs : List V} (e : H a = some (.tup xs)) (h : ∀ x ∈ xs, Odd H x) (n : xs.length ≤ 100) : Arg H (.ref a)
theorem Arg.kn {H : Hp} {v : V} (h : Arg H v) : (∃ T, Kn H v T) ∧ Itm H v := by
  have io : ∀ {a : Addr} {xs : List V}, seqOf H (.ref a) = some xs → (∀ x ∈ xs, Odd H x) → Itm H (.ref a) := fun e h ys hy x m => by
    rw [e] at hy
    cases hy
    exact (h x m).kn
  cases h with
  | one h =>
    refine ⟨h.kn, ?_⟩
    cases h with
    | tup n hn e =>
      refine io (xs := [.int n]) (seqOf_tup e) fun x m => ?_
      obtain rfl := List.mem_singleton.mp m
      exact .int n hn
    | _ => exact Itm.none rfl
  | lst e h _ => exact ⟨⟨_, .lst e⟩, io (seqOf_lst e) h⟩
  | tup e h _ => exact ⟨⟨_, .tup e⟩, io (seqOf_tup e) h⟩
theorem Arg.dat {K : PySem.W.Frag} {H : Hp} {v : V} (h : Arg H v) : ∃ d, Dp K H v d ∧ Shw d := by
  have sq : ∀ {xs : List V} {ds : List PyData} {d : PyData}, xs.length ≤ 100 → (d = .list ds ∨ d = .tuple ds) → PyData.showableAll ds = true → PyData.hasDictAll ds = false → PyData.depthAll ds ≤ 1 → PyData.leavesShortAll 60 ds = true → PyData.weightAll ds ≤ 201 * xs.length → Shw d := fun {xs ds d} n e e1 e2 e3 e4 e5 => by
    have ls : d.leavesShort 60 = true := by rcases e with rfl | rfl <;> exact e4
    have w : d.weight = PyData.weightAll ds := by rcases e with rfl | rfl <;> rfl
    have dp : d.depth = PyData.depthAll ds + 1 := by rcases e with rfl | rfl <;> rfl
    have l := PyData.shown_le 60 (by decide) _ ls
    exact ⟨by rcases e with rfl | rfl <;> exact e1, by rcases e with rfl | rfl <;> exact e2, by omega, by rw [sizeLine_eq]; omega⟩
  cases h with
  | one h =>
    obtain ⟨d, D, s⟩ := h.dat (K := K)
    exact ⟨d, D, s.shw (by decide)⟩
  | lst e h n =>
    obtain ⟨ds, D, e1, e2, e3, e4, e5⟩ := odds_dat (K := K) h
    exact ⟨_, .lst (SqL.of e) D, sq n (.inl rfl) e1 e2 e3 e4 e5⟩
  | tup e h n =>
    obtain ⟨ds, D, e1, e2, e3, e4, e5⟩ := odds_dat (K := K) h
    exact ⟨_, .tup (SqT.of e) D, sq n (.inr rfl) e1 e2 e3 e4 e5⟩
theorem Arg.same {H H' : Hp} {v : V} (h : Arg H v) (k : Same H H') : Arg H' v := by
  cases h with
  | one h => exact .one (h.same k)
  | lst e h n => exact .lst (k _ _ e) (fun x m => (h x m).same k) n
  | tup e h n => exact .tup (k _ _ e) (fun x m => (h x m).same k) n
theorem ty_sqT {K : PySem.W.Frag} {H : Hp} {a : Addr} {xs : List V} (h : SqT K H a xs) : TyX K H (.ref a) (.type "tuple") := by
  rcases h with (h | ⟨o, h⟩) | ⟨o, its, n, h1, h2, _⟩
  · exact .base (.tup h)
  · exact .fTuple h
  · exact .kTuple h1 h2
end Q

set_option maxRecDepth 100000
set_option maxHeartbeats 4000000
/-! The rules whose relation names the written part, inside one comprehension (B) and inside two (BB).  Printed by mkblk.py. -/
namespace Q
open PySem PySem.Spec PyProof.Rows L2
section
variable {X : Cx} {s s2 : Shared} {H H2 : Hp} {sc sc2 : Scope} {ce ce2 : Env} {fp fp2 : List Addr}
theorem op_catAB : OpR (X.blk s H sc ce fp) (binaryOp .Add) (rCatA X.K) := op_catA (X := (X.blk s H sc ce fp))
theorem op_catABB : OpR ((X.blk s H sc ce fp).blk s2 H2 sc2 ce2 fp2) (binaryOp .Add) (rCatA X.K) := op_catA (X := ((X.blk s H sc ce fp).blk s2 H2 sc2 ce2 fp2))
theorem op_catTB : OpR (X.blk s H sc ce fp) (binaryOp .Add) (rCatT X.K) := op_catT (X := (X.blk s H sc ce fp))
theorem op_catTBB : OpR ((X.blk s H sc ce fp).blk s2 H2 sc2 ce2 fp2) (binaryOp .Add) (rCatT X.K) := op_catT (X := ((X.blk s H sc ce fp).blk s2 H2 sc2 ce2 fp2))
theorem ix_listB : IxR (X.blk s H sc ce fp)  (rIxL X.K) := ix_list (X := (X.blk s H sc ce fp))
theorem ix_listBB : IxR ((X.blk s H sc ce fp).blk s2 H2 sc2 ce2 fp2)  (rIxL X.K) := ix_list (X := ((X.blk s H sc ce fp).blk s2 H2 sc2 ce2 fp2))
theorem ix_tupB : IxR (X.blk s H sc ce fp)  (rIxT X.K) := ix_tup (X := (X.blk s H sc ce fp))
theorem ix_tupBB : IxR ((X.blk s H sc ce fp).blk s2 H2 sc2 ce2 fp2)  (rIxT X.K) := ix_tup (X := ((X.blk s H sc ce fp).blk s2 H2 sc2 ce2 fp2))
theorem ix_seqB : IxR (X.blk s H sc ce fp)  (rIx X.K) := ix_seq (X := (X.blk s H sc ce fp))
theorem ix_seqBB : IxR ((X.blk s H sc ce fp).blk s2 H2 sc2 ce2 fp2)  (rIx X.K) := ix_seq (X := ((X.blk s H sc ce fp).blk s2 H2 sc2 ce2 fp2))
theorem call_len_seqB : CallR (X.blk s H sc ce fp) (.builtin "len") (fun xs H Q => ∃ p ys, xs = [.ref p] ∧ (SqL X.K H p ys ∨ SqT X.K H p ys) ∧ Q (.int ys.length) H) := call_len_seq (X := (X.blk s H sc ce fp))
theorem call_len_seqBB : CallR ((X.blk s H sc ce fp).blk s2 H2 sc2 ce2 fp2) (.builtin "len") (fun xs H Q => ∃ p ys, xs = [.ref p] ∧ (SqL X.K H p ys ∨ SqT X.K H p ys) ∧ Q (.int ys.length) H) := call_len_seq (X := ((X.blk s H sc ce fp).blk s2 H2 sc2 ce2 fp2))
theorem call_tupOfB : CallR (X.blk s H sc ce fp) (.type "tuple") (rTupOf X.K) := call_tupOf (X := (X.blk s H sc ce fp))
theorem call_tupOfBB : CallR ((X.blk s H sc ce fp).blk s2 H2 sc2 ce2 fp2) (.type "tuple") (rTupOf X.K) := call_tupOf (X := ((X.blk s H sc ce fp).blk s2 H2 sc2 ce2 fp2))
theorem call_list_ofB : CallR (X.blk s H sc ce fp) (.type "list") (fun xs H Q => ∃ p ys, xs = [.ref p] ∧ (SqL X.K H p ys ∨ SqT X.K H p ys) ∧ ∀ l, H l = none → Q (.ref l) (upd H l (.lst ys))) := call_list_of (X := (X.blk s H sc ce fp))
theorem call_list_ofBB : CallR ((X.blk s H sc ce fp).blk s2 H2 sc2 ce2 fp2) (.type "list") (fun xs H Q => ∃ p ys, xs = [.ref p] ∧ (SqL X.K H p ys ∨ SqT X.K H p ys) ∧ ∀ l, H l = none → Q (.ref l) (upd H l (.lst ys))) := call_list_of (X := ((X.blk s H sc ce fp).blk s2 H2 sc2 ce2 fp2))
theorem call_isiB : CallR (X.blk s H sc ce fp) (.builtin "isinstance") (rIsi X.K) := call_isi (X := (X.blk s H sc ce fp))
theorem call_isiBB : CallR ((X.blk s H sc ce fp).blk s2 H2 sc2 ce2 fp2) (.builtin "isinstance") (rIsi X.K) := call_isi (X := ((X.blk s H sc ce fp).blk s2 H2 sc2 ce2 fp2))
theorem call_isiTB : CallR (X.blk s H sc ce fp) (.builtin "isinstance") (rIsiT X.K) := call_isiT (X := (X.blk s H sc ce fp))
theorem call_isiTBB : CallR ((X.blk s H sc ce fp).blk s2 H2 sc2 ce2 fp2) (.builtin "isinstance") (rIsiT X.K) := call_isiT (X := ((X.blk s H sc ce fp).blk s2 H2 sc2 ce2 fp2))
theorem pi_listB {tg l : Expr} {tl : TE} (hl : PE (X.blk s H sc ce fp) l tl) : PI (X.blk s H sc ce fp) tg l (iList X.K tl) := pi_list hl
theorem pi_listBB {tg l : Expr} {tl : TE} (hl : PE ((X.blk s H sc ce fp).blk s2 H2 sc2 ce2 fp2) l tl) : PI ((X.blk s H sc ce fp).blk s2 H2 sc2 ce2 fp2) tg l (iList X.K tl) := pi_list hl
theorem pi_tupB {tg l : Expr} {tl : TE} (hl : PE (X.blk s H sc ce fp) l tl) : PI (X.blk s H sc ce fp) tg l (iTup X.K tl) := pi_tup hl
theorem pi_tupBB {tg l : Expr} {tl : TE} (hl : PE ((X.blk s H sc ce fp).blk s2 H2 sc2 ce2 fp2) l tl) : PI ((X.blk s H sc ce fp).blk s2 H2 sc2 ce2 fp2) tg l (iTup X.K tl) := pi_tup hl
theorem pi_seqB {tg l : Expr} {tl : TE} (hl : PE (X.blk s H sc ce fp) l tl) : PI (X.blk s H sc ce fp) tg l (iSeq X.K tl) := pi_seq hl
theorem pi_seqBB {tg l : Expr} {tl : TE} (hl : PE ((X.blk s H sc ce fp).blk s2 H2 sc2 ce2 fp2) l tl) : PI ((X.blk s H sc ce fp).blk s2 H2 sc2 ce2 fp2) tg l (iSeq X.K tl) := pi_seq hl
end
end Q

set_option maxRecDepth 100000
set_option maxHeartbeats 4000000
/-! Lists of rows as data. -/
namespace Q
open PySem PySem.Spec PyProof.Rows L2
theorem shapedL_ints (ns : List Int) : SeqAt.shaped (.list (ns.map PyData.int)) = true := by
  show (PyData.canLayAll0 (ns.map PyData.int) && decide (PyData.depthAll (ns.map PyData.int) + 1 ≤ 64)) = true
  rw [lay_ints, depth_ints]
  rfl
theorem eqvL_ints (ns ms : List Int) : PyData.eqv (.list (ns.map PyData.int)) (.list (ms.map PyData.int)) = decide (ns = ms) := eqvAll_ints ns ms
theorem dpl_ints {K : PySem.W.Frag} {H : Hp} {p : Addr} {ns : List Int} (h : SqL K H p (ns.map V.int)) : Dp K H (.ref p) (.list (ns.map PyData.int)) := .lst h (dpAll_ints ns)
/-- rows of whole numbers, in a list -/
def rowsD (xss : List (List Int)) : List PyData := xss.map fun xs => .tuple (xs.map PyData.int)
theorem layRows : ∀ xss : List (List Int), PyData.canLayAll0 (rowsD xss) = true
  | [] => rfl
  | x :: xss => by
    show (PyData.canLayAll0 (x.map PyData.int) && PyData.canLayAll0 (rowsD xss)) = true
    rw [lay_ints, layRows xss]
    rfl
theorem depthRows : ∀ xss : List (List Int), PyData.depthAll (rowsD xss) ≤ 1
  | [] => Nat.zero_le _
  | x :: xss => by
    show max (PyData.depthAll (x.map PyData.int) + 1) (PyData.depthAll (rowsD xss)) ≤ 1
    rw [depth_ints]
    exact Nat.max_le.mpr ⟨Nat.le_refl _, depthRows xss⟩
theorem shapedRows (xss : List (List Int)) : SeqAt.shaped (.list (rowsD xss)) = true := by
  show (PyData.canLayAll0 (rowsD xss) && decide (PyData.depthAll (rowsD xss) + 1 ≤ 64)) = true
  have := depthRows xss
  rw [layRows, decide_eq_true (by omega)]
  rfl
theorem eqvRows : ∀ xss : List (List Int), PyData.eqvAll (rowsD xss) (rowsD xss) = true
  | [] => rfl
  | x :: xss => by
    show (PyData.eqv (.tuple (x.map PyData.int)) (.tuple (x.map PyData.int)) && PyData.eqvAll (rowsD xss) (rowsD xss)) = true
    rw [eqv_ints, decide_eq_true rfl, eqvRows xss]
    rfl
theorem dpRows {K : PySem.W.Frag} {H : Hp} : ∀ {ps : List Addr} {xss : List (List Int)}, ps.length = xss.length → (∀ (k : Nat) (p : Addr) (xs : List Int), ps[k]? = some p → xss[k]? = some xs → H p = some (.tup (xs.map V.int))) → DpAll K H (ps.map V.ref) (rowsD xss)
  | [], [], _, _ => .nil
  | [], _ :: _, h, _ => by simp at h
  | _ :: _, [], h, _ => by simp at h
  | p :: ps, xs :: xss, h, k => .cons (dp_ints (SqT.of (k 0 p xs rfl rfl))) (dpRows (by simpa using h) fun j q ys h1 h2 => k (j + 1) q ys (by simpa using h1) (by simpa using h2))
def upI (n : Nat) : List Int := (List.range n).map fun k : Nat => (k : Int)
theorem rgV_ints (n : Nat) : rgV 0 (n : Int) = (upI n).map V.int := by
  unfold rgV upI
  rw [List.map_map, Int.sub_zero, Int.toNat_natCast]
  refine List.map_congr_left fun i _ => ?_
  show V.int (0 + (i : Int)) = V.int (i : Int)
  rw [Int.zero_add]
theorem upI_succ (n : Nat) : upI (n + 1) = upI n ++ [(n : Int)] := by
  unfold upI
  rw [List.range_succ, List.map_append]
  rfl
theorem upI_len (n : Nat) : (upI n).length = n := by
  unfold upI
  rw [List.length_map, List.length_range]
theorem prod_le3 : ∀ {ws : List Int}, (∀ w ∈ ws, 1 ≤ w ∧ w ≤ 3) → ws.length ≤ 5 → prodR ws ≤ 243 := by
  have : ∀ (n : Nat) (ws : List Int), ws.length = n → (∀ w ∈ ws, 1 ≤ w ∧ w ≤ 3) → prodR ws ≤ 3 ^ n := by
    intro n
    induction n with
    | zero =>
      intro ws h _
      match ws, h with
      | [], _ => decide
    | succ n ih =>
      intro ws h k
      match ws, h with
      | w :: ws, h =>
        have h1 := ih ws (by simpa using h) fun x m => k x (List.mem_cons_of_mem _ m)
        obtain ⟨a, b⟩ := k w List.mem_cons_self
        show prodR ws * w ≤ 3 ^ (n + 1)
        have p := prodR_pos (ws := ws) fun x m => by have := k x (List.mem_cons_of_mem _ m); omega
        rw [Int.pow_succ]
        exact Int.le_trans (Int.mul_le_mul_of_nonneg_left b (by omega)) (Int.mul_le_mul_of_nonneg_right h1 (by decide))
  intro ws h hl
  have h1 := this ws.length ws rfl h
  refine Int.le_trans h1 ?_
  match ws.length, hl with
  | 0, _ => decide
  | 1, _ => decide
  | 2, _ => decide
  | 3, _ => decide
  | 4, _ => decide
  | 5, _ => decide
end Q

set_option maxRecDepth 100000
set_option maxHeartbeats 4000000
/-! Own exceptions as values: made, asked for their class, their fields read; the base's __init__ called by name. -/
namespace Q
open PySem PySem.Spec PyProof.Rows L2
/-! ### made as a value, by an own __init__ -/
def tExI (C : Addr) (sp : Sp) (ta : TA) : TE := fun σ H Q => ta σ H fun vs H1 => vs.length ≤ 1000 ∧ ∀ a, H1 a = none → sp (.ref a :: vs) (upd H1 a (exo a C none)) (fun v H2 => v = .non ∧ Q (.ref a) H2) (fun _ _ _ => False)
section
variable {X : Cx} {CX : CXT} {x : Str} {C fI : Addr} {k : Nat} {fd : FuncData} {ps : List Str} {sp : Sp} {e : Expr} {es : List Expr} {ta : TA} {p pos : Pos}
theorem exI_run {pins : List (Addr × Obj)} {σ : L2.St} {H1 : Hp} {s1 : Shared} {us : List Value} {vs : List V} {Q : VK} (T : OexC X.K C) (iC : PySem.W.findIn X.K (.ref C) "__init__" = some (some (.ref fI))) (tI : PySem.W.typeIn X.K (.ref fI) = some (.type "function"))
    (F1 : FnOk X.prog X.w X.K X.mg X.base CX k fI fd ps sp) (hr : Room (k + 1) X.A) (hb : Binds X.K fd ps []) (hx : Passes CX X (fun _ _ _ => False)) (I1 : Inv X pins σ H1 s1) (r1 : Vals vs us) (hz : vs.length ≤ 1000)
    (q1 : ∀ a, H1 a = none → sp (.ref a :: vs) (upd H1 a (exo a C none)) (fun v H2 => v = .non ∧ Q (.ref a) H2) (fun _ _ _ => False)) : wpAny (model X.prog X.w) X.A (call (.ref C) us) (EP X pins σ Q) X.xe s1 := by
  obtain ⟨nm, q, N, bs, bm, sn, sub, ab, col, dd, k0, k1, k2, k3, k5, hC, hbm⟩ := T.cls
  obtain ⟨hp, g, dr, tk, os⟩ := s1
  have hsz : hp.objs.size ≤ hp.objs.size + 1 := Nat.le_succ _
  have hn : H1 (hp.objs.size + 1) = none := I1.hok.fresh hsz
  have hq := q1 (hp.objs.size + 1) hn
  have kk : ∀ b o, hp.get? b = some o → ((hp.push (PySem.W.kdv_tup us)).push (PySem.HandSPX.excO C hp.objs.size)).get? b = some o := fun b o e => Heap.get?_push_of_some _ (Heap.get?_push_of_some _ e)
  have hget : ((hp.push (PySem.W.kdv_tup us)).push (PySem.HandSPX.excO C hp.objs.size)).get? (hp.objs.size + 1) = some (PySem.HandSPX.excO C hp.objs.size) := by heap_get
  have I2 : Inv X pins σ (upd H1 (hp.objs.size + 1) (exo (hp.objs.size + 1) C none)) ⟨(hp.push (PySem.W.kdv_tup us)).push (PySem.HandSPX.excO C hp.objs.size), g, dr, tk, os⟩ :=
    I1.laid (t' := tk) (a := hp.objs.size + 1) (o := exo (hp.objs.size + 1) C none) (h' := (hp.push (PySem.W.kdv_tup us)).push (PySem.HandSPX.excO C hp.objs.size)) kk hsz (exo_ok hget)
  have r2 : Vals (V.ref (hp.objs.size + 1) :: vs) (Value.ref (hp.objs.size + 1) :: us) := .cons rfl r1
  have hl : (Value.ref (hp.objs.size + 1) :: us).length = ps.length := by
    have e := r2.length
    rw [F1.len _ _ _ _ hq] at e
    exact e.symm
  have hus : us.length ≤ sizeLine := by
    rw [← Paired.length r1, sizeLine_eq]
    omega
  have bb := hb _ (Value.ref (hp.objs.size + 1) :: us) I2.kIn (by rw [List.append_nil]; exact hl)
  rw [List.append_nil] at bb
  refine wpAny_call (PySem.HandSPX.call_own F.excBase_ValueError (fun Y => PySem.HandSPX.refsVE_contains Y bm hbm) (I1.kIn _ _ hC) (PySem.W.looks_findIn I1.kIn iC) (fun self => PySem.W.bind_fn I1.kIn self tI) hus
    (codeAny_mono (F1.run _ X.stack _ _ ⟨Value.ref (hp.objs.size + 1) :: us, []⟩ (Value.ref (hp.objs.size + 1) :: us) _ _ (fun _ _ _ => False) (hr.make C us []) (I2.env0.make C us []) bb r2 hq) fun r s' hq' => ?_))
  cases r with
  | error er => exact hx pins σ _ _ er s' I2 hq'
  | ok fl =>
    cases fl with
    | ret u =>
      obtain ⟨v, H', I3, rv, ev, q3⟩ := I2.after hq'
      subst ev
      exact ⟨rv, V.ref (hp.objs.size + 1), H', I3, rfl, q3⟩
    | next => exact False.elim hq'
    | brk => exact False.elim hq'
    | cont => exact False.elim hq'
theorem pe_exI (T : OexC X.K C) (iC : PySem.W.findIn X.K (.ref C) "__init__" = some (some (.ref fI))) (tI : PySem.W.typeIn X.K (.ref fI) = some (.type "function"))
    (F1 : FnOk X.prog X.w X.K X.mg X.base CX k fI fd ps sp) (hr : Room (k + 1) X.A) (hb : Binds X.K fd ps []) (hx : Passes CX X (fun _ _ _ => False)) (hm : X.mg x = some (.ref C)) (ha : PA X (e :: es) ta) (hg : Gl X x := by rfl)
    (hdb : (x == ("__debug__" : Str)) = false := by decide) (he : starEach (e :: es) X.env = (false, eval e X.env) :: starEach es X.env := by rfl) (hpl : (backTo pos (starEach es X.env)).any (·.1) = false := by rfl) :
    PE X (.Call (.Name x p) (e :: es) [] pos) (tExI C sp ta) := by
  refine ⟨fun pins s σ H Q I h => wpAny_Call_Name_kw (ld_glob I hg hm ?_ hdb)⟩
  refine PySem.W.callWith_K (h₀ := X.base) I.ok.mod.kin T.kC (thn (ha.run pos pins s σ H _ I h) fun us s1 ⟨vs, H1, I1, r1, hz, q1⟩ => ⟨I1.kIn, ?_⟩) he hpl
  exact exI_run T iC tI F1 hr hb hx I1 r1 hz q1
theorem pe_exI0 (T : OexC X.K C) (iC : PySem.W.findIn X.K (.ref C) "__init__" = some (some (.ref fI))) (tI : PySem.W.typeIn X.K (.ref fI) = some (.type "function"))
    (F1 : FnOk X.prog X.w X.K X.mg X.base CX k fI fd ps sp) (hr : Room (k + 1) X.A) (hb : Binds X.K fd ps []) (hx : Passes CX X (fun _ _ _ => False)) (hm : X.mg x = some (.ref C)) (hg : Gl X x := by rfl)
    (hdb : (x == ("__debug__" : Str)) = false := by decide) : PE X (.Call (.Name x p) [] [] pos) (tExI C sp tNil) := by
  refine ⟨fun pins s σ H Q I h => wpAny_Call_Name_kw (ld_glob I hg hm ?_ hdb)⟩
  refine PySem.W.callWith_K0 I.kIn T.kC ?_
  exact exI_run (us := []) (vs := []) T iC tI F1 hr hb hx I .nil h.1 h.2
/-- X(), X an own class without own __init__ -/
def tEx0 (C : Addr) : TE := fun _ H Q => ∀ a, H a = none → Q (.ref a) (upd H a (exo a C none))
theorem pe_ex0 (q : PySem.W.excIn X.K C He.veBase "ValueError.__new__" = true) (gC : X.mg x = some (.ref C)) (kC : PySem.W.keepIn X.K (.ref C) = true) (hg : Gl X x := by rfl)
    (hdb : (x == ("__debug__" : Str)) = false := by decide) : PE X (.Call (.Name x p) [] [] pos) (tEx0 C) := by
  refine ⟨fun pins s σ H Q I h => wpAny_Call_Name_kw (ld_glob I hg gC ?_ hdb)⟩
  refine PySem.W.callWith_K0 I.kIn kC ?_
  show wpAny _ _ (call (.ref C) []) _ _ _
  obtain ⟨bm, N, nm, qn, bs, hdct, sn, sub, ab, col, dd, k0, k1, k2, k3, k5, mN, hC, hN, hni, T⟩ := exc_obj I.kIn q
  refine wpAny_call_exc_subT PySem.F.excBase_ValueError T hC hN hni (fun h' a hm => ?_) (by show 0 ≤ sizeLine; exact Nat.zero_le _)
  obtain ⟨t, ht, _, _⟩ := hm.there
  have hn : H a = none := I.hok.gone hm.new
  exact ⟨.ref a, upd H a (exo a C none), I.laidN hm.keeps hm.new hn (exo_ok ht), rfl, h a hn⟩
end
/-! ### what it is, what it holds -/
/-- the exception of the class at C stands at a, its fields fs -/
def ExAt (H : Hp) (a C : Addr) (fs : List (Str × V)) : Prop := (H a = some (exo a C none) ∧ fs = []) ∨ ∃ d, H a = some (exo a C (some d)) ∧ H d = some (exd d fs)
theorem ExAt.same {H H' : Hp} {a C : Addr} {fs : List (Str × V)} (h : ExAt H a C fs) (e : Same H H') : ExAt H' a C fs := h.elim (fun z => .inl ⟨e _ _ z.1, z.2⟩) fun ⟨d, z1, z2⟩ => .inr ⟨d, e _ _ z1, e _ _ z2⟩
theorem ExAt.kb {H H' : Hp} {a b c C : Addr} {n : Int} {fs : List (Str × V)} (h : ExAt H a C fs) (B : BagAt H b c n) (e : Kb b H H') : ExAt H' a C fs := by
  have nb : ∀ {x : Addr} {φ : Heap → Prop}, H x = some (.ext φ) → x ≠ b := fun z q => by
    obtain ⟨ns, p, r, k, m, h', _⟩ := B
    rw [q, h'] at z
    cases z
  rcases h with ⟨z1, z2⟩ | ⟨d, z1, z2⟩
  · exact .inl ⟨e _ _ (nb z1) z1, z2⟩
  · exact .inr ⟨d, e _ _ (nb z1) z1, e _ _ (nb z2) z2⟩
theorem ExAt.inst {X : Cx} {pins : List (Addr × Obj)} {σ : L2.St} {H : Hp} {s : Shared} {a C : Addr} {fs : List (Str × V)} (I : Inv X pins σ H s) (h : ExAt H a C fs) : ∃ oe od, PySem.W.InstAt s.heap a oe C od := by
  rcases h with ⟨z, -⟩ | ⟨d, z1, z2⟩
  · obtain ⟨t1, ho⟩ := exo_at I.hok z
    exact ⟨_, none, ho, rfl, rfl, trivial⟩
  · obtain ⟨t1, ho⟩ := exo_at I.hok z1
    obtain ⟨mA, hns, -⟩ := exd_at I.hok z2
    obtain ⟨od, hd, -⟩ := lookIn_ns hns
    exact ⟨_, some od, ho, rfl, rfl, hd⟩
/-- isinstance(e, c) -/
def rIsV (K : PySem.W.Frag) : List V → Hp → VK → Prop := fun xs H Q => ∃ (a D : Addr) (fs : List (Str × V)) (c : V) (cv : Value) (b : Bool), xs = [.ref a, c] ∧ ExAt H a D fs ∧ ExcC K D ∧ (∀ u, RelV c u → u = cv) ∧ PySem.W.kitOne K (.ref D) cv = some b ∧ Q (.bl b) H
theorem call_isV {X : Cx} : CallR X (.builtin "isinstance") (rIsV X.K) := by
  intro pins s σ H xs us Q I r h
  obtain ⟨a, D, fs, c, cv, b, rfl, ex, T, hcv, e, q⟩ := h
  obtain ⟨u1, u2, rfl, r1, r2⟩ := vals2 r
  obtain rfl : u1 = Value.ref a := r1
  obtain rfl := hcv _ r2
  obtain ⟨oe, od, J⟩ := ex.inst I
  exact PySem.W.kia_one (PySem.W.kitx_exc (od := od) (by obtain ⟨cd, hc, _⟩ := PySem.W.any_some T.hd; rw [hc]; rfl) T.hg T.hk T.hs T.ha T.hn T.ht T.hm) I.kIn J e (fun z => nomatch z) fun tk => ⟨.bl b, H, I.kept (t' := tk) fun _ _ z => z, rfl, q⟩
/-- e.f -/
def tXV (K : PySem.W.Frag) (f : Str) (te : TE) : TE := fun σ H Q => te σ H fun x H1 => ∃ (a C : Addr) (fs : List (Str × V)) (v : V), x = .ref a ∧ XfC K C ∧ PySem.W.findIn K (.ref C) f = some none ∧ ExAt H1 a C fs ∧ fs.lookup f = some v ∧ Q v H1
theorem pe_xv {X : Cx} {e : Expr} {te : TE} {pos : Pos} {n : Str} (he : PE X e te) (hb : attributeBase e n X.env (eval e X.env) = eval e X.env := by rfl) : PE X (.Attribute e n pos) (tXV X.K n te) := by
  refine ⟨fun pins s σ H Q I h => ?_⟩
  refine attr_of hb (thn (he.run pins s σ H _ I h) fun u s1 ⟨x, H1, I1, rx, a, C, fs, v, ex, T, hno, at_, l, q⟩ => ?_)
  subst ex
  obtain rfl : u = Value.ref a := rx
  rcases at_ with ⟨-, rfl⟩ | ⟨d, z1, z2⟩
  · cases l
  · obtain ⟨t1, ho⟩ := exo_at I1.hok z1
    obtain ⟨mA, hns, hr⟩ := exd_at I1.hok z2
    obtain ⟨od, hd, hl⟩ := lookIn_ns hns
    obtain ⟨u, hu, ru⟩ := RelO.some_of (v := v) (o := mA n) (by rw [← l]; exact hr n)
    have J : PySem.W.InstAt s1.heap a ({ cls := .ref C, dict := some d, data := .fields #[.ref t1, .none, .none, .none, .bool false, .none] } : Obj) C (some od) := ⟨ho, rfl, rfl, hd⟩
    exact HandSPX.exc_get I1.kIn J T.ga T.gg T.exC (PySem.W.findObj_own T.hdC hno rfl (by rw [hl, hu])) (handed_of ru) ⟨v, H1, I1.tok _, ru, q⟩
/-! ### Base.__init__(self, ..), Base an own class that leaves it to ValueError -/
structure FBase (K : PySem.W.Frag) (B : Addr) : Prop where
  rd : PySem.W.readsIn K B (.type "type") = true
  sg : PySem.W.specialIn K (.ref B) "__getattribute__" = some (some (.builtin "type.__getattribute__"))
  fv : PySem.W.findCls K (.ref B) (.type "type") "__init__" = some (.val (.builtin "ValueError.__init__"))
def fbaseB (K : PySem.W.Frag) (B : Addr) : Bool := PySem.W.readsIn K B (.type "type") && (decide (PySem.W.specialIn K (.ref B) "__getattribute__" = some (some (.builtin "type.__getattribute__"))) && (match PySem.W.findCls K (.ref B) (.type "type") "__init__" with
  | some (.val v) => decide (v = .builtin "ValueError.__init__")
  | _ => false))
theorem fbaseB_ok {K : PySem.W.Frag} {B : Addr} (h : fbaseB K B = true) : FBase K B := by
  obtain ⟨h1, h⟩ := He.ba h
  obtain ⟨h2, h3⟩ := He.ba h
  refine ⟨h1, of_decide_eq_true h2, ?_⟩
  split at h3
  · rename_i v e
    rw [e, of_decide_eq_true h3]
  · cases h3
section
variable {X : Cx} {x : Str} {B : Addr} {e : Expr} {es : List Expr} {ta : TA} {p1 p2 pos : Pos}
theorem pe_bInit {pl : Sem Bool} (T : FBase X.K B) (hm : X.mg x = some (.ref B)) (ha : PA X (e :: es) ta) (hg : Gl X x := by rfl) (hdb : (x == ("__debug__" : Str)) = false := by decide)
    (hc : eval (.Call (.Attribute (.Name x p1) "__init__" p2) (e :: es) [] pos) X.env = (do
      let ov ← eval (.Name x p1) X.env
      standAt p2.atName
      let (f, first) ← holding [ov] (getMethod ov "__init__" pl)
      callWith pos f first (backTo pos (starEach (e :: es) X.env)) (backToKw pos (keywordEach [] X.env))) := by rfl)
    (he : starEach (e :: es) X.env = (false, eval e X.env) :: starEach es X.env := by rfl) (hpl : (backTo pos (starEach es X.env)).any (·.1) = false := by rfl) :
    PE X (.Call (.Attribute (.Name x p1) "__init__" p2) (e :: es) [] pos) (tVeI X.K ta) := by
  refine ⟨fun pins s σ H Q I h => ?_⟩
  refine PySem.W.methodCall_KW (ld_glob I hg hm ?_ hdb) hc
  refine PySem.W.method_cls I.kIn T.sg (PySem.W.cls_value I.kIn T.rd T.fv (by decide +kernel) ?_)
  show wpAny _ _ (callWith pos (Value.builtin "ValueError.__init__") [] (backTo pos (starEach (e :: es) X.env)) []) _ _ _
  refine PyProof.Rows.callWith_method1 (thn (ha.run pos pins _ σ H _ (I.tok _) h) fun us s1 ⟨vs, H1, I1, r1, a, C, ws, ev, hl, T, ea, q⟩ => ?_) he hpl
  subst ev
  cases r1 with
  | @cons _ u0 _ ur ra rw' =>
    obtain rfl : u0 = Value.ref a := ra
    have hlen : ur.length ≤ sizeLine := by
      rw [← Paired.length rw', sizeLine_eq]
      omega
    exact oinit_ok T I1 ea hlen fun s' J => ⟨.non, H1, J, rfl, q⟩
end
end Q

set_option maxRecDepth 100000
set_option maxHeartbeats 4000000
namespace K99
open PySem PySem.Spec PyProof.Rows L2 Q
def topS (i : Nat) : Stmt := PySem.Challenge.pw_fewfetches_k99_errors_stand_apart.main.body.getD i (.Pass ⟨0, 0, 0, 0⟩)
abbrev FnP (K : PySem.W.Frag) (x qual : Str) (st : Stmt) (dvs : List V) (f : Addr) (fd : FuncData) : Prop := FunD K x qual (defArgs st) (defBody st) (defScope st) dvs [] f fd
/-- the 45 classes -/
def errN : List Str := [("BadWidths" : Str), ("BadRow" : Str), ("BadBox" : Str), ("UnlikeBoxes" : Str), ("BadColumn" : Str), ("BadData" : Str), ("BadText" : Str), ("BadPage" : Str), ("BadIndex" : Str), ("BadLayer" : Str), ("NoIndex" : Str), ("BadTable" : Str), ("NoLayer" : Str), ("BadStore" : Str), ("NoTable" : Str), ("BadChange" : Str), ("BadKinds" : Str), ("LayersFull" : Str), ("BadNumber" : Str), ("NotBefore" : Str), ("BadQuestion" : Str), ("Again" : Str), ("Foreign" : Str), ("NoPage" : Str), ("NoFactor" : Str), ("NotUniform" : Str), ("NotDecided" : Str), ("Undetermined" : Str), ("BadPaper" : Str), ("NotDone" : Str), ("Unasked" : Str), ("TooMany" : Str), ("NotEnough" : Str), ("KnownRow" : Str), ("BadFoe" : Str), ("BadPolicy" : Str), ("BadDead" : Str), ("NoSpread" : Str), ("NotInDoubt" : Str), ("BadDeed" : Str), ("NotNewest" : Str), ("NothingCut" : Str), ("Unfit" : Str), ("NotKnown" : Str), ("BadStory" : Str)]
abbrev ga (K : PySem.W.Frag) (k : Nat) : Addr := He.ga K (errN.getD k "")
theorem all_lt {n : Nat} {p : Nat → Bool} (h : (List.range n).all p = true) (k : Nat) (hk : k < n) : p k = true := List.all_eq_true.mp h k (List.mem_range.mpr hk)
/-- one class as it stands: its name, its line of bases -/
def oneB (K : PySem.W.Frag) (k : Nat) : Bool := match K.lookup (ga K k) with
  | some ⟨.type "type", _, .cls cd, _⟩ => decide (cd.name = errN.getD k "") && decide (cd.mro = [.ref (ga K k), .ref (He.ga K "FetchError"), .type "ValueError", .type "Exception", .type "BaseException", .type "object"])
  | _ => false
def feB (K : PySem.W.Frag) : Bool := match K.lookup (He.ga K "FetchError") with
  | some ⟨.type "type", _, .cls cd, _⟩ => decide (cd.name = "FetchError")
  | _ => false
def oneAllB (K : PySem.W.Frag) : Bool := feB K && (List.range 45).all (oneB K)
theorem names_apart : (List.range 45).all (fun k => (List.range 45).all fun j => (errN.getD k "" == errN.getD j "") == (k == j)) = true := by decide +kernel
theorem names_fe : (List.range 45).all (fun k => !(errN.getD k "" == ("FetchError" : Str))) = true := by decide +kernel
theorem one_is {K : PySem.W.Frag} {k : Nat} (h : oneB K k = true) : ∃ cd, PySem.W.clsIn K (ga K k) = some cd ∧ PySem.W.typeIn K (.ref (ga K k)) = some (.type "type") ∧ cd.name = errN.getD k "" ∧ cd.mro = [.ref (ga K k), .ref (He.ga K "FetchError"), .type "ValueError", .type "Exception", .type "BaseException", .type "object"] := by
  unfold oneB at h
  split at h
  · rename_i dd cd sl e
    obtain ⟨h1, h2⟩ := He.ba h
    exact ⟨cd, by unfold PySem.W.clsIn; rw [e], by show (K.lookup (ga K k)).map (·.cls) = _; rw [e]; rfl, of_decide_eq_true h1, of_decide_eq_true h2⟩
  · cases h
theorem fe_is {K : PySem.W.Frag} (h : feB K = true) : ∃ cd, PySem.W.clsIn K (He.ga K "FetchError") = some cd ∧ PySem.W.typeIn K (.ref (He.ga K "FetchError")) = some (.type "type") ∧ cd.name = "FetchError" := by
  unfold feB at h
  split at h
  · rename_i dd cd sl e
    exact ⟨cd, by unfold PySem.W.clsIn; rw [e], by show (K.lookup (He.ga K "FetchError")).map (·.cls) = _; rw [e]; rfl, of_decide_eq_true h⟩
  · cases h
theorem one_ne {K : PySem.W.Frag} (h : oneAllB K = true) {k : Nat} (hk : k < 45) : ga K k ≠ He.ga K "FetchError" := fun z => by
  obtain ⟨h1, h2⟩ := He.ba h
  obtain ⟨cd, e1, _, e2, _⟩ := one_is (all_lt h2 k hk)
  obtain ⟨cd', f1, _, f2⟩ := fe_is h1
  rw [z, f1] at e1
  cases e1
  have n := all_lt names_fe k hk
  rw [← e2, f2] at n
  cases n
theorem one_inj {K : PySem.W.Frag} (h : oneAllB K = true) {k j : Nat} (hk : k < 45) (hj : j < 45) (z : ga K k = ga K j) : k = j := by
  obtain ⟨h1, h2⟩ := He.ba h
  obtain ⟨cd, e1, _, e2, _⟩ := one_is (all_lt h2 k hk)
  obtain ⟨cd', f1, _, f2, _⟩ := one_is (all_lt h2 j hj)
  rw [z, f1] at e1
  cases e1
  have n := all_lt (all_lt names_apart k hk) j hj
  rw [← e2, ← f2, beq_self_eq_true] at n
  exact beq_iff_eq.mp (beq_iff_eq.mp n).symm
theorem kitAllB_ok {K : PySem.W.Frag} (h : oneAllB K = true) (k j : Nat) (hk : k < 45) (hj : j < 45) : PySem.W.kitOne K (.ref (ga K k)) (.ref (ga K j)) = some (k == j) := by
  by_cases e : k = j
  · subst e
    unfold PySem.W.kitOne
    rw [if_pos (beq_self_eq_true _), beq_self_eq_true]
  · obtain ⟨h1, h2⟩ := He.ba h
    obtain ⟨cd, e1, _, _, e3⟩ := one_is (all_lt h2 k hk)
    obtain ⟨cd', f1, f2, _, _⟩ := one_is (all_lt h2 j hj)
    have n1 : ga K k ≠ ga K j := fun z => e (one_inj h hk hj z)
    have n2 := one_ne h hj
    unfold PySem.W.kitOne PySem.W.kitCls
    rw [if_neg (fun z => n1 (Value.ref.inj (beq_iff_eq.mp z)))]
    show (if ((PySem.W.clsIn K (ga K j)).isSome && PySem.W.typeIn K (.ref (ga K j)) == some (.type "type")) = true then PySem.W.mroIn K (ga K k) (.ref (ga K j)) else none) = _
    rw [f1, f2, if_pos (by rfl)]
    unfold PySem.W.mroIn
    rw [e1, Option.bind_some, e3]
    have c1 : (Value.ref (ga K j) == Value.ref (ga K k)) = false := beq_eq_false_iff_ne.mpr fun z => n1 (Value.ref.inj z).symm
    have c2 : (Value.ref (ga K j) == Value.ref (He.ga K "FetchError")) = false := beq_eq_false_iff_ne.mpr fun z => n2 (Value.ref.inj z)
    rw [beq_eq_false_iff_ne.mpr e]
    simp only [List.isEmpty_cons, Bool.false_eq_true, if_false, List.contains_cons, c1, c2, Bool.false_or]
    rfl
theorem kitBB_ok {K : PySem.W.Frag} (h : oneAllB K = true) (k : Nat) (hk : k < 45) : PySem.W.kitOne K (.ref (ga K k)) (.ref (He.ga K "FetchError")) = some true ∧ PySem.W.kitOne K (.ref (ga K k)) (.type "ValueError") = some true := by
  obtain ⟨h1, h2⟩ := He.ba h
  obtain ⟨cd, e1, _, _, e3⟩ := one_is (all_lt h2 k hk)
  obtain ⟨cd', f1, f2, _⟩ := fe_is h1
  have n2 := one_ne h hk
  constructor
  · unfold PySem.W.kitOne PySem.W.kitCls
    rw [if_neg (fun z => n2 (Value.ref.inj (beq_iff_eq.mp z)))]
    show (if ((PySem.W.clsIn K (He.ga K "FetchError")).isSome && PySem.W.typeIn K (.ref (He.ga K "FetchError")) == some (.type "type")) = true then PySem.W.mroIn K (ga K k) (.ref (He.ga K "FetchError")) else none) = _
    rw [f1, f2, if_pos (by rfl)]
    unfold PySem.W.mroIn
    rw [e1, Option.bind_some, e3]
    simp only [List.isEmpty_cons, Bool.false_eq_true, if_false, List.contains_cons, beq_self_eq_true, Bool.true_or, Bool.or_true]
  · unfold PySem.W.kitOne PySem.W.kitCls
    rw [if_neg (fun z => by have z' := beq_iff_eq.mp z; cases z')]
    show (if PySem.W.kitMeta "ValueError" = true then PySem.W.mroIn K (ga K k) (.type "ValueError") else none) = _
    rw [if_pos (by decide +kernel)]
    unfold PySem.W.mroIn
    rw [e1, Option.bind_some, e3]
    simp only [List.isEmpty_cons, Bool.false_eq_true, if_false, List.contains_cons, beq_self_eq_true, Bool.true_or, Bool.or_true]
abbrev s_BadRow___init__ : Stmt := inClass (topS 3) 0
theorem sc_BadRow___init__ : FnScope ["self", "row"] ["self", "row"] (defScope s_BadRow___init__) := ⟨rfl, rfl, rfl, by decide +kernel, rfl, by decide +kernel, by decide +kernel⟩
abbrev s_BadBox___init__ : Stmt := inClass (topS 4) 0
theorem sc_BadBox___init__ : FnScope ["self", "what", "at"] ["self", "what", "at"] (defScope s_BadBox___init__) := ⟨rfl, rfl, rfl, by decide +kernel, rfl, by decide +kernel, by decide +kernel⟩
abbrev s_BadColumn___init__ : Stmt := inClass (topS 6) 0
theorem sc_BadColumn___init__ : FnScope ["self", "column"] ["self", "column"] (defScope s_BadColumn___init__) := ⟨rfl, rfl, rfl, by decide +kernel, rfl, by decide +kernel, by decide +kernel⟩
abbrev s_BadText___init__ : Stmt := inClass (topS 8) 0
theorem sc_BadText___init__ : FnScope ["self", "place"] ["self", "place"] (defScope s_BadText___init__) := ⟨rfl, rfl, rfl, by decide +kernel, rfl, by decide +kernel, by decide +kernel⟩
abbrev s_BadPage___init__ : Stmt := inClass (topS 9) 0
theorem sc_BadPage___init__ : FnScope ["self", "what"] ["self", "what"] (defScope s_BadPage___init__) := ⟨rfl, rfl, rfl, by decide +kernel, rfl, by decide +kernel, by decide +kernel⟩
abbrev s_BadIndex___init__ : Stmt := inClass (topS 10) 0
theorem sc_BadIndex___init__ : FnScope ["self", "what"] ["self", "what"] (defScope s_BadIndex___init__) := ⟨rfl, rfl, rfl, by decide +kernel, rfl, by decide +kernel, by decide +kernel⟩
abbrev s_BadLayer___init__ : Stmt := inClass (topS 11) 0
theorem sc_BadLayer___init__ : FnScope ["self", "what", "at"] ["self", "what", "at"] (defScope s_BadLayer___init__) := ⟨rfl, rfl, rfl, by decide +kernel, rfl, by decide +kernel, by decide +kernel⟩
abbrev s_NoIndex___init__ : Stmt := inClass (topS 12) 0
theorem sc_NoIndex___init__ : FnScope ["self", "index"] ["self", "index"] (defScope s_NoIndex___init__) := ⟨rfl, rfl, rfl, by decide +kernel, rfl, by decide +kernel, by decide +kernel⟩
abbrev s_BadTable___init__ : Stmt := inClass (topS 13) 0
theorem sc_BadTable___init__ : FnScope ["self", "what", "at"] ["self", "what", "at"] (defScope s_BadTable___init__) := ⟨rfl, rfl, rfl, by decide +kernel, rfl, by decide +kernel, by decide +kernel⟩
abbrev s_NoLayer___init__ : Stmt := inClass (topS 14) 0
theorem sc_NoLayer___init__ : FnScope ["self", "layer"] ["self", "layer"] (defScope s_NoLayer___init__) := ⟨rfl, rfl, rfl, by decide +kernel, rfl, by decide +kernel, by decide +kernel⟩
abbrev s_BadStore___init__ : Stmt := inClass (topS 15) 0
theorem sc_BadStore___init__ : FnScope ["self", "what", "at"] ["self", "what", "at"] (defScope s_BadStore___init__) := ⟨rfl, rfl, rfl, by decide +kernel, rfl, by decide +kernel, by decide +kernel⟩
abbrev s_NoTable___init__ : Stmt := inClass (topS 16) 0
theorem sc_NoTable___init__ : FnScope ["self", "name"] ["self", "name"] (defScope s_NoTable___init__) := ⟨rfl, rfl, rfl, by decide +kernel, rfl, by decide +kernel, by decide +kernel⟩
abbrev s_BadChange___init__ : Stmt := inClass (topS 17) 0
theorem sc_BadChange___init__ : FnScope ["self", "at"] ["self", "at"] (defScope s_BadChange___init__) := ⟨rfl, rfl, rfl, by decide +kernel, rfl, by decide +kernel, by decide +kernel⟩
abbrev s_BadKinds___init__ : Stmt := inClass (topS 18) 0
theorem sc_BadKinds___init__ : FnScope ["self"] ["self"] (defScope s_BadKinds___init__) := ⟨rfl, rfl, rfl, by decide +kernel, rfl, by decide +kernel, by decide +kernel⟩
abbrev s_LayersFull___init__ : Stmt := inClass (topS 19) 0
theorem sc_LayersFull___init__ : FnScope ["self", "name"] ["self", "name"] (defScope s_LayersFull___init__) := ⟨rfl, rfl, rfl, by decide +kernel, rfl, by decide +kernel, by decide +kernel⟩
abbrev s_BadNumber___init__ : Stmt := inClass (topS 20) 0
theorem sc_BadNumber___init__ : FnScope ["self", "number"] ["self", "number"] (defScope s_BadNumber___init__) := ⟨rfl, rfl, rfl, by decide +kernel, rfl, by decide +kernel, by decide +kernel⟩
abbrev s_NotBefore___init__ : Stmt := inClass (topS 21) 0
theorem sc_NotBefore___init__ : FnScope ["self"] ["self"] (defScope s_NotBefore___init__) := ⟨rfl, rfl, rfl, by decide +kernel, rfl, by decide +kernel, by decide +kernel⟩
abbrev s_BadQuestion___init__ : Stmt := inClass (topS 22) 0
theorem sc_BadQuestion___init__ : FnScope ["self", "what", "at"] ["self", "what", "at"] (defScope s_BadQuestion___init__) := ⟨rfl, rfl, rfl, by decide +kernel, rfl, by decide +kernel, by decide +kernel⟩
abbrev s_Again___init__ : Stmt := inClass (topS 23) 0
theorem sc_Again___init__ : FnScope ["self"] ["self"] (defScope s_Again___init__) := ⟨rfl, rfl, rfl, by decide +kernel, rfl, by decide +kernel, by decide +kernel⟩
abbrev s_Foreign___init__ : Stmt := inClass (topS 24) 0
theorem sc_Foreign___init__ : FnScope ["self"] ["self"] (defScope s_Foreign___init__) := ⟨rfl, rfl, rfl, by decide +kernel, rfl, by decide +kernel, by decide +kernel⟩
abbrev s_NoPage___init__ : Stmt := inClass (topS 25) 0
theorem sc_NoPage___init__ : FnScope ["self", "name"] ["self", "name"] (defScope s_NoPage___init__) := ⟨rfl, rfl, rfl, by decide +kernel, rfl, by decide +kernel, by decide +kernel⟩
abbrev s_NoFactor___init__ : Stmt := inClass (topS 26) 0
theorem sc_NoFactor___init__ : FnScope ["self", "what"] ["self", "what"] (defScope s_NoFactor___init__) := ⟨rfl, rfl, rfl, by decide +kernel, rfl, by decide +kernel, by decide +kernel⟩
abbrev s_NotUniform___init__ : Stmt := inClass (topS 27) 0
theorem sc_NotUniform___init__ : FnScope ["self"] ["self"] (defScope s_NotUniform___init__) := ⟨rfl, rfl, rfl, by decide +kernel, rfl, by decide +kernel, by decide +kernel⟩
abbrev s_NotDecided___init__ : Stmt := inClass (topS 28) 0
theorem sc_NotDecided___init__ : FnScope ["self"] ["self"] (defScope s_NotDecided___init__) := ⟨rfl, rfl, rfl, by decide +kernel, rfl, by decide +kernel, by decide +kernel⟩
abbrev s_Undetermined___init__ : Stmt := inClass (topS 29) 0
theorem sc_Undetermined___init__ : FnScope ["self"] ["self"] (defScope s_Undetermined___init__) := ⟨rfl, rfl, rfl, by decide +kernel, rfl, by decide +kernel, by decide +kernel⟩
abbrev s_BadPaper___init__ : Stmt := inClass (topS 30) 0
theorem sc_BadPaper___init__ : FnScope ["self", "line", "what"] ["self", "line", "what"] (defScope s_BadPaper___init__) := ⟨rfl, rfl, rfl, by decide +kernel, rfl, by decide +kernel, by decide +kernel⟩
abbrev s_NotDone___init__ : Stmt := inClass (topS 31) 0
theorem sc_NotDone___init__ : FnScope ["self"] ["self"] (defScope s_NotDone___init__) := ⟨rfl, rfl, rfl, by decide +kernel, rfl, by decide +kernel, by decide +kernel⟩
abbrev s_Unasked___init__ : Stmt := inClass (topS 32) 0
theorem sc_Unasked___init__ : FnScope ["self"] ["self"] (defScope s_Unasked___init__) := ⟨rfl, rfl, rfl, by decide +kernel, rfl, by decide +kernel, by decide +kernel⟩
abbrev s_TooMany___init__ : Stmt := inClass (topS 33) 0
theorem sc_TooMany___init__ : FnScope ["self", "most"] ["self", "most"] (defScope s_TooMany___init__) := ⟨rfl, rfl, rfl, by decide +kernel, rfl, by decide +kernel, by decide +kernel⟩
abbrev s_NotEnough___init__ : Stmt := inClass (topS 34) 0
theorem sc_NotEnough___init__ : FnScope ["self"] ["self"] (defScope s_NotEnough___init__) := ⟨rfl, rfl, rfl, by decide +kernel, rfl, by decide +kernel, by decide +kernel⟩
abbrev s_KnownRow___init__ : Stmt := inClass (topS 35) 0
theorem sc_KnownRow___init__ : FnScope ["self", "name", "row"] ["self", "name", "row"] (defScope s_KnownRow___init__) := ⟨rfl, rfl, rfl, by decide +kernel, rfl, by decide +kernel, by decide +kernel⟩
abbrev s_BadFoe___init__ : Stmt := inClass (topS 36) 0
theorem sc_BadFoe___init__ : FnScope ["self", "what"] ["self", "what"] (defScope s_BadFoe___init__) := ⟨rfl, rfl, rfl, by decide +kernel, rfl, by decide +kernel, by decide +kernel⟩
abbrev s_BadPolicy___init__ : Stmt := inClass (topS 37) 0
theorem sc_BadPolicy___init__ : FnScope ["self"] ["self"] (defScope s_BadPolicy___init__) := ⟨rfl, rfl, rfl, by decide +kernel, rfl, by decide +kernel, by decide +kernel⟩
abbrev s_BadDead___init__ : Stmt := inClass (topS 38) 0
theorem sc_BadDead___init__ : FnScope ["self", "at"] ["self", "at"] (defScope s_BadDead___init__) := ⟨rfl, rfl, rfl, by decide +kernel, rfl, by decide +kernel, by decide +kernel⟩
abbrev s_NoSpread___init__ : Stmt := inClass (topS 39) 0
theorem sc_NoSpread___init__ : FnScope ["self", "what"] ["self", "what"] (defScope s_NoSpread___init__) := ⟨rfl, rfl, rfl, by decide +kernel, rfl, by decide +kernel, by decide +kernel⟩
abbrev s_NotInDoubt___init__ : Stmt := inClass (topS 40) 0
theorem sc_NotInDoubt___init__ : FnScope ["self", "point"] ["self", "point"] (defScope s_NotInDoubt___init__) := ⟨rfl, rfl, rfl, by decide +kernel, rfl, by decide +kernel, by decide +kernel⟩
abbrev s_BadDeed___init__ : Stmt := inClass (topS 41) 0
theorem sc_BadDeed___init__ : FnScope ["self"] ["self"] (defScope s_BadDeed___init__) := ⟨rfl, rfl, rfl, by decide +kernel, rfl, by decide +kernel, by decide +kernel⟩
abbrev s_NotNewest___init__ : Stmt := inClass (topS 42) 0
theorem sc_NotNewest___init__ : FnScope ["self"] ["self"] (defScope s_NotNewest___init__) := ⟨rfl, rfl, rfl, by decide +kernel, rfl, by decide +kernel, by decide +kernel⟩
abbrev s_NothingCut___init__ : Stmt := inClass (topS 43) 0
theorem sc_NothingCut___init__ : FnScope ["self"] ["self"] (defScope s_NothingCut___init__) := ⟨rfl, rfl, rfl, by decide +kernel, rfl, by decide +kernel, by decide +kernel⟩
abbrev s_Unfit___init__ : Stmt := inClass (topS 44) 0
theorem sc_Unfit___init__ : FnScope ["self", "name"] ["self", "name"] (defScope s_Unfit___init__) := ⟨rfl, rfl, rfl, by decide +kernel, rfl, by decide +kernel, by decide +kernel⟩
abbrev s_NotKnown___init__ : Stmt := inClass (topS 45) 0
theorem sc_NotKnown___init__ : FnScope ["self", "at"] ["self", "at"] (defScope s_NotKnown___init__) := ⟨rfl, rfl, rfl, by decide +kernel, rfl, by decide +kernel, by decide +kernel⟩
abbrev s_BadStory___init__ : Stmt := inClass (topS 46) 0
theorem sc_BadStory___init__ : FnScope ["self", "line"] ["self", "line"] (defScope s_BadStory___init__) := ⟨rfl, rfl, rfl, by decide +kernel, rfl, by decide +kernel, by decide +kernel⟩
abbrev s__law_bag : Stmt := topS 48
theorem sc__law_bag : FnScope ["script", "cell"] ["script"] (defScope s__law_bag) := ⟨rfl, rfl, rfl, by decide +kernel, rfl, by decide +kernel, by decide +kernel⟩
abbrev s__law_draw : Stmt := topS 49
theorem sc__law_draw : FnScope ["bag", "limit", "digit", "cell", "mixed", "twice"] ["bag", "limit"] (defScope s__law_draw) := ⟨rfl, rfl, rfl, by decide +kernel, rfl, by decide +kernel, by decide +kernel⟩
abbrev s__law_classes : Stmt := topS 50
theorem sc__law_classes : FnScope ["e"] ["e"] (defScope s__law_classes) := ⟨rfl, rfl, rfl, by decide +kernel, rfl, by decide +kernel, by decide +kernel⟩
abbrev s_law : Stmt := topS 51
theorem sc_law : FnScope ["script", "bag", "k", "word", "name", "at", "row", "page", "errors", "e", "told", "j", "right"] ["script"] (defScope s_law) := ⟨rfl, rfl, rfl, by decide +kernel, rfl, by decide +kernel, by decide +kernel⟩
/-! ### what the top has written -/
structure Tx (K : PySem.W.Frag) (mg : Str → Option Value) : Prop where
  n_ValueError : mg "ValueError" = none
  n_abs : mg "abs" = none
  n_all : mg "all" = none
  n_int : mg "int" = none
  n_isinstance : mg "isinstance" = none
  n_len : mg "len" = none
  n_range : mg "range" = none
  n_tuple : mg "tuple" = none
  one : oneAllB K = true
  g_FetchError : mg "FetchError" = some (.ref (He.ga K "FetchError"))
  x_FetchError : ExcC K (He.ga K "FetchError")
  b_FetchError : PySem.W.excIn K (He.ga K "FetchError") He.veBase "ValueError.__new__" = true
  k_FetchError : PySem.W.keepIn K (.ref (He.ga K "FetchError")) = true
  ty_FetchError : PySem.W.typeIn K (.ref (He.ga K "FetchError")) = some (.type "type")
  g_BadWidths : mg "BadWidths" = some (.ref (He.ga K "BadWidths"))
  x_BadWidths : ExcC K (He.ga K "BadWidths")
  b_BadWidths : PySem.W.excIn K (He.ga K "BadWidths") He.veBase "ValueError.__new__" = true
  k_BadWidths : PySem.W.keepIn K (.ref (He.ga K "BadWidths")) = true
  ty_BadWidths : PySem.W.typeIn K (.ref (He.ga K "BadWidths")) = some (.type "type")
  g_BadRow : mg "BadRow" = some (.ref (He.ga K "BadRow"))
  x_BadRow : ExcC K (He.ga K "BadRow")
  o_BadRow : OexC K (He.ga K "BadRow")
  i_BadRow : PySem.W.findIn K (.ref (He.ga K "BadRow")) "__init__" = some (some (.ref (He.ma K (He.ga K "BadRow") "__init__")))
  t_BadRow : PySem.W.typeIn K (.ref (He.ma K (He.ga K "BadRow") "__init__")) = some (.type "function")
  noat_BadRow_row : PySem.W.findIn K (.ref (He.ga K "BadRow")) "row" = some none
  g_BadBox : mg "BadBox" = some (.ref (He.ga K "BadBox"))
  x_BadBox : ExcC K (He.ga K "BadBox")
  o_BadBox : OexC K (He.ga K "BadBox")
  i_BadBox : PySem.W.findIn K (.ref (He.ga K "BadBox")) "__init__" = some (some (.ref (He.ma K (He.ga K "BadBox") "__init__")))
  t_BadBox : PySem.W.typeIn K (.ref (He.ma K (He.ga K "BadBox") "__init__")) = some (.type "function")
  noat_BadBox_what : PySem.W.findIn K (.ref (He.ga K "BadBox")) "what" = some none
  noat_BadBox_at : PySem.W.findIn K (.ref (He.ga K "BadBox")) "at" = some none
  g_UnlikeBoxes : mg "UnlikeBoxes" = some (.ref (He.ga K "UnlikeBoxes"))
  x_UnlikeBoxes : ExcC K (He.ga K "UnlikeBoxes")
  b_UnlikeBoxes : PySem.W.excIn K (He.ga K "UnlikeBoxes") He.veBase "ValueError.__new__" = true
  k_UnlikeBoxes : PySem.W.keepIn K (.ref (He.ga K "UnlikeBoxes")) = true
  ty_UnlikeBoxes : PySem.W.typeIn K (.ref (He.ga K "UnlikeBoxes")) = some (.type "type")
  g_BadColumn : mg "BadColumn" = some (.ref (He.ga K "BadColumn"))
  x_BadColumn : ExcC K (He.ga K "BadColumn")
  o_BadColumn : OexC K (He.ga K "BadColumn")
  i_BadColumn : PySem.W.findIn K (.ref (He.ga K "BadColumn")) "__init__" = some (some (.ref (He.ma K (He.ga K "BadColumn") "__init__")))
  t_BadColumn : PySem.W.typeIn K (.ref (He.ma K (He.ga K "BadColumn") "__init__")) = some (.type "function")
  noat_BadColumn_column : PySem.W.findIn K (.ref (He.ga K "BadColumn")) "column" = some none
  g_BadData : mg "BadData" = some (.ref (He.ga K "BadData"))
  x_BadData : ExcC K (He.ga K "BadData")
  b_BadData : PySem.W.excIn K (He.ga K "BadData") He.veBase "ValueError.__new__" = true
  k_BadData : PySem.W.keepIn K (.ref (He.ga K "BadData")) = true
  ty_BadData : PySem.W.typeIn K (.ref (He.ga K "BadData")) = some (.type "type")
  g_BadText : mg "BadText" = some (.ref (He.ga K "BadText"))
  x_BadText : ExcC K (He.ga K "BadText")
  o_BadText : OexC K (He.ga K "BadText")
  i_BadText : PySem.W.findIn K (.ref (He.ga K "BadText")) "__init__" = some (some (.ref (He.ma K (He.ga K "BadText") "__init__")))
  t_BadText : PySem.W.typeIn K (.ref (He.ma K (He.ga K "BadText") "__init__")) = some (.type "function")
  noat_BadText_place : PySem.W.findIn K (.ref (He.ga K "BadText")) "place" = some none
  g_BadPage : mg "BadPage" = some (.ref (He.ga K "BadPage"))
  x_BadPage : ExcC K (He.ga K "BadPage")
  o_BadPage : OexC K (He.ga K "BadPage")
  i_BadPage : PySem.W.findIn K (.ref (He.ga K "BadPage")) "__init__" = some (some (.ref (He.ma K (He.ga K "BadPage") "__init__")))
  t_BadPage : PySem.W.typeIn K (.ref (He.ma K (He.ga K "BadPage") "__init__")) = some (.type "function")
  noat_BadPage_what : PySem.W.findIn K (.ref (He.ga K "BadPage")) "what" = some none
  g_BadIndex : mg "BadIndex" = some (.ref (He.ga K "BadIndex"))
  x_BadIndex : ExcC K (He.ga K "BadIndex")
  o_BadIndex : OexC K (He.ga K "BadIndex")
  i_BadIndex : PySem.W.findIn K (.ref (He.ga K "BadIndex")) "__init__" = some (some (.ref (He.ma K (He.ga K "BadIndex") "__init__")))
  t_BadIndex : PySem.W.typeIn K (.ref (He.ma K (He.ga K "BadIndex") "__init__")) = some (.type "function")
  noat_BadIndex_what : PySem.W.findIn K (.ref (He.ga K "BadIndex")) "what" = some none
  g_BadLayer : mg "BadLayer" = some (.ref (He.ga K "BadLayer"))
  x_BadLayer : ExcC K (He.ga K "BadLayer")
  o_BadLayer : OexC K (He.ga K "BadLayer")
  i_BadLayer : PySem.W.findIn K (.ref (He.ga K "BadLayer")) "__init__" = some (some (.ref (He.ma K (He.ga K "BadLayer") "__init__")))
  t_BadLayer : PySem.W.typeIn K (.ref (He.ma K (He.ga K "BadLayer") "__init__")) = some (.type "function")
  noat_BadLayer_what : PySem.W.findIn K (.ref (He.ga K "BadLayer")) "what" = some none
  noat_BadLayer_at : PySem.W.findIn K (.ref (He.ga K "BadLayer")) "at" = some none
  g_NoIndex : mg "NoIndex" = some (.ref (He.ga K "NoIndex"))
  x_NoIndex : ExcC K (He.ga K "NoIndex")
  o_NoIndex : OexC K (He.ga K "NoIndex")
  i_NoIndex : PySem.W.findIn K (.ref (He.ga K "NoIndex")) "__init__" = some (some (.ref (He.ma K (He.ga K "NoIndex") "__init__")))
  t_NoIndex : PySem.W.typeIn K (.ref (He.ma K (He.ga K "NoIndex") "__init__")) = some (.type "function")
  noat_NoIndex_index : PySem.W.findIn K (.ref (He.ga K "NoIndex")) "index" = some none
  g_BadTable : mg "BadTable" = some (.ref (He.ga K "BadTable"))
  x_BadTable : ExcC K (He.ga K "BadTable")
  o_BadTable : OexC K (He.ga K "BadTable")
  i_BadTable : PySem.W.findIn K (.ref (He.ga K "BadTable")) "__init__" = some (some (.ref (He.ma K (He.ga K "BadTable") "__init__")))
  t_BadTable : PySem.W.typeIn K (.ref (He.ma K (He.ga K "BadTable") "__init__")) = some (.type "function")
  noat_BadTable_what : PySem.W.findIn K (.ref (He.ga K "BadTable")) "what" = some none
  noat_BadTable_at : PySem.W.findIn K (.ref (He.ga K "BadTable")) "at" = some none
  g_NoLayer : mg "NoLayer" = some (.ref (He.ga K "NoLayer"))
  x_NoLayer : ExcC K (He.ga K "NoLayer")
  o_NoLayer : OexC K (He.ga K "NoLayer")
  i_NoLayer : PySem.W.findIn K (.ref (He.ga K "NoLayer")) "__init__" = some (some (.ref (He.ma K (He.ga K "NoLayer") "__init__")))
  t_NoLayer : PySem.W.typeIn K (.ref (He.ma K (He.ga K "NoLayer") "__init__")) = some (.type "function")
  noat_NoLayer_layer : PySem.W.findIn K (.ref (He.ga K "NoLayer")) "layer" = some none
  g_BadStore : mg "BadStore" = some (.ref (He.ga K "BadStore"))
  x_BadStore : ExcC K (He.ga K "BadStore")
  o_BadStore : OexC K (He.ga K "BadStore")
  i_BadStore : PySem.W.findIn K (.ref (He.ga K "BadStore")) "__init__" = some (some (.ref (He.ma K (He.ga K "BadStore") "__init__")))
  t_BadStore : PySem.W.typeIn K (.ref (He.ma K (He.ga K "BadStore") "__init__")) = some (.type "function")
  noat_BadStore_what : PySem.W.findIn K (.ref (He.ga K "BadStore")) "what" = some none
  noat_BadStore_at : PySem.W.findIn K (.ref (He.ga K "BadStore")) "at" = some none
  g_NoTable : mg "NoTable" = some (.ref (He.ga K "NoTable"))
  x_NoTable : ExcC K (He.ga K "NoTable")
  o_NoTable : OexC K (He.ga K "NoTable")
  i_NoTable : PySem.W.findIn K (.ref (He.ga K "NoTable")) "__init__" = some (some (.ref (He.ma K (He.ga K "NoTable") "__init__")))
  t_NoTable : PySem.W.typeIn K (.ref (He.ma K (He.ga K "NoTable") "__init__")) = some (.type "function")
  noat_NoTable_name : PySem.W.findIn K (.ref (He.ga K "NoTable")) "name" = some none
  g_BadChange : mg "BadChange" = some (.ref (He.ga K "BadChange"))
  x_BadChange : ExcC K (He.ga K "BadChange")
  o_BadChange : OexC K (He.ga K "BadChange")
  i_BadChange : PySem.W.findIn K (.ref (He.ga K "BadChange")) "__init__" = some (some (.ref (He.ma K (He.ga K "BadChange") "__init__")))
  t_BadChange : PySem.W.typeIn K (.ref (He.ma K (He.ga K "BadChange") "__init__")) = some (.type "function")
  noat_BadChange_at : PySem.W.findIn K (.ref (He.ga K "BadChange")) "at" = some none
  g_BadKinds : mg "BadKinds" = some (.ref (He.ga K "BadKinds"))
  x_BadKinds : ExcC K (He.ga K "BadKinds")
  o_BadKinds : OexC K (He.ga K "BadKinds")
  i_BadKinds : PySem.W.findIn K (.ref (He.ga K "BadKinds")) "__init__" = some (some (.ref (He.ma K (He.ga K "BadKinds") "__init__")))
  t_BadKinds : PySem.W.typeIn K (.ref (He.ma K (He.ga K "BadKinds") "__init__")) = some (.type "function")
  g_LayersFull : mg "LayersFull" = some (.ref (He.ga K "LayersFull"))
  x_LayersFull : ExcC K (He.ga K "LayersFull")
  o_LayersFull : OexC K (He.ga K "LayersFull")
  i_LayersFull : PySem.W.findIn K (.ref (He.ga K "LayersFull")) "__init__" = some (some (.ref (He.ma K (He.ga K "LayersFull") "__init__")))
  t_LayersFull : PySem.W.typeIn K (.ref (He.ma K (He.ga K "LayersFull") "__init__")) = some (.type "function")
  noat_LayersFull_name : PySem.W.findIn K (.ref (He.ga K "LayersFull")) "name" = some none
  g_BadNumber : mg "BadNumber" = some (.ref (He.ga K "BadNumber"))
  x_BadNumber : ExcC K (He.ga K "BadNumber")
  o_BadNumber : OexC K (He.ga K "BadNumber")
  i_BadNumber : PySem.W.findIn K (.ref (He.ga K "BadNumber")) "__init__" = some (some (.ref (He.ma K (He.ga K "BadNumber") "__init__")))
  t_BadNumber : PySem.W.typeIn K (.ref (He.ma K (He.ga K "BadNumber") "__init__")) = some (.type "function")
  noat_BadNumber_number : PySem.W.findIn K (.ref (He.ga K "BadNumber")) "number" = some none
  g_NotBefore : mg "NotBefore" = some (.ref (He.ga K "NotBefore"))
  x_NotBefore : ExcC K (He.ga K "NotBefore")
  o_NotBefore : OexC K (He.ga K "NotBefore")
  i_NotBefore : PySem.W.findIn K (.ref (He.ga K "NotBefore")) "__init__" = some (some (.ref (He.ma K (He.ga K "NotBefore") "__init__")))
  t_NotBefore : PySem.W.typeIn K (.ref (He.ma K (He.ga K "NotBefore") "__init__")) = some (.type "function")
  g_BadQuestion : mg "BadQuestion" = some (.ref (He.ga K "BadQuestion"))
  x_BadQuestion : ExcC K (He.ga K "BadQuestion")
  o_BadQuestion : OexC K (He.ga K "BadQuestion")
  i_BadQuestion : PySem.W.findIn K (.ref (He.ga K "BadQuestion")) "__init__" = some (some (.ref (He.ma K (He.ga K "BadQuestion") "__init__")))
  t_BadQuestion : PySem.W.typeIn K (.ref (He.ma K (He.ga K "BadQuestion") "__init__")) = some (.type "function")
  noat_BadQuestion_what : PySem.W.findIn K (.ref (He.ga K "BadQuestion")) "what" = some none
  noat_BadQuestion_at : PySem.W.findIn K (.ref (He.ga K "BadQuestion")) "at" = some none
  g_Again : mg "Again" = some (.ref (He.ga K "Again"))
  x_Again : ExcC K (He.ga K "Again")
  o_Again : OexC K (He.ga K "Again")
  i_Again : PySem.W.findIn K (.ref (He.ga K "Again")) "__init__" = some (some (.ref (He.ma K (He.ga K "Again") "__init__")))
  t_Again : PySem.W.typeIn K (.ref (He.ma K (He.ga K "Again") "__init__")) = some (.type "function")
  noat_Again_what : PySem.W.findIn K (.ref (He.ga K "Again")) "what" = some none
  g_Foreign : mg "Foreign" = some (.ref (He.ga K "Foreign"))
  x_Foreign : ExcC K (He.ga K "Foreign")
  o_Foreign : OexC K (He.ga K "Foreign")
  i_Foreign : PySem.W.findIn K (.ref (He.ga K "Foreign")) "__init__" = some (some (.ref (He.ma K (He.ga K "Foreign") "__init__")))
  t_Foreign : PySem.W.typeIn K (.ref (He.ma K (He.ga K "Foreign") "__init__")) = some (.type "function")
  noat_Foreign_what : PySem.W.findIn K (.ref (He.ga K "Foreign")) "what" = some none
  g_NoPage : mg "NoPage" = some (.ref (He.ga K "NoPage"))
  x_NoPage : ExcC K (He.ga K "NoPage")
  o_NoPage : OexC K (He.ga K "NoPage")
  i_NoPage : PySem.W.findIn K (.ref (He.ga K "NoPage")) "__init__" = some (some (.ref (He.ma K (He.ga K "NoPage") "__init__")))
  t_NoPage : PySem.W.typeIn K (.ref (He.ma K (He.ga K "NoPage") "__init__")) = some (.type "function")
  noat_NoPage_name : PySem.W.findIn K (.ref (He.ga K "NoPage")) "name" = some none
  g_NoFactor : mg "NoFactor" = some (.ref (He.ga K "NoFactor"))
  x_NoFactor : ExcC K (He.ga K "NoFactor")
  o_NoFactor : OexC K (He.ga K "NoFactor")
  i_NoFactor : PySem.W.findIn K (.ref (He.ga K "NoFactor")) "__init__" = some (some (.ref (He.ma K (He.ga K "NoFactor") "__init__")))
  t_NoFactor : PySem.W.typeIn K (.ref (He.ma K (He.ga K "NoFactor") "__init__")) = some (.type "function")
  noat_NoFactor_what : PySem.W.findIn K (.ref (He.ga K "NoFactor")) "what" = some none
  g_NotUniform : mg "NotUniform" = some (.ref (He.ga K "NotUniform"))
  x_NotUniform : ExcC K (He.ga K "NotUniform")
  o_NotUniform : OexC K (He.ga K "NotUniform")
  i_NotUniform : PySem.W.findIn K (.ref (He.ga K "NotUniform")) "__init__" = some (some (.ref (He.ma K (He.ga K "NotUniform") "__init__")))
  t_NotUniform : PySem.W.typeIn K (.ref (He.ma K (He.ga K "NotUniform") "__init__")) = some (.type "function")
  g_NotDecided : mg "NotDecided" = some (.ref (He.ga K "NotDecided"))
  x_NotDecided : ExcC K (He.ga K "NotDecided")
  o_NotDecided : OexC K (He.ga K "NotDecided")
  i_NotDecided : PySem.W.findIn K (.ref (He.ga K "NotDecided")) "__init__" = some (some (.ref (He.ma K (He.ga K "NotDecided") "__init__")))
  t_NotDecided : PySem.W.typeIn K (.ref (He.ma K (He.ga K "NotDecided") "__init__")) = some (.type "function")
  g_Undetermined : mg "Undetermined" = some (.ref (He.ga K "Undetermined"))
  x_Undetermined : ExcC K (He.ga K "Undetermined")
  o_Undetermined : OexC K (He.ga K "Undetermined")
  i_Undetermined : PySem.W.findIn K (.ref (He.ga K "Undetermined")) "__init__" = some (some (.ref (He.ma K (He.ga K "Undetermined") "__init__")))
  t_Undetermined : PySem.W.typeIn K (.ref (He.ma K (He.ga K "Undetermined") "__init__")) = some (.type "function")
  g_BadPaper : mg "BadPaper" = some (.ref (He.ga K "BadPaper"))
  x_BadPaper : ExcC K (He.ga K "BadPaper")
  o_BadPaper : OexC K (He.ga K "BadPaper")
  i_BadPaper : PySem.W.findIn K (.ref (He.ga K "BadPaper")) "__init__" = some (some (.ref (He.ma K (He.ga K "BadPaper") "__init__")))
  t_BadPaper : PySem.W.typeIn K (.ref (He.ma K (He.ga K "BadPaper") "__init__")) = some (.type "function")
  noat_BadPaper_line : PySem.W.findIn K (.ref (He.ga K "BadPaper")) "line" = some none
  noat_BadPaper_what : PySem.W.findIn K (.ref (He.ga K "BadPaper")) "what" = some none
  g_NotDone : mg "NotDone" = some (.ref (He.ga K "NotDone"))
  x_NotDone : ExcC K (He.ga K "NotDone")
  o_NotDone : OexC K (He.ga K "NotDone")
  i_NotDone : PySem.W.findIn K (.ref (He.ga K "NotDone")) "__init__" = some (some (.ref (He.ma K (He.ga K "NotDone") "__init__")))
  t_NotDone : PySem.W.typeIn K (.ref (He.ma K (He.ga K "NotDone") "__init__")) = some (.type "function")
  g_Unasked : mg "Unasked" = some (.ref (He.ga K "Unasked"))
  x_Unasked : ExcC K (He.ga K "Unasked")
  o_Unasked : OexC K (He.ga K "Unasked")
  i_Unasked : PySem.W.findIn K (.ref (He.ga K "Unasked")) "__init__" = some (some (.ref (He.ma K (He.ga K "Unasked") "__init__")))
  t_Unasked : PySem.W.typeIn K (.ref (He.ma K (He.ga K "Unasked") "__init__")) = some (.type "function")
  g_TooMany : mg "TooMany" = some (.ref (He.ga K "TooMany"))
  x_TooMany : ExcC K (He.ga K "TooMany")
  o_TooMany : OexC K (He.ga K "TooMany")
  i_TooMany : PySem.W.findIn K (.ref (He.ga K "TooMany")) "__init__" = some (some (.ref (He.ma K (He.ga K "TooMany") "__init__")))
  t_TooMany : PySem.W.typeIn K (.ref (He.ma K (He.ga K "TooMany") "__init__")) = some (.type "function")
  noat_TooMany_most : PySem.W.findIn K (.ref (He.ga K "TooMany")) "most" = some none
  g_NotEnough : mg "NotEnough" = some (.ref (He.ga K "NotEnough"))
  x_NotEnough : ExcC K (He.ga K "NotEnough")
  o_NotEnough : OexC K (He.ga K "NotEnough")
  i_NotEnough : PySem.W.findIn K (.ref (He.ga K "NotEnough")) "__init__" = some (some (.ref (He.ma K (He.ga K "NotEnough") "__init__")))
  t_NotEnough : PySem.W.typeIn K (.ref (He.ma K (He.ga K "NotEnough") "__init__")) = some (.type "function")
  g_KnownRow : mg "KnownRow" = some (.ref (He.ga K "KnownRow"))
  x_KnownRow : ExcC K (He.ga K "KnownRow")
  o_KnownRow : OexC K (He.ga K "KnownRow")
  i_KnownRow : PySem.W.findIn K (.ref (He.ga K "KnownRow")) "__init__" = some (some (.ref (He.ma K (He.ga K "KnownRow") "__init__")))
  t_KnownRow : PySem.W.typeIn K (.ref (He.ma K (He.ga K "KnownRow") "__init__")) = some (.type "function")
  noat_KnownRow_name : PySem.W.findIn K (.ref (He.ga K "KnownRow")) "name" = some none
  noat_KnownRow_row : PySem.W.findIn K (.ref (He.ga K "KnownRow")) "row" = some none
  g_BadFoe : mg "BadFoe" = some (.ref (He.ga K "BadFoe"))
  x_BadFoe : ExcC K (He.ga K "BadFoe")
  o_BadFoe : OexC K (He.ga K "BadFoe")
  i_BadFoe : PySem.W.findIn K (.ref (He.ga K "BadFoe")) "__init__" = some (some (.ref (He.ma K (He.ga K "BadFoe") "__init__")))
  t_BadFoe : PySem.W.typeIn K (.ref (He.ma K (He.ga K "BadFoe") "__init__")) = some (.type "function")
  noat_BadFoe_what : PySem.W.findIn K (.ref (He.ga K "BadFoe")) "what" = some none
  g_BadPolicy : mg "BadPolicy" = some (.ref (He.ga K "BadPolicy"))
  x_BadPolicy : ExcC K (He.ga K "BadPolicy")
  o_BadPolicy : OexC K (He.ga K "BadPolicy")
  i_BadPolicy : PySem.W.findIn K (.ref (He.ga K "BadPolicy")) "__init__" = some (some (.ref (He.ma K (He.ga K "BadPolicy") "__init__")))
  t_BadPolicy : PySem.W.typeIn K (.ref (He.ma K (He.ga K "BadPolicy") "__init__")) = some (.type "function")
  g_BadDead : mg "BadDead" = some (.ref (He.ga K "BadDead"))
  x_BadDead : ExcC K (He.ga K "BadDead")
  o_BadDead : OexC K (He.ga K "BadDead")
  i_BadDead : PySem.W.findIn K (.ref (He.ga K "BadDead")) "__init__" = some (some (.ref (He.ma K (He.ga K "BadDead") "__init__")))
  t_BadDead : PySem.W.typeIn K (.ref (He.ma K (He.ga K "BadDead") "__init__")) = some (.type "function")
  noat_BadDead_at : PySem.W.findIn K (.ref (He.ga K "BadDead")) "at" = some none
  g_NoSpread : mg "NoSpread" = some (.ref (He.ga K "NoSpread"))
  x_NoSpread : ExcC K (He.ga K "NoSpread")
  o_NoSpread : OexC K (He.ga K "NoSpread")
  i_NoSpread : PySem.W.findIn K (.ref (He.ga K "NoSpread")) "__init__" = some (some (.ref (He.ma K (He.ga K "NoSpread") "__init__")))
  t_NoSpread : PySem.W.typeIn K (.ref (He.ma K (He.ga K "NoSpread") "__init__")) = some (.type "function")
  noat_NoSpread_what : PySem.W.findIn K (.ref (He.ga K "NoSpread")) "what" = some none
  g_NotInDoubt : mg "NotInDoubt" = some (.ref (He.ga K "NotInDoubt"))
  x_NotInDoubt : ExcC K (He.ga K "NotInDoubt")
  o_NotInDoubt : OexC K (He.ga K "NotInDoubt")
  i_NotInDoubt : PySem.W.findIn K (.ref (He.ga K "NotInDoubt")) "__init__" = some (some (.ref (He.ma K (He.ga K "NotInDoubt") "__init__")))
  t_NotInDoubt : PySem.W.typeIn K (.ref (He.ma K (He.ga K "NotInDoubt") "__init__")) = some (.type "function")
  noat_NotInDoubt_point : PySem.W.findIn K (.ref (He.ga K "NotInDoubt")) "point" = some none
  g_BadDeed : mg "BadDeed" = some (.ref (He.ga K "BadDeed"))
  x_BadDeed : ExcC K (He.ga K "BadDeed")
  o_BadDeed : OexC K (He.ga K "BadDeed")
  i_BadDeed : PySem.W.findIn K (.ref (He.ga K "BadDeed")) "__init__" = some (some (.ref (He.ma K (He.ga K "BadDeed") "__init__")))
  t_BadDeed : PySem.W.typeIn K (.ref (He.ma K (He.ga K "BadDeed") "__init__")) = some (.type "function")
  g_NotNewest : mg "NotNewest" = some (.ref (He.ga K "NotNewest"))
  x_NotNewest : ExcC K (He.ga K "NotNewest")
  o_NotNewest : OexC K (He.ga K "NotNewest")
  i_NotNewest : PySem.W.findIn K (.ref (He.ga K "NotNewest")) "__init__" = some (some (.ref (He.ma K (He.ga K "NotNewest") "__init__")))
  t_NotNewest : PySem.W.typeIn K (.ref (He.ma K (He.ga K "NotNewest") "__init__")) = some (.type "function")
  g_NothingCut : mg "NothingCut" = some (.ref (He.ga K "NothingCut"))
  x_NothingCut : ExcC K (He.ga K "NothingCut")
  o_NothingCut : OexC K (He.ga K "NothingCut")
  i_NothingCut : PySem.W.findIn K (.ref (He.ga K "NothingCut")) "__init__" = some (some (.ref (He.ma K (He.ga K "NothingCut") "__init__")))
  t_NothingCut : PySem.W.typeIn K (.ref (He.ma K (He.ga K "NothingCut") "__init__")) = some (.type "function")
  g_Unfit : mg "Unfit" = some (.ref (He.ga K "Unfit"))
  x_Unfit : ExcC K (He.ga K "Unfit")
  o_Unfit : OexC K (He.ga K "Unfit")
  i_Unfit : PySem.W.findIn K (.ref (He.ga K "Unfit")) "__init__" = some (some (.ref (He.ma K (He.ga K "Unfit") "__init__")))
  t_Unfit : PySem.W.typeIn K (.ref (He.ma K (He.ga K "Unfit") "__init__")) = some (.type "function")
  noat_Unfit_name : PySem.W.findIn K (.ref (He.ga K "Unfit")) "name" = some none
  g_NotKnown : mg "NotKnown" = some (.ref (He.ga K "NotKnown"))
  x_NotKnown : ExcC K (He.ga K "NotKnown")
  o_NotKnown : OexC K (He.ga K "NotKnown")
  i_NotKnown : PySem.W.findIn K (.ref (He.ga K "NotKnown")) "__init__" = some (some (.ref (He.ma K (He.ga K "NotKnown") "__init__")))
  t_NotKnown : PySem.W.typeIn K (.ref (He.ma K (He.ga K "NotKnown") "__init__")) = some (.type "function")
  noat_NotKnown_at : PySem.W.findIn K (.ref (He.ga K "NotKnown")) "at" = some none
  g_BadStory : mg "BadStory" = some (.ref (He.ga K "BadStory"))
  x_BadStory : ExcC K (He.ga K "BadStory")
  o_BadStory : OexC K (He.ga K "BadStory")
  i_BadStory : PySem.W.findIn K (.ref (He.ga K "BadStory")) "__init__" = some (some (.ref (He.ma K (He.ga K "BadStory") "__init__")))
  t_BadStory : PySem.W.typeIn K (.ref (He.ma K (He.ga K "BadStory") "__init__")) = some (.type "function")
  noat_BadStory_line : PySem.W.findIn K (.ref (He.ga K "BadStory")) "line" = some none
  fb_FetchError : FBase K (He.ga K "FetchError")
  d_BadRow___init__ : ∃ fd, FnP K "__init__" "BadRow.__init__" s_BadRow___init__ [] (He.ma K (He.ga K "BadRow") "__init__") fd
  d_BadBox___init__ : ∃ fd, FnP K "__init__" "BadBox.__init__" s_BadBox___init__ [] (He.ma K (He.ga K "BadBox") "__init__") fd
  d_BadColumn___init__ : ∃ fd, FnP K "__init__" "BadColumn.__init__" s_BadColumn___init__ [] (He.ma K (He.ga K "BadColumn") "__init__") fd
  d_BadText___init__ : ∃ fd, FnP K "__init__" "BadText.__init__" s_BadText___init__ [] (He.ma K (He.ga K "BadText") "__init__") fd
  d_BadPage___init__ : ∃ fd, FnP K "__init__" "BadPage.__init__" s_BadPage___init__ [] (He.ma K (He.ga K "BadPage") "__init__") fd
  d_BadIndex___init__ : ∃ fd, FnP K "__init__" "BadIndex.__init__" s_BadIndex___init__ [] (He.ma K (He.ga K "BadIndex") "__init__") fd
  d_BadLayer___init__ : ∃ fd, FnP K "__init__" "BadLayer.__init__" s_BadLayer___init__ [] (He.ma K (He.ga K "BadLayer") "__init__") fd
  d_NoIndex___init__ : ∃ fd, FnP K "__init__" "NoIndex.__init__" s_NoIndex___init__ [] (He.ma K (He.ga K "NoIndex") "__init__") fd
  d_BadTable___init__ : ∃ fd, FnP K "__init__" "BadTable.__init__" s_BadTable___init__ [] (He.ma K (He.ga K "BadTable") "__init__") fd
  d_NoLayer___init__ : ∃ fd, FnP K "__init__" "NoLayer.__init__" s_NoLayer___init__ [] (He.ma K (He.ga K "NoLayer") "__init__") fd
  d_BadStore___init__ : ∃ fd, FnP K "__init__" "BadStore.__init__" s_BadStore___init__ [] (He.ma K (He.ga K "BadStore") "__init__") fd
  d_NoTable___init__ : ∃ fd, FnP K "__init__" "NoTable.__init__" s_NoTable___init__ [] (He.ma K (He.ga K "NoTable") "__init__") fd
  d_BadChange___init__ : ∃ fd, FnP K "__init__" "BadChange.__init__" s_BadChange___init__ [] (He.ma K (He.ga K "BadChange") "__init__") fd
  d_BadKinds___init__ : ∃ fd, FnP K "__init__" "BadKinds.__init__" s_BadKinds___init__ [] (He.ma K (He.ga K "BadKinds") "__init__") fd
  d_LayersFull___init__ : ∃ fd, FnP K "__init__" "LayersFull.__init__" s_LayersFull___init__ [] (He.ma K (He.ga K "LayersFull") "__init__") fd
  d_BadNumber___init__ : ∃ fd, FnP K "__init__" "BadNumber.__init__" s_BadNumber___init__ [] (He.ma K (He.ga K "BadNumber") "__init__") fd
  d_NotBefore___init__ : ∃ fd, FnP K "__init__" "NotBefore.__init__" s_NotBefore___init__ [] (He.ma K (He.ga K "NotBefore") "__init__") fd
  d_BadQuestion___init__ : ∃ fd, FnP K "__init__" "BadQuestion.__init__" s_BadQuestion___init__ [] (He.ma K (He.ga K "BadQuestion") "__init__") fd
  d_Again___init__ : ∃ fd, FnP K "__init__" "Again.__init__" s_Again___init__ [] (He.ma K (He.ga K "Again") "__init__") fd
  d_Foreign___init__ : ∃ fd, FnP K "__init__" "Foreign.__init__" s_Foreign___init__ [] (He.ma K (He.ga K "Foreign") "__init__") fd
  d_NoPage___init__ : ∃ fd, FnP K "__init__" "NoPage.__init__" s_NoPage___init__ [] (He.ma K (He.ga K "NoPage") "__init__") fd
  d_NoFactor___init__ : ∃ fd, FnP K "__init__" "NoFactor.__init__" s_NoFactor___init__ [] (He.ma K (He.ga K "NoFactor") "__init__") fd
  d_NotUniform___init__ : ∃ fd, FnP K "__init__" "NotUniform.__init__" s_NotUniform___init__ [] (He.ma K (He.ga K "NotUniform") "__init__") fd
  d_NotDecided___init__ : ∃ fd, FnP K "__init__" "NotDecided.__init__" s_NotDecided___init__ [] (He.ma K (He.ga K "NotDecided") "__init__") fd
  d_Undetermined___init__ : ∃ fd, FnP K "__init__" "Undetermined.__init__" s_Undetermined___init__ [] (He.ma K (He.ga K "Undetermined") "__init__") fd
  d_BadPaper___init__ : ∃ fd, FnP K "__init__" "BadPaper.__init__" s_BadPaper___init__ [] (He.ma K (He.ga K "BadPaper") "__init__") fd
  d_NotDone___init__ : ∃ fd, FnP K "__init__" "NotDone.__init__" s_NotDone___init__ [] (He.ma K (He.ga K "NotDone") "__init__") fd
  d_Unasked___init__ : ∃ fd, FnP K "__init__" "Unasked.__init__" s_Unasked___init__ [] (He.ma K (He.ga K "Unasked") "__init__") fd
  d_TooMany___init__ : ∃ fd, FnP K "__init__" "TooMany.__init__" s_TooMany___init__ [] (He.ma K (He.ga K "TooMany") "__init__") fd
  d_NotEnough___init__ : ∃ fd, FnP K "__init__" "NotEnough.__init__" s_NotEnough___init__ [] (He.ma K (He.ga K "NotEnough") "__init__") fd
  d_KnownRow___init__ : ∃ fd, FnP K "__init__" "KnownRow.__init__" s_KnownRow___init__ [] (He.ma K (He.ga K "KnownRow") "__init__") fd
  d_BadFoe___init__ : ∃ fd, FnP K "__init__" "BadFoe.__init__" s_BadFoe___init__ [] (He.ma K (He.ga K "BadFoe") "__init__") fd
  d_BadPolicy___init__ : ∃ fd, FnP K "__init__" "BadPolicy.__init__" s_BadPolicy___init__ [] (He.ma K (He.ga K "BadPolicy") "__init__") fd
  d_BadDead___init__ : ∃ fd, FnP K "__init__" "BadDead.__init__" s_BadDead___init__ [] (He.ma K (He.ga K "BadDead") "__init__") fd
  d_NoSpread___init__ : ∃ fd, FnP K "__init__" "NoSpread.__init__" s_NoSpread___init__ [] (He.ma K (He.ga K "NoSpread") "__init__") fd
  d_NotInDoubt___init__ : ∃ fd, FnP K "__init__" "NotInDoubt.__init__" s_NotInDoubt___init__ [] (He.ma K (He.ga K "NotInDoubt") "__init__") fd
  d_BadDeed___init__ : ∃ fd, FnP K "__init__" "BadDeed.__init__" s_BadDeed___init__ [] (He.ma K (He.ga K "BadDeed") "__init__") fd
  d_NotNewest___init__ : ∃ fd, FnP K "__init__" "NotNewest.__init__" s_NotNewest___init__ [] (He.ma K (He.ga K "NotNewest") "__init__") fd
  d_NothingCut___init__ : ∃ fd, FnP K "__init__" "NothingCut.__init__" s_NothingCut___init__ [] (He.ma K (He.ga K "NothingCut") "__init__") fd
  d_Unfit___init__ : ∃ fd, FnP K "__init__" "Unfit.__init__" s_Unfit___init__ [] (He.ma K (He.ga K "Unfit") "__init__") fd
  d_NotKnown___init__ : ∃ fd, FnP K "__init__" "NotKnown.__init__" s_NotKnown___init__ [] (He.ma K (He.ga K "NotKnown") "__init__") fd
  d_BadStory___init__ : ∃ fd, FnP K "__init__" "BadStory.__init__" s_BadStory___init__ [] (He.ma K (He.ga K "BadStory") "__init__") fd
  g__law_bag : mg "_law_bag" = some (.ref (He.ga K "_law_bag"))
  d__law_bag : ∃ fd, FnP K "_law_bag" "_law_bag" s__law_bag [] (He.ga K "_law_bag") fd
  g__law_draw : mg "_law_draw" = some (.ref (He.ga K "_law_draw"))
  d__law_draw : ∃ fd, FnP K "_law_draw" "_law_draw" s__law_draw [] (He.ga K "_law_draw") fd
  g__law_classes : mg "_law_classes" = some (.ref (He.ga K "_law_classes"))
  d__law_classes : ∃ fd, FnP K "_law_classes" "_law_classes" s__law_classes [] (He.ga K "_law_classes") fd
  g_law : mg "law" = some (.ref (He.ga K "law"))
  d_law : ∃ fd, FnP K "law" "law" s_law [] (He.ga K "law") fd
def fb0 (K : PySem.W.Frag) : Bool := (He.Fa.free "ValueError").ok K && ((He.Fa.free "abs").ok K && ((He.Fa.free "all").ok K && ((He.Fa.free "int").ok K && ((He.Fa.free "isinstance").ok K && ((He.Fa.free "len").ok K && ((He.Fa.free "range").ok K && ((He.Fa.free "tuple").ok K && (oneAllB K && ((He.Fa.glo "FetchError").ok K && (excB K (He.ga K "FetchError") && (PySem.W.excIn K (He.ga K "FetchError") He.veBase "ValueError.__new__")))))))))))
def fb1 (K : PySem.W.Frag) : Bool := PySem.W.keepIn K (.ref (He.ga K "FetchError")) && (decide (PySem.W.typeIn K (.ref (He.ga K "FetchError")) = some (.type "type")) && ((He.Fa.glo "BadWidths").ok K && (excB K (He.ga K "BadWidths") && (PySem.W.excIn K (He.ga K "BadWidths") He.veBase "ValueError.__new__" && (PySem.W.keepIn K (.ref (He.ga K "BadWidths")) && (decide (PySem.W.typeIn K (.ref (He.ga K "BadWidths")) = some (.type "type")) && ((He.Fa.glo "BadRow").ok K && (excB K (He.ga K "BadRow") && (oexB K (He.ga K "BadRow") && (decide (PySem.W.findIn K (.ref (He.ga K "BadRow")) "__init__" = some (some (.ref (He.ma K (He.ga K "BadRow") "__init__")))) && (decide (PySem.W.typeIn K (.ref (He.ma K (He.ga K "BadRow") "__init__")) = some (.type "function")))))))))))))
def fb2 (K : PySem.W.Frag) : Bool := decide (PySem.W.findIn K (.ref (He.ga K "BadRow")) "row" = some none) && ((He.Fa.glo "BadBox").ok K && (excB K (He.ga K "BadBox") && (oexB K (He.ga K "BadBox") && (decide (PySem.W.findIn K (.ref (He.ga K "BadBox")) "__init__" = some (some (.ref (He.ma K (He.ga K "BadBox") "__init__")))) && (decide (PySem.W.typeIn K (.ref (He.ma K (He.ga K "BadBox") "__init__")) = some (.type "function")) && (decide (PySem.W.findIn K (.ref (He.ga K "BadBox")) "what" = some none) && (decide (PySem.W.findIn K (.ref (He.ga K "BadBox")) "at" = some none) && ((He.Fa.glo "UnlikeBoxes").ok K && (excB K (He.ga K "UnlikeBoxes") && (PySem.W.excIn K (He.ga K "UnlikeBoxes") He.veBase "ValueError.__new__" && (PySem.W.keepIn K (.ref (He.ga K "UnlikeBoxes")))))))))))))
def fb3 (K : PySem.W.Frag) : Bool := decide (PySem.W.typeIn K (.ref (He.ga K "UnlikeBoxes")) = some (.type "type")) && ((He.Fa.glo "BadColumn").ok K && (excB K (He.ga K "BadColumn") && (oexB K (He.ga K "BadColumn") && (decide (PySem.W.findIn K (.ref (He.ga K "BadColumn")) "__init__" = some (some (.ref (He.ma K (He.ga K "BadColumn") "__init__")))) && (decide (PySem.W.typeIn K (.ref (He.ma K (He.ga K "BadColumn") "__init__")) = some (.type "function")) && (decide (PySem.W.findIn K (.ref (He.ga K "BadColumn")) "column" = some none) && ((He.Fa.glo "BadData").ok K && (excB K (He.ga K "BadData") && (PySem.W.excIn K (He.ga K "BadData") He.veBase "ValueError.__new__" && (PySem.W.keepIn K (.ref (He.ga K "BadData")) && (decide (PySem.W.typeIn K (.ref (He.ga K "BadData")) = some (.type "type")))))))))))))
def fb4 (K : PySem.W.Frag) : Bool := (He.Fa.glo "BadText").ok K && (excB K (He.ga K "BadText") && (oexB K (He.ga K "BadText") && (decide (PySem.W.findIn K (.ref (He.ga K "BadText")) "__init__" = some (some (.ref (He.ma K (He.ga K "BadText") "__init__")))) && (decide (PySem.W.typeIn K (.ref (He.ma K (He.ga K "BadText") "__init__")) = some (.type "function")) && (decide (PySem.W.findIn K (.ref (He.ga K "BadText")) "place" = some none) && ((He.Fa.glo "BadPage").ok K && (excB K (He.ga K "BadPage") && (oexB K (He.ga K "BadPage") && (decide (PySem.W.findIn K (.ref (He.ga K "BadPage")) "__init__" = some (some (.ref (He.ma K (He.ga K "BadPage") "__init__")))) && (decide (PySem.W.typeIn K (.ref (He.ma K (He.ga K "BadPage") "__init__")) = some (.type "function")) && (decide (PySem.W.findIn K (.ref (He.ga K "BadPage")) "what" = some none))))))))))))
def fb5 (K : PySem.W.Frag) : Bool := (He.Fa.glo "BadIndex").ok K && (excB K (He.ga K "BadIndex") && (oexB K (He.ga K "BadIndex") && (decide (PySem.W.findIn K (.ref (He.ga K "BadIndex")) "__init__" = some (some (.ref (He.ma K (He.ga K "BadIndex") "__init__")))) && (decide (PySem.W.typeIn K (.ref (He.ma K (He.ga K "BadIndex") "__init__")) = some (.type "function")) && (decide (PySem.W.findIn K (.ref (He.ga K "BadIndex")) "what" = some none) && ((He.Fa.glo "BadLayer").ok K && (excB K (He.ga K "BadLayer") && (oexB K (He.ga K "BadLayer") && (decide (PySem.W.findIn K (.ref (He.ga K "BadLayer")) "__init__" = some (some (.ref (He.ma K (He.ga K "BadLayer") "__init__")))) && (decide (PySem.W.typeIn K (.ref (He.ma K (He.ga K "BadLayer") "__init__")) = some (.type "function")) && (decide (PySem.W.findIn K (.ref (He.ga K "BadLayer")) "what" = some none))))))))))))
def fb6 (K : PySem.W.Frag) : Bool := decide (PySem.W.findIn K (.ref (He.ga K "BadLayer")) "at" = some none) && ((He.Fa.glo "NoIndex").ok K && (excB K (He.ga K "NoIndex") && (oexB K (He.ga K "NoIndex") && (decide (PySem.W.findIn K (.ref (He.ga K "NoIndex")) "__init__" = some (some (.ref (He.ma K (He.ga K "NoIndex") "__init__")))) && (decide (PySem.W.typeIn K (.ref (He.ma K (He.ga K "NoIndex") "__init__")) = some (.type "function")) && (decide (PySem.W.findIn K (.ref (He.ga K "NoIndex")) "index" = some none) && ((He.Fa.glo "BadTable").ok K && (excB K (He.ga K "BadTable") && (oexB K (He.ga K "BadTable") && (decide (PySem.W.findIn K (.ref (He.ga K "BadTable")) "__init__" = some (some (.ref (He.ma K (He.ga K "BadTable") "__init__")))) && (decide (PySem.W.typeIn K (.ref (He.ma K (He.ga K "BadTable") "__init__")) = some (.type "function")))))))))))))
def fb7 (K : PySem.W.Frag) : Bool := decide (PySem.W.findIn K (.ref (He.ga K "BadTable")) "what" = some none) && (decide (PySem.W.findIn K (.ref (He.ga K "BadTable")) "at" = some none) && ((He.Fa.glo "NoLayer").ok K && (excB K (He.ga K "NoLayer") && (oexB K (He.ga K "NoLayer") && (decide (PySem.W.findIn K (.ref (He.ga K "NoLayer")) "__init__" = some (some (.ref (He.ma K (He.ga K "NoLayer") "__init__")))) && (decide (PySem.W.typeIn K (.ref (He.ma K (He.ga K "NoLayer") "__init__")) = some (.type "function")) && (decide (PySem.W.findIn K (.ref (He.ga K "NoLayer")) "layer" = some none) && ((He.Fa.glo "BadStore").ok K && (excB K (He.ga K "BadStore") && (oexB K (He.ga K "BadStore") && (decide (PySem.W.findIn K (.ref (He.ga K "BadStore")) "__init__" = some (some (.ref (He.ma K (He.ga K "BadStore") "__init__")))))))))))))))
def fb8 (K : PySem.W.Frag) : Bool := decide (PySem.W.typeIn K (.ref (He.ma K (He.ga K "BadStore") "__init__")) = some (.type "function")) && (decide (PySem.W.findIn K (.ref (He.ga K "BadStore")) "what" = some none) && (decide (PySem.W.findIn K (.ref (He.ga K "BadStore")) "at" = some none) && ((He.Fa.glo "NoTable").ok K && (excB K (He.ga K "NoTable") && (oexB K (He.ga K "NoTable") && (decide (PySem.W.findIn K (.ref (He.ga K "NoTable")) "__init__" = some (some (.ref (He.ma K (He.ga K "NoTable") "__init__")))) && (decide (PySem.W.typeIn K (.ref (He.ma K (He.ga K "NoTable") "__init__")) = some (.type "function")) && (decide (PySem.W.findIn K (.ref (He.ga K "NoTable")) "name" = some none) && ((He.Fa.glo "BadChange").ok K && (excB K (He.ga K "BadChange") && (oexB K (He.ga K "BadChange"))))))))))))
def fb9 (K : PySem.W.Frag) : Bool := decide (PySem.W.findIn K (.ref (He.ga K "BadChange")) "__init__" = some (some (.ref (He.ma K (He.ga K "BadChange") "__init__")))) && (decide (PySem.W.typeIn K (.ref (He.ma K (He.ga K "BadChange") "__init__")) = some (.type "function")) && (decide (PySem.W.findIn K (.ref (He.ga K "BadChange")) "at" = some none) && ((He.Fa.glo "BadKinds").ok K && (excB K (He.ga K "BadKinds") && (oexB K (He.ga K "BadKinds") && (decide (PySem.W.findIn K (.ref (He.ga K "BadKinds")) "__init__" = some (some (.ref (He.ma K (He.ga K "BadKinds") "__init__")))) && (decide (PySem.W.typeIn K (.ref (He.ma K (He.ga K "BadKinds") "__init__")) = some (.type "function")) && ((He.Fa.glo "LayersFull").ok K && (excB K (He.ga K "LayersFull") && (oexB K (He.ga K "LayersFull") && (decide (PySem.W.findIn K (.ref (He.ga K "LayersFull")) "__init__" = some (some (.ref (He.ma K (He.ga K "LayersFull") "__init__")))))))))))))))
def fb10 (K : PySem.W.Frag) : Bool := decide (PySem.W.typeIn K (.ref (He.ma K (He.ga K "LayersFull") "__init__")) = some (.type "function")) && (decide (PySem.W.findIn K (.ref (He.ga K "LayersFull")) "name" = some none) && ((He.Fa.glo "BadNumber").ok K && (excB K (He.ga K "BadNumber") && (oexB K (He.ga K "BadNumber") && (decide (PySem.W.findIn K (.ref (He.ga K "BadNumber")) "__init__" = some (some (.ref (He.ma K (He.ga K "BadNumber") "__init__")))) && (decide (PySem.W.typeIn K (.ref (He.ma K (He.ga K "BadNumber") "__init__")) = some (.type "function")) && (decide (PySem.W.findIn K (.ref (He.ga K "BadNumber")) "number" = some none) && ((He.Fa.glo "NotBefore").ok K && (excB K (He.ga K "NotBefore") && (oexB K (He.ga K "NotBefore") && (decide (PySem.W.findIn K (.ref (He.ga K "NotBefore")) "__init__" = some (some (.ref (He.ma K (He.ga K "NotBefore") "__init__")))))))))))))))
def fb11 (K : PySem.W.Frag) : Bool := decide (PySem.W.typeIn K (.ref (He.ma K (He.ga K "NotBefore") "__init__")) = some (.type "function")) && ((He.Fa.glo "BadQuestion").ok K && (excB K (He.ga K "BadQuestion") && (oexB K (He.ga K "BadQuestion") && (decide (PySem.W.findIn K (.ref (He.ga K "BadQuestion")) "__init__" = some (some (.ref (He.ma K (He.ga K "BadQuestion") "__init__")))) && (decide (PySem.W.typeIn K (.ref (He.ma K (He.ga K "BadQuestion") "__init__")) = some (.type "function")) && (decide (PySem.W.findIn K (.ref (He.ga K "BadQuestion")) "what" = some none) && (decide (PySem.W.findIn K (.ref (He.ga K "BadQuestion")) "at" = some none) && ((He.Fa.glo "Again").ok K && (excB K (He.ga K "Again") && (oexB K (He.ga K "Again") && (decide (PySem.W.findIn K (.ref (He.ga K "Again")) "__init__" = some (some (.ref (He.ma K (He.ga K "Again") "__init__")))))))))))))))
def fb12 (K : PySem.W.Frag) : Bool := decide (PySem.W.typeIn K (.ref (He.ma K (He.ga K "Again") "__init__")) = some (.type "function")) && (decide (PySem.W.findIn K (.ref (He.ga K "Again")) "what" = some none) && ((He.Fa.glo "Foreign").ok K && (excB K (He.ga K "Foreign") && (oexB K (He.ga K "Foreign") && (decide (PySem.W.findIn K (.ref (He.ga K "Foreign")) "__init__" = some (some (.ref (He.ma K (He.ga K "Foreign") "__init__")))) && (decide (PySem.W.typeIn K (.ref (He.ma K (He.ga K "Foreign") "__init__")) = some (.type "function")) && (decide (PySem.W.findIn K (.ref (He.ga K "Foreign")) "what" = some none) && ((He.Fa.glo "NoPage").ok K && (excB K (He.ga K "NoPage") && (oexB K (He.ga K "NoPage") && (decide (PySem.W.findIn K (.ref (He.ga K "NoPage")) "__init__" = some (some (.ref (He.ma K (He.ga K "NoPage") "__init__")))))))))))))))
def fb13 (K : PySem.W.Frag) : Bool := decide (PySem.W.typeIn K (.ref (He.ma K (He.ga K "NoPage") "__init__")) = some (.type "function")) && (decide (PySem.W.findIn K (.ref (He.ga K "NoPage")) "name" = some none) && ((He.Fa.glo "NoFactor").ok K && (excB K (He.ga K "NoFactor") && (oexB K (He.ga K "NoFactor") && (decide (PySem.W.findIn K (.ref (He.ga K "NoFactor")) "__init__" = some (some (.ref (He.ma K (He.ga K "NoFactor") "__init__")))) && (decide (PySem.W.typeIn K (.ref (He.ma K (He.ga K "NoFactor") "__init__")) = some (.type "function")) && (decide (PySem.W.findIn K (.ref (He.ga K "NoFactor")) "what" = some none) && ((He.Fa.glo "NotUniform").ok K && (excB K (He.ga K "NotUniform") && (oexB K (He.ga K "NotUniform") && (decide (PySem.W.findIn K (.ref (He.ga K "NotUniform")) "__init__" = some (some (.ref (He.ma K (He.ga K "NotUniform") "__init__")))))))))))))))
def fb14 (K : PySem.W.Frag) : Bool := decide (PySem.W.typeIn K (.ref (He.ma K (He.ga K "NotUniform") "__init__")) = some (.type "function")) && ((He.Fa.glo "NotDecided").ok K && (excB K (He.ga K "NotDecided") && (oexB K (He.ga K "NotDecided") && (decide (PySem.W.findIn K (.ref (He.ga K "NotDecided")) "__init__" = some (some (.ref (He.ma K (He.ga K "NotDecided") "__init__")))) && (decide (PySem.W.typeIn K (.ref (He.ma K (He.ga K "NotDecided") "__init__")) = some (.type "function")) && ((He.Fa.glo "Undetermined").ok K && (excB K (He.ga K "Undetermined") && (oexB K (He.ga K "Undetermined") && (decide (PySem.W.findIn K (.ref (He.ga K "Undetermined")) "__init__" = some (some (.ref (He.ma K (He.ga K "Undetermined") "__init__")))) && (decide (PySem.W.typeIn K (.ref (He.ma K (He.ga K "Undetermined") "__init__")) = some (.type "function")) && ((He.Fa.glo "BadPaper").ok K)))))))))))
def fb15 (K : PySem.W.Frag) : Bool := excB K (He.ga K "BadPaper") && (oexB K (He.ga K "BadPaper") && (decide (PySem.W.findIn K (.ref (He.ga K "BadPaper")) "__init__" = some (some (.ref (He.ma K (He.ga K "BadPaper") "__init__")))) && (decide (PySem.W.typeIn K (.ref (He.ma K (He.ga K "BadPaper") "__init__")) = some (.type "function")) && (decide (PySem.W.findIn K (.ref (He.ga K "BadPaper")) "line" = some none) && (decide (PySem.W.findIn K (.ref (He.ga K "BadPaper")) "what" = some none) && ((He.Fa.glo "NotDone").ok K && (excB K (He.ga K "NotDone") && (oexB K (He.ga K "NotDone") && (decide (PySem.W.findIn K (.ref (He.ga K "NotDone")) "__init__" = some (some (.ref (He.ma K (He.ga K "NotDone") "__init__")))) && (decide (PySem.W.typeIn K (.ref (He.ma K (He.ga K "NotDone") "__init__")) = some (.type "function")) && ((He.Fa.glo "Unasked").ok K)))))))))))
def fb16 (K : PySem.W.Frag) : Bool := excB K (He.ga K "Unasked") && (oexB K (He.ga K "Unasked") && (decide (PySem.W.findIn K (.ref (He.ga K "Unasked")) "__init__" = some (some (.ref (He.ma K (He.ga K "Unasked") "__init__")))) && (decide (PySem.W.typeIn K (.ref (He.ma K (He.ga K "Unasked") "__init__")) = some (.type "function")) && ((He.Fa.glo "TooMany").ok K && (excB K (He.ga K "TooMany") && (oexB K (He.ga K "TooMany") && (decide (PySem.W.findIn K (.ref (He.ga K "TooMany")) "__init__" = some (some (.ref (He.ma K (He.ga K "TooMany") "__init__")))) && (decide (PySem.W.typeIn K (.ref (He.ma K (He.ga K "TooMany") "__init__")) = some (.type "function")) && (decide (PySem.W.findIn K (.ref (He.ga K "TooMany")) "most" = some none) && ((He.Fa.glo "NotEnough").ok K && (excB K (He.ga K "NotEnough"))))))))))))
def fb17 (K : PySem.W.Frag) : Bool := oexB K (He.ga K "NotEnough") && (decide (PySem.W.findIn K (.ref (He.ga K "NotEnough")) "__init__" = some (some (.ref (He.ma K (He.ga K "NotEnough") "__init__")))) && (decide (PySem.W.typeIn K (.ref (He.ma K (He.ga K "NotEnough") "__init__")) = some (.type "function")) && ((He.Fa.glo "KnownRow").ok K && (excB K (He.ga K "KnownRow") && (oexB K (He.ga K "KnownRow") && (decide (PySem.W.findIn K (.ref (He.ga K "KnownRow")) "__init__" = some (some (.ref (He.ma K (He.ga K "KnownRow") "__init__")))) && (decide (PySem.W.typeIn K (.ref (He.ma K (He.ga K "KnownRow") "__init__")) = some (.type "function")) && (decide (PySem.W.findIn K (.ref (He.ga K "KnownRow")) "name" = some none) && (decide (PySem.W.findIn K (.ref (He.ga K "KnownRow")) "row" = some none) && ((He.Fa.glo "BadFoe").ok K && (excB K (He.ga K "BadFoe"))))))))))))
def fb18 (K : PySem.W.Frag) : Bool := oexB K (He.ga K "BadFoe") && (decide (PySem.W.findIn K (.ref (He.ga K "BadFoe")) "__init__" = some (some (.ref (He.ma K (He.ga K "BadFoe") "__init__")))) && (decide (PySem.W.typeIn K (.ref (He.ma K (He.ga K "BadFoe") "__init__")) = some (.type "function")) && (decide (PySem.W.findIn K (.ref (He.ga K "BadFoe")) "what" = some none) && ((He.Fa.glo "BadPolicy").ok K && (excB K (He.ga K "BadPolicy") && (oexB K (He.ga K "BadPolicy") && (decide (PySem.W.findIn K (.ref (He.ga K "BadPolicy")) "__init__" = some (some (.ref (He.ma K (He.ga K "BadPolicy") "__init__")))) && (decide (PySem.W.typeIn K (.ref (He.ma K (He.ga K "BadPolicy") "__init__")) = some (.type "function")) && ((He.Fa.glo "BadDead").ok K && (excB K (He.ga K "BadDead") && (oexB K (He.ga K "BadDead"))))))))))))
def fb19 (K : PySem.W.Frag) : Bool := decide (PySem.W.findIn K (.ref (He.ga K "BadDead")) "__init__" = some (some (.ref (He.ma K (He.ga K "BadDead") "__init__")))) && (decide (PySem.W.typeIn K (.ref (He.ma K (He.ga K "BadDead") "__init__")) = some (.type "function")) && (decide (PySem.W.findIn K (.ref (He.ga K "BadDead")) "at" = some none) && ((He.Fa.glo "NoSpread").ok K && (excB K (He.ga K "NoSpread") && (oexB K (He.ga K "NoSpread") && (decide (PySem.W.findIn K (.ref (He.ga K "NoSpread")) "__init__" = some (some (.ref (He.ma K (He.ga K "NoSpread") "__init__")))) && (decide (PySem.W.typeIn K (.ref (He.ma K (He.ga K "NoSpread") "__init__")) = some (.type "function")) && (decide (PySem.W.findIn K (.ref (He.ga K "NoSpread")) "what" = some none) && ((He.Fa.glo "NotInDoubt").ok K && (excB K (He.ga K "NotInDoubt") && (oexB K (He.ga K "NotInDoubt"))))))))))))
def fb20 (K : PySem.W.Frag) : Bool := decide (PySem.W.findIn K (.ref (He.ga K "NotInDoubt")) "__init__" = some (some (.ref (He.ma K (He.ga K "NotInDoubt") "__init__")))) && (decide (PySem.W.typeIn K (.ref (He.ma K (He.ga K "NotInDoubt") "__init__")) = some (.type "function")) && (decide (PySem.W.findIn K (.ref (He.ga K "NotInDoubt")) "point" = some none) && ((He.Fa.glo "BadDeed").ok K && (excB K (He.ga K "BadDeed") && (oexB K (He.ga K "BadDeed") && (decide (PySem.W.findIn K (.ref (He.ga K "BadDeed")) "__init__" = some (some (.ref (He.ma K (He.ga K "BadDeed") "__init__")))) && (decide (PySem.W.typeIn K (.ref (He.ma K (He.ga K "BadDeed") "__init__")) = some (.type "function")) && ((He.Fa.glo "NotNewest").ok K && (excB K (He.ga K "NotNewest") && (oexB K (He.ga K "NotNewest") && (decide (PySem.W.findIn K (.ref (He.ga K "NotNewest")) "__init__" = some (some (.ref (He.ma K (He.ga K "NotNewest") "__init__")))))))))))))))
def fb21 (K : PySem.W.Frag) : Bool := decide (PySem.W.typeIn K (.ref (He.ma K (He.ga K "NotNewest") "__init__")) = some (.type "function")) && ((He.Fa.glo "NothingCut").ok K && (excB K (He.ga K "NothingCut") && (oexB K (He.ga K "NothingCut") && (decide (PySem.W.findIn K (.ref (He.ga K "NothingCut")) "__init__" = some (some (.ref (He.ma K (He.ga K "NothingCut") "__init__")))) && (decide (PySem.W.typeIn K (.ref (He.ma K (He.ga K "NothingCut") "__init__")) = some (.type "function")) && ((He.Fa.glo "Unfit").ok K && (excB K (He.ga K "Unfit") && (oexB K (He.ga K "Unfit") && (decide (PySem.W.findIn K (.ref (He.ga K "Unfit")) "__init__" = some (some (.ref (He.ma K (He.ga K "Unfit") "__init__")))) && (decide (PySem.W.typeIn K (.ref (He.ma K (He.ga K "Unfit") "__init__")) = some (.type "function")) && (decide (PySem.W.findIn K (.ref (He.ga K "Unfit")) "name" = some none))))))))))))
def fb22 (K : PySem.W.Frag) : Bool := (He.Fa.glo "NotKnown").ok K && (excB K (He.ga K "NotKnown") && (oexB K (He.ga K "NotKnown") && (decide (PySem.W.findIn K (.ref (He.ga K "NotKnown")) "__init__" = some (some (.ref (He.ma K (He.ga K "NotKnown") "__init__")))) && (decide (PySem.W.typeIn K (.ref (He.ma K (He.ga K "NotKnown") "__init__")) = some (.type "function")) && (decide (PySem.W.findIn K (.ref (He.ga K "NotKnown")) "at" = some none) && ((He.Fa.glo "BadStory").ok K && (excB K (He.ga K "BadStory") && (oexB K (He.ga K "BadStory") && (decide (PySem.W.findIn K (.ref (He.ga K "BadStory")) "__init__" = some (some (.ref (He.ma K (He.ga K "BadStory") "__init__")))) && (decide (PySem.W.typeIn K (.ref (He.ma K (He.ga K "BadStory") "__init__")) = some (.type "function")) && (decide (PySem.W.findIn K (.ref (He.ga K "BadStory")) "line" = some none))))))))))))
def fb23 (K : PySem.W.Frag) : Bool := fbaseB K (He.ga K "FetchError") && ((He.Fa.glo "_law_bag").ok K && ((He.Fa.glo "_law_draw").ok K && ((He.Fa.glo "_law_classes").ok K && ((He.Fa.glo "law").ok K))))
def fb (K : PySem.W.Frag) : Bool := fb0 K && (fb1 K && (fb2 K && (fb3 K && (fb4 K && (fb5 K && (fb6 K && (fb7 K && (fb8 K && (fb9 K && (fb10 K && (fb11 K && (fb12 K && (fb13 K && (fb14 K && (fb15 K && (fb16 K && (fb17 K && (fb18 K && (fb19 K && (fb20 K && (fb21 K && (fb22 K && (fb23 K)))))))))))))))))))))))
def dd_BadRow___init__ : He.DefD := ⟨("BadRow", some "__init__"), "__init__", "BadRow.__init__", defArgs s_BadRow___init__, defBody s_BadRow___init__, defScope s_BadRow___init__, [], []⟩
def dd_BadBox___init__ : He.DefD := ⟨("BadBox", some "__init__"), "__init__", "BadBox.__init__", defArgs s_BadBox___init__, defBody s_BadBox___init__, defScope s_BadBox___init__, [], []⟩
def dd_BadColumn___init__ : He.DefD := ⟨("BadColumn", some "__init__"), "__init__", "BadColumn.__init__", defArgs s_BadColumn___init__, defBody s_BadColumn___init__, defScope s_BadColumn___init__, [], []⟩
def dd_BadText___init__ : He.DefD := ⟨("BadText", some "__init__"), "__init__", "BadText.__init__", defArgs s_BadText___init__, defBody s_BadText___init__, defScope s_BadText___init__, [], []⟩
def dd_BadPage___init__ : He.DefD := ⟨("BadPage", some "__init__"), "__init__", "BadPage.__init__", defArgs s_BadPage___init__, defBody s_BadPage___init__, defScope s_BadPage___init__, [], []⟩
def dd_BadIndex___init__ : He.DefD := ⟨("BadIndex", some "__init__"), "__init__", "BadIndex.__init__", defArgs s_BadIndex___init__, defBody s_BadIndex___init__, defScope s_BadIndex___init__, [], []⟩
def dd_BadLayer___init__ : He.DefD := ⟨("BadLayer", some "__init__"), "__init__", "BadLayer.__init__", defArgs s_BadLayer___init__, defBody s_BadLayer___init__, defScope s_BadLayer___init__, [], []⟩
def dd_NoIndex___init__ : He.DefD := ⟨("NoIndex", some "__init__"), "__init__", "NoIndex.__init__", defArgs s_NoIndex___init__, defBody s_NoIndex___init__, defScope s_NoIndex___init__, [], []⟩
def dd_BadTable___init__ : He.DefD := ⟨("BadTable", some "__init__"), "__init__", "BadTable.__init__", defArgs s_BadTable___init__, defBody s_BadTable___init__, defScope s_BadTable___init__, [], []⟩
def dd_NoLayer___init__ : He.DefD := ⟨("NoLayer", some "__init__"), "__init__", "NoLayer.__init__", defArgs s_NoLayer___init__, defBody s_NoLayer___init__, defScope s_NoLayer___init__, [], []⟩
def dd_BadStore___init__ : He.DefD := ⟨("BadStore", some "__init__"), "__init__", "BadStore.__init__", defArgs s_BadStore___init__, defBody s_BadStore___init__, defScope s_BadStore___init__, [], []⟩
def dd_NoTable___init__ : He.DefD := ⟨("NoTable", some "__init__"), "__init__", "NoTable.__init__", defArgs s_NoTable___init__, defBody s_NoTable___init__, defScope s_NoTable___init__, [], []⟩
def dd_BadChange___init__ : He.DefD := ⟨("BadChange", some "__init__"), "__init__", "BadChange.__init__", defArgs s_BadChange___init__, defBody s_BadChange___init__, defScope s_BadChange___init__, [], []⟩
def dd_BadKinds___init__ : He.DefD := ⟨("BadKinds", some "__init__"), "__init__", "BadKinds.__init__", defArgs s_BadKinds___init__, defBody s_BadKinds___init__, defScope s_BadKinds___init__, [], []⟩
def dd_LayersFull___init__ : He.DefD := ⟨("LayersFull", some "__init__"), "__init__", "LayersFull.__init__", defArgs s_LayersFull___init__, defBody s_LayersFull___init__, defScope s_LayersFull___init__, [], []⟩
def dd_BadNumber___init__ : He.DefD := ⟨("BadNumber", some "__init__"), "__init__", "BadNumber.__init__", defArgs s_BadNumber___init__, defBody s_BadNumber___init__, defScope s_BadNumber___init__, [], []⟩
def dd_NotBefore___init__ : He.DefD := ⟨("NotBefore", some "__init__"), "__init__", "NotBefore.__init__", defArgs s_NotBefore___init__, defBody s_NotBefore___init__, defScope s_NotBefore___init__, [], []⟩
def dd_BadQuestion___init__ : He.DefD := ⟨("BadQuestion", some "__init__"), "__init__", "BadQuestion.__init__", defArgs s_BadQuestion___init__, defBody s_BadQuestion___init__, defScope s_BadQuestion___init__, [], []⟩
def dd_Again___init__ : He.DefD := ⟨("Again", some "__init__"), "__init__", "Again.__init__", defArgs s_Again___init__, defBody s_Again___init__, defScope s_Again___init__, [], []⟩
def dd_Foreign___init__ : He.DefD := ⟨("Foreign", some "__init__"), "__init__", "Foreign.__init__", defArgs s_Foreign___init__, defBody s_Foreign___init__, defScope s_Foreign___init__, [], []⟩
def dd_NoPage___init__ : He.DefD := ⟨("NoPage", some "__init__"), "__init__", "NoPage.__init__", defArgs s_NoPage___init__, defBody s_NoPage___init__, defScope s_NoPage___init__, [], []⟩
def dd_NoFactor___init__ : He.DefD := ⟨("NoFactor", some "__init__"), "__init__", "NoFactor.__init__", defArgs s_NoFactor___init__, defBody s_NoFactor___init__, defScope s_NoFactor___init__, [], []⟩
def dd_NotUniform___init__ : He.DefD := ⟨("NotUniform", some "__init__"), "__init__", "NotUniform.__init__", defArgs s_NotUniform___init__, defBody s_NotUniform___init__, defScope s_NotUniform___init__, [], []⟩
def dd_NotDecided___init__ : He.DefD := ⟨("NotDecided", some "__init__"), "__init__", "NotDecided.__init__", defArgs s_NotDecided___init__, defBody s_NotDecided___init__, defScope s_NotDecided___init__, [], []⟩
def dd_Undetermined___init__ : He.DefD := ⟨("Undetermined", some "__init__"), "__init__", "Undetermined.__init__", defArgs s_Undetermined___init__, defBody s_Undetermined___init__, defScope s_Undetermined___init__, [], []⟩
def dd_BadPaper___init__ : He.DefD := ⟨("BadPaper", some "__init__"), "__init__", "BadPaper.__init__", defArgs s_BadPaper___init__, defBody s_BadPaper___init__, defScope s_BadPaper___init__, [], []⟩
def dd_NotDone___init__ : He.DefD := ⟨("NotDone", some "__init__"), "__init__", "NotDone.__init__", defArgs s_NotDone___init__, defBody s_NotDone___init__, defScope s_NotDone___init__, [], []⟩
def dd_Unasked___init__ : He.DefD := ⟨("Unasked", some "__init__"), "__init__", "Unasked.__init__", defArgs s_Unasked___init__, defBody s_Unasked___init__, defScope s_Unasked___init__, [], []⟩
def dd_TooMany___init__ : He.DefD := ⟨("TooMany", some "__init__"), "__init__", "TooMany.__init__", defArgs s_TooMany___init__, defBody s_TooMany___init__, defScope s_TooMany___init__, [], []⟩
def dd_NotEnough___init__ : He.DefD := ⟨("NotEnough", some "__init__"), "__init__", "NotEnough.__init__", defArgs s_NotEnough___init__, defBody s_NotEnough___init__, defScope s_NotEnough___init__, [], []⟩
def dd_KnownRow___init__ : He.DefD := ⟨("KnownRow", some "__init__"), "__init__", "KnownRow.__init__", defArgs s_KnownRow___init__, defBody s_KnownRow___init__, defScope s_KnownRow___init__, [], []⟩
def dd_BadFoe___init__ : He.DefD := ⟨("BadFoe", some "__init__"), "__init__", "BadFoe.__init__", defArgs s_BadFoe___init__, defBody s_BadFoe___init__, defScope s_BadFoe___init__, [], []⟩
def dd_BadPolicy___init__ : He.DefD := ⟨("BadPolicy", some "__init__"), "__init__", "BadPolicy.__init__", defArgs s_BadPolicy___init__, defBody s_BadPolicy___init__, defScope s_BadPolicy___init__, [], []⟩
def dd_BadDead___init__ : He.DefD := ⟨("BadDead", some "__init__"), "__init__", "BadDead.__init__", defArgs s_BadDead___init__, defBody s_BadDead___init__, defScope s_BadDead___init__, [], []⟩
def dd_NoSpread___init__ : He.DefD := ⟨("NoSpread", some "__init__"), "__init__", "NoSpread.__init__", defArgs s_NoSpread___init__, defBody s_NoSpread___init__, defScope s_NoSpread___init__, [], []⟩
def dd_NotInDoubt___init__ : He.DefD := ⟨("NotInDoubt", some "__init__"), "__init__", "NotInDoubt.__init__", defArgs s_NotInDoubt___init__, defBody s_NotInDoubt___init__, defScope s_NotInDoubt___init__, [], []⟩
def dd_BadDeed___init__ : He.DefD := ⟨("BadDeed", some "__init__"), "__init__", "BadDeed.__init__", defArgs s_BadDeed___init__, defBody s_BadDeed___init__, defScope s_BadDeed___init__, [], []⟩
def dd_NotNewest___init__ : He.DefD := ⟨("NotNewest", some "__init__"), "__init__", "NotNewest.__init__", defArgs s_NotNewest___init__, defBody s_NotNewest___init__, defScope s_NotNewest___init__, [], []⟩
def dd_NothingCut___init__ : He.DefD := ⟨("NothingCut", some "__init__"), "__init__", "NothingCut.__init__", defArgs s_NothingCut___init__, defBody s_NothingCut___init__, defScope s_NothingCut___init__, [], []⟩
def dd_Unfit___init__ : He.DefD := ⟨("Unfit", some "__init__"), "__init__", "Unfit.__init__", defArgs s_Unfit___init__, defBody s_Unfit___init__, defScope s_Unfit___init__, [], []⟩
def dd_NotKnown___init__ : He.DefD := ⟨("NotKnown", some "__init__"), "__init__", "NotKnown.__init__", defArgs s_NotKnown___init__, defBody s_NotKnown___init__, defScope s_NotKnown___init__, [], []⟩
def dd_BadStory___init__ : He.DefD := ⟨("BadStory", some "__init__"), "__init__", "BadStory.__init__", defArgs s_BadStory___init__, defBody s_BadStory___init__, defScope s_BadStory___init__, [], []⟩
def dd__law_bag : He.DefD := ⟨("_law_bag", none), "_law_bag", "_law_bag", defArgs s__law_bag, defBody s__law_bag, defScope s__law_bag, [], []⟩
def dd__law_draw : He.DefD := ⟨("_law_draw", none), "_law_draw", "_law_draw", defArgs s__law_draw, defBody s__law_draw, defScope s__law_draw, [], []⟩
def dd__law_classes : He.DefD := ⟨("_law_classes", none), "_law_classes", "_law_classes", defArgs s__law_classes, defBody s__law_classes, defScope s__law_classes, [], []⟩
def dd_law : He.DefD := ⟨("law", none), "law", "law", defArgs s_law, defBody s_law, defScope s_law, [], []⟩
def fn : List He.DefD := [dd_BadRow___init__, dd_BadBox___init__, dd_BadColumn___init__, dd_BadText___init__, dd_BadPage___init__, dd_BadIndex___init__, dd_BadLayer___init__, dd_NoIndex___init__, dd_BadTable___init__, dd_NoLayer___init__, dd_BadStore___init__, dd_NoTable___init__, dd_BadChange___init__, dd_BadKinds___init__, dd_LayersFull___init__, dd_BadNumber___init__, dd_NotBefore___init__, dd_BadQuestion___init__, dd_Again___init__, dd_Foreign___init__, dd_NoPage___init__, dd_NoFactor___init__, dd_NotUniform___init__, dd_NotDecided___init__, dd_Undetermined___init__, dd_BadPaper___init__, dd_NotDone___init__, dd_Unasked___init__, dd_TooMany___init__, dd_NotEnough___init__, dd_KnownRow___init__, dd_BadFoe___init__, dd_BadPolicy___init__, dd_BadDead___init__, dd_NoSpread___init__, dd_NotInDoubt___init__, dd_BadDeed___init__, dd_NotNewest___init__, dd_NothingCut___init__, dd_Unfit___init__, dd_NotKnown___init__, dd_BadStory___init__, dd__law_bag, dd__law_draw, dd__law_classes, dd_law]
theorem tx_of {K : PySem.W.Frag} {h : Heap} {mg : Str → Option Value} (X : K.In h) (G : h.Ns mainGlobals mg) (c : SaysF fb fn K) : Tx K mg := by
  have top := c.all.1
  obtain ⟨z0, top⟩ := He.ba top
  obtain ⟨z1, top⟩ := He.ba top
  obtain ⟨z2, top⟩ := He.ba top
  obtain ⟨z3, top⟩ := He.ba top
  obtain ⟨z4, top⟩ := He.ba top
  obtain ⟨z5, top⟩ := He.ba top
  obtain ⟨z6, top⟩ := He.ba top
  obtain ⟨z7, top⟩ := He.ba top
  obtain ⟨z8, top⟩ := He.ba top
  obtain ⟨z9, top⟩ := He.ba top
  obtain ⟨z10, top⟩ := He.ba top
  obtain ⟨z11, top⟩ := He.ba top
  obtain ⟨z12, top⟩ := He.ba top
  obtain ⟨z13, top⟩ := He.ba top
  obtain ⟨z14, top⟩ := He.ba top
  obtain ⟨z15, top⟩ := He.ba top
  obtain ⟨z16, top⟩ := He.ba top
  obtain ⟨z17, top⟩ := He.ba top
  obtain ⟨z18, top⟩ := He.ba top
  obtain ⟨z19, top⟩ := He.ba top
  obtain ⟨z20, top⟩ := He.ba top
  obtain ⟨z21, top⟩ := He.ba top
  obtain ⟨z22, top⟩ := He.ba top
  have z23 := top
  obtain ⟨q0_0, z0⟩ := He.ba z0
  obtain ⟨q0_1, z0⟩ := He.ba z0
  obtain ⟨q0_2, z0⟩ := He.ba z0
  obtain ⟨q0_3, z0⟩ := He.ba z0
  obtain ⟨q0_4, z0⟩ := He.ba z0
  obtain ⟨q0_5, z0⟩ := He.ba z0
  obtain ⟨q0_6, z0⟩ := He.ba z0
  obtain ⟨q0_7, z0⟩ := He.ba z0
  obtain ⟨q0_8, z0⟩ := He.ba z0
  obtain ⟨q0_9, z0⟩ := He.ba z0
  obtain ⟨q0_10, z0⟩ := He.ba z0
  have q0_11 := z0
  obtain ⟨q1_0, z1⟩ := He.ba z1
  obtain ⟨q1_1, z1⟩ := He.ba z1
  obtain ⟨q1_2, z1⟩ := He.ba z1
  obtain ⟨q1_3, z1⟩ := He.ba z1
  obtain ⟨q1_4, z1⟩ := He.ba z1
  obtain ⟨q1_5, z1⟩ := He.ba z1
  obtain ⟨q1_6, z1⟩ := He.ba z1
  obtain ⟨q1_7, z1⟩ := He.ba z1
  obtain ⟨q1_8, z1⟩ := He.ba z1
  obtain ⟨q1_9, z1⟩ := He.ba z1
  obtain ⟨q1_10, z1⟩ := He.ba z1
  have q1_11 := z1
  obtain ⟨q2_0, z2⟩ := He.ba z2
  obtain ⟨q2_1, z2⟩ := He.ba z2
  obtain ⟨q2_2, z2⟩ := He.ba z2
  obtain ⟨q2_3, z2⟩ := He.ba z2
  obtain ⟨q2_4, z2⟩ := He.ba z2
  obtain ⟨q2_5, z2⟩ := He.ba z2
  obtain ⟨q2_6, z2⟩ := He.ba z2
  obtain ⟨q2_7, z2⟩ := He.ba z2
  obtain ⟨q2_8, z2⟩ := He.ba z2
  obtain ⟨q2_9, z2⟩ := He.ba z2
  obtain ⟨q2_10, z2⟩ := He.ba z2
  have q2_11 := z2
  obtain ⟨q3_0, z3⟩ := He.ba z3
  obtain ⟨q3_1, z3⟩ := He.ba z3
  obtain ⟨q3_2, z3⟩ := He.ba z3
  obtain ⟨q3_3, z3⟩ := He.ba z3
  obtain ⟨q3_4, z3⟩ := He.ba z3
  obtain ⟨q3_5, z3⟩ := He.ba z3
  obtain ⟨q3_6, z3⟩ := He.ba z3
  obtain ⟨q3_7, z3⟩ := He.ba z3
  obtain ⟨q3_8, z3⟩ := He.ba z3
  obtain ⟨q3_9, z3⟩ := He.ba z3
  obtain ⟨q3_10, z3⟩ := He.ba z3
  have q3_11 := z3
  obtain ⟨q4_0, z4⟩ := He.ba z4
  obtain ⟨q4_1, z4⟩ := He.ba z4
  obtain ⟨q4_2, z4⟩ := He.ba z4
  obtain ⟨q4_3, z4⟩ := He.ba z4
  obtain ⟨q4_4, z4⟩ := He.ba z4
  obtain ⟨q4_5, z4⟩ := He.ba z4
  obtain ⟨q4_6, z4⟩ := He.ba z4
  obtain ⟨q4_7, z4⟩ := He.ba z4
  obtain ⟨q4_8, z4⟩ := He.ba z4
  obtain ⟨q4_9, z4⟩ := He.ba z4
  obtain ⟨q4_10, z4⟩ := He.ba z4
  have q4_11 := z4
  obtain ⟨q5_0, z5⟩ := He.ba z5
  obtain ⟨q5_1, z5⟩ := He.ba z5
  obtain ⟨q5_2, z5⟩ := He.ba z5
  obtain ⟨q5_3, z5⟩ := He.ba z5
  obtain ⟨q5_4, z5⟩ := He.ba z5
  obtain ⟨q5_5, z5⟩ := He.ba z5
  obtain ⟨q5_6, z5⟩ := He.ba z5
  obtain ⟨q5_7, z5⟩ := He.ba z5
  obtain ⟨q5_8, z5⟩ := He.ba z5
  obtain ⟨q5_9, z5⟩ := He.ba z5
  obtain ⟨q5_10, z5⟩ := He.ba z5
  have q5_11 := z5
  obtain ⟨q6_0, z6⟩ := He.ba z6
  obtain ⟨q6_1, z6⟩ := He.ba z6
  obtain ⟨q6_2, z6⟩ := He.ba z6
  obtain ⟨q6_3, z6⟩ := He.ba z6
  obtain ⟨q6_4, z6⟩ := He.ba z6
  obtain ⟨q6_5, z6⟩ := He.ba z6
  obtain ⟨q6_6, z6⟩ := He.ba z6
  obtain ⟨q6_7, z6⟩ := He.ba z6
  obtain ⟨q6_8, z6⟩ := He.ba z6
  obtain ⟨q6_9, z6⟩ := He.ba z6
  obtain ⟨q6_10, z6⟩ := He.ba z6
  have q6_11 := z6
  obtain ⟨q7_0, z7⟩ := He.ba z7
  obtain ⟨q7_1, z7⟩ := He.ba z7
  obtain ⟨q7_2, z7⟩ := He.ba z7
  obtain ⟨q7_3, z7⟩ := He.ba z7
  obtain ⟨q7_4, z7⟩ := He.ba z7
  obtain ⟨q7_5, z7⟩ := He.ba z7
  obtain ⟨q7_6, z7⟩ := He.ba z7
  obtain ⟨q7_7, z7⟩ := He.ba z7
  obtain ⟨q7_8, z7⟩ := He.ba z7
  obtain ⟨q7_9, z7⟩ := He.ba z7
  obtain ⟨q7_10, z7⟩ := He.ba z7
  have q7_11 := z7
  obtain ⟨q8_0, z8⟩ := He.ba z8
  obtain ⟨q8_1, z8⟩ := He.ba z8
  obtain ⟨q8_2, z8⟩ := He.ba z8
  obtain ⟨q8_3, z8⟩ := He.ba z8
  obtain ⟨q8_4, z8⟩ := He.ba z8
  obtain ⟨q8_5, z8⟩ := He.ba z8
  obtain ⟨q8_6, z8⟩ := He.ba z8
  obtain ⟨q8_7, z8⟩ := He.ba z8
  obtain ⟨q8_8, z8⟩ := He.ba z8
  obtain ⟨q8_9, z8⟩ := He.ba z8
  obtain ⟨q8_10, z8⟩ := He.ba z8
  have q8_11 := z8
  obtain ⟨q9_0, z9⟩ := He.ba z9
  obtain ⟨q9_1, z9⟩ := He.ba z9
  obtain ⟨q9_2, z9⟩ := He.ba z9
  obtain ⟨q9_3, z9⟩ := He.ba z9
  obtain ⟨q9_4, z9⟩ := He.ba z9
  obtain ⟨q9_5, z9⟩ := He.ba z9
  obtain ⟨q9_6, z9⟩ := He.ba z9
  obtain ⟨q9_7, z9⟩ := He.ba z9
  obtain ⟨q9_8, z9⟩ := He.ba z9
  obtain ⟨q9_9, z9⟩ := He.ba z9
  obtain ⟨q9_10, z9⟩ := He.ba z9
  have q9_11 := z9
  obtain ⟨q10_0, z10⟩ := He.ba z10
  obtain ⟨q10_1, z10⟩ := He.ba z10
  obtain ⟨q10_2, z10⟩ := He.ba z10
  obtain ⟨q10_3, z10⟩ := He.ba z10
  obtain ⟨q10_4, z10⟩ := He.ba z10
  obtain ⟨q10_5, z10⟩ := He.ba z10
  obtain ⟨q10_6, z10⟩ := He.ba z10
  obtain ⟨q10_7, z10⟩ := He.ba z10
  obtain ⟨q10_8, z10⟩ := He.ba z10
  obtain ⟨q10_9, z10⟩ := He.ba z10
  obtain ⟨q10_10, z10⟩ := He.ba z10
  have q10_11 := z10
  obtain ⟨q11_0, z11⟩ := He.ba z11
  obtain ⟨q11_1, z11⟩ := He.ba z11
  obtain ⟨q11_2, z11⟩ := He.ba z11
  obtain ⟨q11_3, z11⟩ := He.ba z11
  obtain ⟨q11_4, z11⟩ := He.ba z11
  obtain ⟨q11_5, z11⟩ := He.ba z11
  obtain ⟨q11_6, z11⟩ := He.ba z11
  obtain ⟨q11_7, z11⟩ := He.ba z11
  obtain ⟨q11_8, z11⟩ := He.ba z11
  obtain ⟨q11_9, z11⟩ := He.ba z11
  obtain ⟨q11_10, z11⟩ := He.ba z11
  have q11_11 := z11
  obtain ⟨q12_0, z12⟩ := He.ba z12
  obtain ⟨q12_1, z12⟩ := He.ba z12
  obtain ⟨q12_2, z12⟩ := He.ba z12
  obtain ⟨q12_3, z12⟩ := He.ba z12
  obtain ⟨q12_4, z12⟩ := He.ba z12
  obtain ⟨q12_5, z12⟩ := He.ba z12
  obtain ⟨q12_6, z12⟩ := He.ba z12
  obtain ⟨q12_7, z12⟩ := He.ba z12
  obtain ⟨q12_8, z12⟩ := He.ba z12
  obtain ⟨q12_9, z12⟩ := He.ba z12
  obtain ⟨q12_10, z12⟩ := He.ba z12
  have q12_11 := z12
  obtain ⟨q13_0, z13⟩ := He.ba z13
  obtain ⟨q13_1, z13⟩ := He.ba z13
  obtain ⟨q13_2, z13⟩ := He.ba z13
  obtain ⟨q13_3, z13⟩ := He.ba z13
  obtain ⟨q13_4, z13⟩ := He.ba z13
  obtain ⟨q13_5, z13⟩ := He.ba z13
  obtain ⟨q13_6, z13⟩ := He.ba z13
  obtain ⟨q13_7, z13⟩ := He.ba z13
  obtain ⟨q13_8, z13⟩ := He.ba z13
  obtain ⟨q13_9, z13⟩ := He.ba z13
  obtain ⟨q13_10, z13⟩ := He.ba z13
  have q13_11 := z13
  obtain ⟨q14_0, z14⟩ := He.ba z14
  obtain ⟨q14_1, z14⟩ := He.ba z14
  obtain ⟨q14_2, z14⟩ := He.ba z14
  obtain ⟨q14_3, z14⟩ := He.ba z14
  obtain ⟨q14_4, z14⟩ := He.ba z14
  obtain ⟨q14_5, z14⟩ := He.ba z14
  obtain ⟨q14_6, z14⟩ := He.ba z14
  obtain ⟨q14_7, z14⟩ := He.ba z14
  obtain ⟨q14_8, z14⟩ := He.ba z14
  obtain ⟨q14_9, z14⟩ := He.ba z14
  obtain ⟨q14_10, z14⟩ := He.ba z14
  have q14_11 := z14
  obtain ⟨q15_0, z15⟩ := He.ba z15
  obtain ⟨q15_1, z15⟩ := He.ba z15
  obtain ⟨q15_2, z15⟩ := He.ba z15
  obtain ⟨q15_3, z15⟩ := He.ba z15
  obtain ⟨q15_4, z15⟩ := He.ba z15
  obtain ⟨q15_5, z15⟩ := He.ba z15
  obtain ⟨q15_6, z15⟩ := He.ba z15
  obtain ⟨q15_7, z15⟩ := He.ba z15
  obtain ⟨q15_8, z15⟩ := He.ba z15
  obtain ⟨q15_9, z15⟩ := He.ba z15
  obtain ⟨q15_10, z15⟩ := He.ba z15
  have q15_11 := z15
  obtain ⟨q16_0, z16⟩ := He.ba z16
  obtain ⟨q16_1, z16⟩ := He.ba z16
  obtain ⟨q16_2, z16⟩ := He.ba z16
  obtain ⟨q16_3, z16⟩ := He.ba z16
  obtain ⟨q16_4, z16⟩ := He.ba z16
  obtain ⟨q16_5, z16⟩ := He.ba z16
  obtain ⟨q16_6, z16⟩ := He.ba z16
  obtain ⟨q16_7, z16⟩ := He.ba z16
  obtain ⟨q16_8, z16⟩ := He.ba z16
  obtain ⟨q16_9, z16⟩ := He.ba z16
  obtain ⟨q16_10, z16⟩ := He.ba z16
  have q16_11 := z16
  obtain ⟨q17_0, z17⟩ := He.ba z17
  obtain ⟨q17_1, z17⟩ := He.ba z17
  obtain ⟨q17_2, z17⟩ := He.ba z17
  obtain ⟨q17_3, z17⟩ := He.ba z17
  obtain ⟨q17_4, z17⟩ := He.ba z17
  obtain ⟨q17_5, z17⟩ := He.ba z17
  obtain ⟨q17_6, z17⟩ := He.ba z17
  obtain ⟨q17_7, z17⟩ := He.ba z17
  obtain ⟨q17_8, z17⟩ := He.ba z17
  obtain ⟨q17_9, z17⟩ := He.ba z17
  obtain ⟨q17_10, z17⟩ := He.ba z17
  have q17_11 := z17
  obtain ⟨q18_0, z18⟩ := He.ba z18
  obtain ⟨q18_1, z18⟩ := He.ba z18
  obtain ⟨q18_2, z18⟩ := He.ba z18
  obtain ⟨q18_3, z18⟩ := He.ba z18
  obtain ⟨q18_4, z18⟩ := He.ba z18
  obtain ⟨q18_5, z18⟩ := He.ba z18
  obtain ⟨q18_6, z18⟩ := He.ba z18
  obtain ⟨q18_7, z18⟩ := He.ba z18
  obtain ⟨q18_8, z18⟩ := He.ba z18
  obtain ⟨q18_9, z18⟩ := He.ba z18
  obtain ⟨q18_10, z18⟩ := He.ba z18
  have q18_11 := z18
  obtain ⟨q19_0, z19⟩ := He.ba z19
  obtain ⟨q19_1, z19⟩ := He.ba z19
  obtain ⟨q19_2, z19⟩ := He.ba z19
  obtain ⟨q19_3, z19⟩ := He.ba z19
  obtain ⟨q19_4, z19⟩ := He.ba z19
  obtain ⟨q19_5, z19⟩ := He.ba z19
  obtain ⟨q19_6, z19⟩ := He.ba z19
  obtain ⟨q19_7, z19⟩ := He.ba z19
  obtain ⟨q19_8, z19⟩ := He.ba z19
  obtain ⟨q19_9, z19⟩ := He.ba z19
  obtain ⟨q19_10, z19⟩ := He.ba z19
  have q19_11 := z19
  obtain ⟨q20_0, z20⟩ := He.ba z20
  obtain ⟨q20_1, z20⟩ := He.ba z20
  obtain ⟨q20_2, z20⟩ := He.ba z20
  obtain ⟨q20_3, z20⟩ := He.ba z20
  obtain ⟨q20_4, z20⟩ := He.ba z20
  obtain ⟨q20_5, z20⟩ := He.ba z20
  obtain ⟨q20_6, z20⟩ := He.ba z20
  obtain ⟨q20_7, z20⟩ := He.ba z20
  obtain ⟨q20_8, z20⟩ := He.ba z20
  obtain ⟨q20_9, z20⟩ := He.ba z20
  obtain ⟨q20_10, z20⟩ := He.ba z20
  have q20_11 := z20
  obtain ⟨q21_0, z21⟩ := He.ba z21
  obtain ⟨q21_1, z21⟩ := He.ba z21
  obtain ⟨q21_2, z21⟩ := He.ba z21
  obtain ⟨q21_3, z21⟩ := He.ba z21
  obtain ⟨q21_4, z21⟩ := He.ba z21
  obtain ⟨q21_5, z21⟩ := He.ba z21
  obtain ⟨q21_6, z21⟩ := He.ba z21
  obtain ⟨q21_7, z21⟩ := He.ba z21
  obtain ⟨q21_8, z21⟩ := He.ba z21
  obtain ⟨q21_9, z21⟩ := He.ba z21
  obtain ⟨q21_10, z21⟩ := He.ba z21
  have q21_11 := z21
  obtain ⟨q22_0, z22⟩ := He.ba z22
  obtain ⟨q22_1, z22⟩ := He.ba z22
  obtain ⟨q22_2, z22⟩ := He.ba z22
  obtain ⟨q22_3, z22⟩ := He.ba z22
  obtain ⟨q22_4, z22⟩ := He.ba z22
  obtain ⟨q22_5, z22⟩ := He.ba z22
  obtain ⟨q22_6, z22⟩ := He.ba z22
  obtain ⟨q22_7, z22⟩ := He.ba z22
  obtain ⟨q22_8, z22⟩ := He.ba z22
  obtain ⟨q22_9, z22⟩ := He.ba z22
  obtain ⟨q22_10, z22⟩ := He.ba z22
  have q22_11 := z22
  obtain ⟨q23_0, z23⟩ := He.ba z23
  obtain ⟨q23_1, z23⟩ := He.ba z23
  obtain ⟨q23_2, z23⟩ := He.ba z23
  obtain ⟨q23_3, z23⟩ := He.ba z23
  have q23_4 := z23
  exact ⟨He.free_ok X G q0_0,
    He.free_ok X G q0_1,
    He.free_ok X G q0_2,
    He.free_ok X G q0_3,
    He.free_ok X G q0_4,
    He.free_ok X G q0_5,
    He.free_ok X G q0_6,
    He.free_ok X G q0_7,
    q0_8,
    He.glo_ok X G q0_9,
    excB_ok q0_10,
    q0_11,
    q1_0,
    of_decide_eq_true q1_1,
    He.glo_ok X G q1_2,
    excB_ok q1_3,
    q1_4,
    q1_5,
    of_decide_eq_true q1_6,
    He.glo_ok X G q1_7,
    excB_ok q1_8,
    oexB_ok q1_9,
    of_decide_eq_true q1_10,
    of_decide_eq_true q1_11,
    of_decide_eq_true q2_0,
    He.glo_ok X G q2_1,
    excB_ok q2_2,
    oexB_ok q2_3,
    of_decide_eq_true q2_4,
    of_decide_eq_true q2_5,
    of_decide_eq_true q2_6,
    of_decide_eq_true q2_7,
    He.glo_ok X G q2_8,
    excB_ok q2_9,
    q2_10,
    q2_11,
    of_decide_eq_true q3_0,
    He.glo_ok X G q3_1,
    excB_ok q3_2,
    oexB_ok q3_3,
    of_decide_eq_true q3_4,
    of_decide_eq_true q3_5,
    of_decide_eq_true q3_6,
    He.glo_ok X G q3_7,
    excB_ok q3_8,
    q3_9,
    q3_10,
    of_decide_eq_true q3_11,
    He.glo_ok X G q4_0,
    excB_ok q4_1,
    oexB_ok q4_2,
    of_decide_eq_true q4_3,
    of_decide_eq_true q4_4,
    of_decide_eq_true q4_5,
    He.glo_ok X G q4_6,
    excB_ok q4_7,
    oexB_ok q4_8,
    of_decide_eq_true q4_9,
    of_decide_eq_true q4_10,
    of_decide_eq_true q4_11,
    He.glo_ok X G q5_0,
    excB_ok q5_1,
    oexB_ok q5_2,
    of_decide_eq_true q5_3,
    of_decide_eq_true q5_4,
    of_decide_eq_true q5_5,
    He.glo_ok X G q5_6,
    excB_ok q5_7,
    oexB_ok q5_8,
    of_decide_eq_true q5_9,
    of_decide_eq_true q5_10,
    of_decide_eq_true q5_11,
    of_decide_eq_true q6_0,
    He.glo_ok X G q6_1,
    excB_ok q6_2,
    oexB_ok q6_3,
    of_decide_eq_true q6_4,
    of_decide_eq_true q6_5,
    of_decide_eq_true q6_6,
    He.glo_ok X G q6_7,
    excB_ok q6_8,
    oexB_ok q6_9,
    of_decide_eq_true q6_10,
    of_decide_eq_true q6_11,
    of_decide_eq_true q7_0,
    of_decide_eq_true q7_1,
    He.glo_ok X G q7_2,
    excB_ok q7_3,
    oexB_ok q7_4,
    of_decide_eq_true q7_5,
    of_decide_eq_true q7_6,
    of_decide_eq_true q7_7,
    He.glo_ok X G q7_8,
    excB_ok q7_9,
    oexB_ok q7_10,
    of_decide_eq_true q7_11,
    of_decide_eq_true q8_0,
    of_decide_eq_true q8_1,
    of_decide_eq_true q8_2,
    He.glo_ok X G q8_3,
    excB_ok q8_4,
    oexB_ok q8_5,
    of_decide_eq_true q8_6,
    of_decide_eq_true q8_7,
    of_decide_eq_true q8_8,
    He.glo_ok X G q8_9,
    excB_ok q8_10,
    oexB_ok q8_11,
    of_decide_eq_true q9_0,
    of_decide_eq_true q9_1,
    of_decide_eq_true q9_2,
    He.glo_ok X G q9_3,
    excB_ok q9_4,
    oexB_ok q9_5,
    of_decide_eq_true q9_6,
    of_decide_eq_true q9_7,
    He.glo_ok X G q9_8,
    excB_ok q9_9,
    oexB_ok q9_10,
    of_decide_eq_true q9_11,
    of_decide_eq_true q10_0,
    of_decide_eq_true q10_1,
    He.glo_ok X G q10_2,
    excB_ok q10_3,
    oexB_ok q10_4,
    of_decide_eq_true q10_5,
    of_decide_eq_true q10_6,
    of_decide_eq_true q10_7,
    He.glo_ok X G q10_8,
    excB_ok q10_9,
    oexB_ok q10_10,
    of_decide_eq_true q10_11,
    of_decide_eq_true q11_0,
    He.glo_ok X G q11_1,
    excB_ok q11_2,
    oexB_ok q11_3,
    of_decide_eq_true q11_4,
    of_decide_eq_true q11_5,
    of_decide_eq_true q11_6,
    of_decide_eq_true q11_7,
    He.glo_ok X G q11_8,
    excB_ok q11_9,
    oexB_ok q11_10,
    of_decide_eq_true q11_11,
    of_decide_eq_true q12_0,
    of_decide_eq_true q12_1,
    He.glo_ok X G q12_2,
    excB_ok q12_3,
    oexB_ok q12_4,
    of_decide_eq_true q12_5,
    of_decide_eq_true q12_6,
    of_decide_eq_true q12_7,
    He.glo_ok X G q12_8,
    excB_ok q12_9,
    oexB_ok q12_10,
    of_decide_eq_true q12_11,
    of_decide_eq_true q13_0,
    of_decide_eq_true q13_1,
    He.glo_ok X G q13_2,
    excB_ok q13_3,
    oexB_ok q13_4,
    of_decide_eq_true q13_5,
    of_decide_eq_true q13_6,
    of_decide_eq_true q13_7,
    He.glo_ok X G q13_8,
    excB_ok q13_9,
    oexB_ok q13_10,
    of_decide_eq_true q13_11,
    of_decide_eq_true q14_0,
    He.glo_ok X G q14_1,
    excB_ok q14_2,
    oexB_ok q14_3,
    of_decide_eq_true q14_4,
    of_decide_eq_true q14_5,
    He.glo_ok X G q14_6,
    excB_ok q14_7,
    oexB_ok q14_8,
    of_decide_eq_true q14_9,
    of_decide_eq_true q14_10,
    He.glo_ok X G q14_11,
    excB_ok q15_0,
    oexB_ok q15_1,
    of_decide_eq_true q15_2,
    of_decide_eq_true q15_3,
    of_decide_eq_true q15_4,
    of_decide_eq_true q15_5,
    He.glo_ok X G q15_6,
    excB_ok q15_7,
    oexB_ok q15_8,
    of_decide_eq_true q15_9,
    of_decide_eq_true q15_10,
    He.glo_ok X G q15_11,
    excB_ok q16_0,
    oexB_ok q16_1,
    of_decide_eq_true q16_2,
    of_decide_eq_true q16_3,
    He.glo_ok X G q16_4,
    excB_ok q16_5,
    oexB_ok q16_6,
    of_decide_eq_true q16_7,
    of_decide_eq_true q16_8,
    of_decide_eq_true q16_9,
    He.glo_ok X G q16_10,
    excB_ok q16_11,
    oexB_ok q17_0,
    of_decide_eq_true q17_1,
    of_decide_eq_true q17_2,
    He.glo_ok X G q17_3,
    excB_ok q17_4,
    oexB_ok q17_5,
    of_decide_eq_true q17_6,
    of_decide_eq_true q17_7,
    of_decide_eq_true q17_8,
    of_decide_eq_true q17_9,
    He.glo_ok X G q17_10,
    excB_ok q17_11,
    oexB_ok q18_0,
    of_decide_eq_true q18_1,
    of_decide_eq_true q18_2,
    of_decide_eq_true q18_3,
    He.glo_ok X G q18_4,
    excB_ok q18_5,
    oexB_ok q18_6,
    of_decide_eq_true q18_7,
    of_decide_eq_true q18_8,
    He.glo_ok X G q18_9,
    excB_ok q18_10,
    oexB_ok q18_11,
    of_decide_eq_true q19_0,
    of_decide_eq_true q19_1,
    of_decide_eq_true q19_2,
    He.glo_ok X G q19_3,
    excB_ok q19_4,
    oexB_ok q19_5,
    of_decide_eq_true q19_6,
    of_decide_eq_true q19_7,
    of_decide_eq_true q19_8,
    He.glo_ok X G q19_9,
    excB_ok q19_10,
    oexB_ok q19_11,
    of_decide_eq_true q20_0,
    of_decide_eq_true q20_1,
    of_decide_eq_true q20_2,
    He.glo_ok X G q20_3,
    excB_ok q20_4,
    oexB_ok q20_5,
    of_decide_eq_true q20_6,
    of_decide_eq_true q20_7,
    He.glo_ok X G q20_8,
    excB_ok q20_9,
    oexB_ok q20_10,
    of_decide_eq_true q20_11,
    of_decide_eq_true q21_0,
    He.glo_ok X G q21_1,
    excB_ok q21_2,
    oexB_ok q21_3,
    of_decide_eq_true q21_4,
    of_decide_eq_true q21_5,
    He.glo_ok X G q21_6,
    excB_ok q21_7,
    oexB_ok q21_8,
    of_decide_eq_true q21_9,
    of_decide_eq_true q21_10,
    of_decide_eq_true q21_11,
    He.glo_ok X G q22_0,
    excB_ok q22_1,
    oexB_ok q22_2,
    of_decide_eq_true q22_3,
    of_decide_eq_true q22_4,
    of_decide_eq_true q22_5,
    He.glo_ok X G q22_6,
    excB_ok q22_7,
    oexB_ok q22_8,
    of_decide_eq_true q22_9,
    of_decide_eq_true q22_10,
    of_decide_eq_true q22_11,
    fbaseB_ok q23_0,
    c.def_ (d := dd_BadRow___init__) (by simp only [fn, List.mem_cons, true_or, or_true]),
    c.def_ (d := dd_BadBox___init__) (by simp only [fn, List.mem_cons, true_or, or_true]),
    c.def_ (d := dd_BadColumn___init__) (by simp only [fn, List.mem_cons, true_or, or_true]),
    c.def_ (d := dd_BadText___init__) (by simp only [fn, List.mem_cons, true_or, or_true]),
    c.def_ (d := dd_BadPage___init__) (by simp only [fn, List.mem_cons, true_or, or_true]),
    c.def_ (d := dd_BadIndex___init__) (by simp only [fn, List.mem_cons, true_or, or_true]),
    c.def_ (d := dd_BadLayer___init__) (by simp only [fn, List.mem_cons, true_or, or_true]),
    c.def_ (d := dd_NoIndex___init__) (by simp only [fn, List.mem_cons, true_or, or_true]),
    c.def_ (d := dd_BadTable___init__) (by simp only [fn, List.mem_cons, true_or, or_true]),
    c.def_ (d := dd_NoLayer___init__) (by simp only [fn, List.mem_cons, true_or, or_true]),
    c.def_ (d := dd_BadStore___init__) (by simp only [fn, List.mem_cons, true_or, or_true]),
    c.def_ (d := dd_NoTable___init__) (by simp only [fn, List.mem_cons, true_or, or_true]),
    c.def_ (d := dd_BadChange___init__) (by simp only [fn, List.mem_cons, true_or, or_true]),
    c.def_ (d := dd_BadKinds___init__) (by simp only [fn, List.mem_cons, true_or, or_true]),
    c.def_ (d := dd_LayersFull___init__) (by simp only [fn, List.mem_cons, true_or, or_true]),
    c.def_ (d := dd_BadNumber___init__) (by simp only [fn, List.mem_cons, true_or, or_true]),
    c.def_ (d := dd_NotBefore___init__) (by simp only [fn, List.mem_cons, true_or, or_true]),
    c.def_ (d := dd_BadQuestion___init__) (by simp only [fn, List.mem_cons, true_or, or_true]),
    c.def_ (d := dd_Again___init__) (by simp only [fn, List.mem_cons, true_or, or_true]),
    c.def_ (d := dd_Foreign___init__) (by simp only [fn, List.mem_cons, true_or, or_true]),
    c.def_ (d := dd_NoPage___init__) (by simp only [fn, List.mem_cons, true_or, or_true]),
    c.def_ (d := dd_NoFactor___init__) (by simp only [fn, List.mem_cons, true_or, or_true]),
    c.def_ (d := dd_NotUniform___init__) (by simp only [fn, List.mem_cons, true_or, or_true]),
    c.def_ (d := dd_NotDecided___init__) (by simp only [fn, List.mem_cons, true_or, or_true]),
    c.def_ (d := dd_Undetermined___init__) (by simp only [fn, List.mem_cons, true_or, or_true]),
    c.def_ (d := dd_BadPaper___init__) (by simp only [fn, List.mem_cons, true_or, or_true]),
    c.def_ (d := dd_NotDone___init__) (by simp only [fn, List.mem_cons, true_or, or_true]),
    c.def_ (d := dd_Unasked___init__) (by simp only [fn, List.mem_cons, true_or, or_true]),
    c.def_ (d := dd_TooMany___init__) (by simp only [fn, List.mem_cons, true_or, or_true]),
    c.def_ (d := dd_NotEnough___init__) (by simp only [fn, List.mem_cons, true_or, or_true]),
    c.def_ (d := dd_KnownRow___init__) (by simp only [fn, List.mem_cons, true_or, or_true]),
    c.def_ (d := dd_BadFoe___init__) (by simp only [fn, List.mem_cons, true_or, or_true]),
    c.def_ (d := dd_BadPolicy___init__) (by simp only [fn, List.mem_cons, true_or, or_true]),
    c.def_ (d := dd_BadDead___init__) (by simp only [fn, List.mem_cons, true_or, or_true]),
    c.def_ (d := dd_NoSpread___init__) (by simp only [fn, List.mem_cons, true_or, or_true]),
    c.def_ (d := dd_NotInDoubt___init__) (by simp only [fn, List.mem_cons, true_or, or_true]),
    c.def_ (d := dd_BadDeed___init__) (by simp only [fn, List.mem_cons, true_or, or_true]),
    c.def_ (d := dd_NotNewest___init__) (by simp only [fn, List.mem_cons, true_or, or_true]),
    c.def_ (d := dd_NothingCut___init__) (by simp only [fn, List.mem_cons, true_or, or_true]),
    c.def_ (d := dd_Unfit___init__) (by simp only [fn, List.mem_cons, true_or, or_true]),
    c.def_ (d := dd_NotKnown___init__) (by simp only [fn, List.mem_cons, true_or, or_true]),
    c.def_ (d := dd_BadStory___init__) (by simp only [fn, List.mem_cons, true_or, or_true]),
    He.glo_ok X G q23_1,
    c.def_ (d := dd__law_bag) (by simp only [fn, List.mem_cons, true_or, or_true]),
    He.glo_ok X G q23_2,
    c.def_ (d := dd__law_draw) (by simp only [fn, List.mem_cons, true_or, or_true]),
    He.glo_ok X G q23_3,
    c.def_ (d := dd__law_classes) (by simp only [fn, List.mem_cons, true_or, or_true]),
    He.glo_ok X G q23_4,
    c.def_ (d := dd_law) (by simp only [fn, List.mem_cons, true_or, or_true])⟩
theorem exAll {K : PySem.W.Frag} {mg : Str → Option Value} (T : Tx K mg) : ∀ k, k < 45 → ExcC K (ga K k) := by
  intro k hk
  by_cases e0 : k = 0
  · rw [e0]
    exact T.x_BadWidths
  by_cases e1 : k = 1
  · rw [e1]
    exact T.x_BadRow
  by_cases e2 : k = 2
  · rw [e2]
    exact T.x_BadBox
  by_cases e3 : k = 3
  · rw [e3]
    exact T.x_UnlikeBoxes
  by_cases e4 : k = 4
  · rw [e4]
    exact T.x_BadColumn
  by_cases e5 : k = 5
  · rw [e5]
    exact T.x_BadData
  by_cases e6 : k = 6
  · rw [e6]
    exact T.x_BadText
  by_cases e7 : k = 7
  · rw [e7]
    exact T.x_BadPage
  by_cases e8 : k = 8
  · rw [e8]
    exact T.x_BadIndex
  by_cases e9 : k = 9
  · rw [e9]
    exact T.x_BadLayer
  by_cases e10 : k = 10
  · rw [e10]
    exact T.x_NoIndex
  by_cases e11 : k = 11
  · rw [e11]
    exact T.x_BadTable
  by_cases e12 : k = 12
  · rw [e12]
    exact T.x_NoLayer
  by_cases e13 : k = 13
  · rw [e13]
    exact T.x_BadStore
  by_cases e14 : k = 14
  · rw [e14]
    exact T.x_NoTable
  by_cases e15 : k = 15
  · rw [e15]
    exact T.x_BadChange
  by_cases e16 : k = 16
  · rw [e16]
    exact T.x_BadKinds
  by_cases e17 : k = 17
  · rw [e17]
    exact T.x_LayersFull
  by_cases e18 : k = 18
  · rw [e18]
    exact T.x_BadNumber
  by_cases e19 : k = 19
  · rw [e19]
    exact T.x_NotBefore
  by_cases e20 : k = 20
  · rw [e20]
    exact T.x_BadQuestion
  by_cases e21 : k = 21
  · rw [e21]
    exact T.x_Again
  by_cases e22 : k = 22
  · rw [e22]
    exact T.x_Foreign
  by_cases e23 : k = 23
  · rw [e23]
    exact T.x_NoPage
  by_cases e24 : k = 24
  · rw [e24]
    exact T.x_NoFactor
  by_cases e25 : k = 25
  · rw [e25]
    exact T.x_NotUniform
  by_cases e26 : k = 26
  · rw [e26]
    exact T.x_NotDecided
  by_cases e27 : k = 27
  · rw [e27]
    exact T.x_Undetermined
  by_cases e28 : k = 28
  · rw [e28]
    exact T.x_BadPaper
  by_cases e29 : k = 29
  · rw [e29]
    exact T.x_NotDone
  by_cases e30 : k = 30
  · rw [e30]
    exact T.x_Unasked
  by_cases e31 : k = 31
  · rw [e31]
    exact T.x_TooMany
  by_cases e32 : k = 32
  · rw [e32]
    exact T.x_NotEnough
  by_cases e33 : k = 33
  · rw [e33]
    exact T.x_KnownRow
  by_cases e34 : k = 34
  · rw [e34]
    exact T.x_BadFoe
  by_cases e35 : k = 35
  · rw [e35]
    exact T.x_BadPolicy
  by_cases e36 : k = 36
  · rw [e36]
    exact T.x_BadDead
  by_cases e37 : k = 37
  · rw [e37]
    exact T.x_NoSpread
  by_cases e38 : k = 38
  · rw [e38]
    exact T.x_NotInDoubt
  by_cases e39 : k = 39
  · rw [e39]
    exact T.x_BadDeed
  by_cases e40 : k = 40
  · rw [e40]
    exact T.x_NotNewest
  by_cases e41 : k = 41
  · rw [e41]
    exact T.x_NothingCut
  by_cases e42 : k = 42
  · rw [e42]
    exact T.x_Unfit
  by_cases e43 : k = 43
  · rw [e43]
    exact T.x_NotKnown
  by_cases e44 : k = 44
  · rw [e44]
    exact T.x_BadStory
  omega
section
variable {P : Program} {w : World} {K : PySem.W.Frag} {mg : Str → Option Value} {base : Heap} {f : Addr} {fd : FuncData}
/-! ### the law's bag of draws -/
theorem ok_bag (T : Tx K mg) : ∃ fd, FnOk P w K mg base CX0 1 (He.ga K "_law_bag") fd ["script"] (spBag K) ∧ FnP K "_law_bag" "_law_bag" s__law_bag [] (He.ga K "_law_bag") fd := by
  obtain ⟨fd, F⟩ := T.d__law_bag
  refine ⟨fd, F.ok sc__law_bag (fun vs H Q E h => ?_) (fun cdv A outer s H vs Q E hr h => ?_), F⟩
  · obtain ⟨a, ns, rfl, _⟩ := h
    rfl
  · obtain ⟨a, ns, rfl, hS, k⟩ := h
    refine ⟨_, PSs.nox (pss_one (ps_ret (pe_lst (pa_cons (pe_lc (own := [("cell", 1)]) (g := gName 1) (tt := tYes) (by rfl) sc__law_bag.nd (pi_list (pe_slice sl_list (pv 0) po_none (po_some pe_int))) (blkOk_by (N := ["script", "cell"]) (sc := defScope s__law_bag) (by decide +kernel)) (fun _ _ _ _ _ => (pg_name (i := 1) sc__law_bag.nd rfl (Or.inl rfl))) (fun _ _ _ _ _ => pts_nil) (fun _ _ _ _ _ => (pe_callTy call_int1 (by rfl) T.n_int (by decide +kernel) (pa_cons (pv 1) pa_nil)))) (pa_cons pe_int (pa_cons pe_int (pa_cons pe_int (pa_cons pe_int pa_nil)))))))), ?_⟩
    refine ⟨_, rfl, 63, rfl, a, _, rfl, hS, fun q nq => ?_⟩
    rw [cut63]
    obtain ⟨l, hl, hl63⟩ : ∃ l, l = ns.take 63 ∧ l.length ≤ 63 := ⟨_, rfl, by rw [List.length_take]; omega⟩
    rw [← hl]
    have s1 : Same H (upd H q (.lst (l.map V.int))) := same_new nq
    refine ⟨q, rfl, ⟨_, .inl (.inl upd_same)⟩, fun D nD => ?_⟩
    have nDq : D ≠ q := fun z => by
      rw [z, upd_same] at nD
      cases nD
    have nDH : H D = none := by
      rw [upd_ne nDq] at nD
      exact nD
    refine lc_list (K := K) (a := q) (xs := l.map V.int) (fun i H' => Same H H' ∧ H' q = some (.lst (l.map V.int)) ∧ H' D = some (.lst ((l.take i).map V.int))) ⟨?_, ?_, ?_⟩ (fun i H' _ h => .inl (.inl h.2.1)) ?_ ?_
    · exact s1.trans (same_new nD)
    · rw [upd_ne nDq.symm, upd_same]
    · rw [upd_same]
      rfl
    · rintro i x H' hx ⟨e1, e2, e3⟩
      obtain ⟨z, hz, rfl⟩ : ∃ z, l[i]? = some z ∧ x = V.int z := by
        rw [List.getElem?_map] at hx
        cases e : l[i]? with
        | none =>
          rw [e] at hx
          cases hx
        | some z =>
          rw [e] at hx
          exact ⟨z, rfl, (Option.some.inj hx).symm⟩
      have hi : i < 63 := by
        have h1 := (List.getElem?_eq_some_iff.mp hz).1
        omega
      refine ⟨rfl, ⟨_, rfl, .inl ⟨z, rfl, _, e3, ?_, ?_, ?_, ?_⟩⟩⟩
      · rw [List.length_map, List.length_take]
        exact small1000 (by omega)
      · exact fun b o h => by
          rw [upd_ne (ne_of_none h nDH)]
          exact e1 b o h
      · rw [upd_ne nDq.symm]
        exact e2
      · rw [upd_same, List.take_add_one, hz, List.map_append]
        rfl
    · rintro H' ⟨e1, e2, e3⟩
      rw [List.length_map, List.take_length] at e3
      refine ⟨by show 5 ≤ sizeLine; decide, fun b nb => ?_⟩
      have nbD : b ≠ D := (ne_of_none e3 nb).symm
      refine k b D _ (e1.free nb) nDH (e1.trans (same_new nb)) ⟨l, 0, 0, 0, 20021, upd_same, by rw [upd_ne nbD.symm]; exact e3, by decide, by decide, by decide, by decide⟩
theorem C_bag (T : Tx K mg) : Cal P w K mg base CX0 1 "_law_bag" ["script"] [] (spBag K) := by
  obtain ⟨fd, G, F⟩ := ok_bag (P := P) (w := w) (base := base) T
  exact ⟨_, fd, [], G, T.g__law_bag, F.kp, F.bindsN fun _ _ _ _ _ _ us hl => match us, hl with | [_], _ => rfl, .nil⟩
theorem ok_draw (T : Tx K mg) : ∃ fd, FnOk P w K mg base CX0 1 (He.ga K "_law_draw") fd ["bag", "limit"] spDraw ∧ FnP K "_law_draw" "_law_draw" s__law_draw [] (He.ga K "_law_draw") fd := by
  obtain ⟨fd, F⟩ := T.d__law_draw
  refine ⟨fd, F.ok sc__law_draw (fun vs H Q E h => ?_) (fun cdv A outer s H vs Q E hr h => ?_), F⟩
  · obtain ⟨b, c, lim, n, rfl, _⟩ := h
    rfl
  · obtain ⟨b, c, lim, n, rfl, B, h0, h200, hn, k⟩ := h
    have wd : ∀ i : Int, CDivW i lim := fun i => wide_div h0 (b := 200) (by have := h200; omega) (by decide) (by decide)
    have hcb := B.two
    obtain ⟨ns, p, r, kk, m, hb, hc, k0, kn, m0, m1⟩ := B
    have md : ∀ i : Int, 0 ≤ i % lim ∧ i % lim < lim := fun i => ⟨Int.emod_nonneg i (by omega), Int.emod_lt_of_pos i h0⟩
    refine ⟨_, PSs.nox (pss_cons (ps_asg (pe_op op_add (pe_ix ix_list (pv 0) pe_int (fun _ _ => rfl)) pe_int) (pg_sub (pv 0) pe_int set_list))
      (pss_cons (ps_if (pt_cmpR op_gt (pe_ix ix_list (pv 0) pe_int (fun _ _ => rfl)) pe_int (nomark _))
        (pss_cons (ps_set (i := 2) sc__law_draw.nd rfl (Or.inl rfl) (pe_op op_mod (pe_callTy call_int1 (by rfl) T.n_int (by decide +kernel) (pa_cons (pe_ix ix_list (pv 0) pe_int (fun _ _ => rfl)) pa_nil)) (pv 1)))
        (pss_cons (ps_asg (pe_op op_fdivW (pe_ix ix_list (pv 0) pe_int (fun _ _ => rfl)) (pv 1)) (pg_sub (pv 0) pe_int set_list))
        (pss_one (ps_ret (pv 2)))))
        pss_nil)
      (pss_cons (ps_set (i := 3) sc__law_draw.nd rfl (Or.inl rfl) (pe_ix ix_list (pv 0) pe_int (fun _ _ => rfl)))
      (pss_cons (ps_if (pt_cmpR op_lt (pe_ix ix_list (pv 0) pe_int (fun _ _ => rfl)) (pe_callB call_len_seq (by rfl) T.n_len (by decide +kernel) (pa_cons (pe_ix ix_list (pv 0) pe_int (fun _ _ => rfl)) pa_nil)) (nomark _))
        (pss_cons (ps_set (i := 3) sc__law_draw.nd rfl (Or.inl rfl) (pe_ix ix_list (pe_ix ix_list (pv 0) pe_int (fun _ _ => rfl)) (pe_ix ix_list (pv 0) pe_int (fun _ _ => rfl)) (fun _ _ => rfl)))
        (pss_cons (ps_asg (pe_op op_add (pe_ix ix_list (pv 0) pe_int (fun _ _ => rfl)) pe_int) (pg_sub (pv 0) pe_int set_list))
        (pss_one (ps_if (pt_cmpR op_ge (pe_callB call_abs (by rfl) T.n_abs (by decide +kernel) (pa_cons (pv 3) pa_nil)) (pe_op op_pow pe_int pe_int) (nomark _))
          (pss_cons (ps_asg (pe_op op_fdivW (pe_callB call_abs (by rfl) T.n_abs (by decide +kernel) (pa_cons (pv 3) pa_nil)) (pv 1)) (pg_sub (pv 0) pe_int set_list))
          (pss_one (ps_ret (pe_op op_mod (pe_callTy call_int1 (by rfl) T.n_int (by decide +kernel) (pa_cons (pe_callB call_abs (by rfl) T.n_abs (by decide +kernel) (pa_cons (pv 3) pa_nil)) pa_nil)) (pv 1)))))
          pss_nil))))
        pss_nil)
      (pss_cons (ps_set (i := 4) sc__law_draw.nd rfl (Or.inl rfl) (pe_op op_mod (pe_callTy call_int1 (by rfl) T.n_int (by decide +kernel) (pa_cons (pe_op op_add (pe_op op_add (pe_op op_add (pe_op op_mul (pe_ix ix_list (pv 0) pe_int (fun _ _ => rfl)) pe_int) (pe_op op_mul (pe_op op_mod (pe_callTy call_int1 (by rfl) T.n_int (by decide +kernel) (pa_cons (pv 3) pa_nil)) pe_int) pe_int)) (pe_op op_mul (pe_ix ix_list (pv 0) pe_int (fun _ _ => rfl)) pe_int)) pe_int) pa_nil)) pe_int))
      (pss_cons (ps_asg (pv 4) (pg_sub (pv 0) pe_int set_list))
      (pss_cons (ps_set (i := 5) sc__law_draw.nd rfl (Or.inl rfl) (pe_op op_mod (pe_callTy call_int1 (by rfl) T.n_int (by decide +kernel) (pa_cons (pe_op op_add (pe_op op_add (pe_op op_mul (pv 4) pe_int) (pe_op op_mul (pe_op op_mul (pe_ix ix_list (pv 0) pe_int (fun _ _ => rfl)) (pe_ix ix_list (pv 0) pe_int (fun _ _ => rfl))) pe_int)) (pe_op op_fdiv (pv 4) pe_int)) pa_nil)) pe_int))
      (pss_one (ps_ret (pe_op op_mod (pe_callTy call_int1 (by rfl) T.n_int (by decide +kernel) (pa_cons (pe_op op_fdiv (pv 5) pe_int) pa_nil)) (pv 1))))))))))), ?_⟩
    -- bag[3] = bag[3] + 1
    refine ⟨_, rfl, b, _, 3, _, rfl, rfl, SqL.of hb, rfl, _, _, rfl, rfl, _, rfl, b, _, 3, 3, rfl, rfl, hb, rfl, ?_⟩
    -- the end, from any cell and any state that the branch between has left
    have fin : ∀ (σ2 σ3 σ5 : Option V) (cell : Int) (p' : Nat) (H1 : Hp), Off b H H1 → H1 b = some (bagO c p' r (kk + 1) m) →
        tSeq (tAsg (tOp (rI (fun _ j => 0 < j) fun i j => .int (i % j)) (tCB (fun xs H Q => (∃ i, xs = [.int i] ∧ Q (.int i) H) ∨ ∃ k, xs = [.bl k] ∧ Q (.int (if k then 1 else 0)) H) (tCons (tOp (rI0 fun i j => .int (i + j)) (tOp (rI0 fun i j => .int (i + j)) (tOp (rI0 fun i j => .int (i + j))
          (tOp (rI CMul fun i j => .int (i * j)) (tOp (rIxL K) (tVar 0) (tC (.int 4))) (tC (.int 48271)))
          (tOp (rI CMul fun i j => .int (i * j)) (tOp (rI (fun _ j => 0 < j) fun i j => .int (i % j)) (tCB (fun xs H Q => (∃ i, xs = [.int i] ∧ Q (.int i) H) ∨ ∃ k, xs = [.bl k] ∧ Q (.int (if k then 1 else 0)) H) (tCons (tVar 3) tNil)) (tC (.int 2147483629))) (tC (.int 69621))))
          (tOp (rI CMul fun i j => .int (i * j)) (tOp (rIxL K) (tVar 0) (tC (.int 3))) (tC (.int 7919)))) (tC (.int 11))) tNil)) (tC (.int 2147483647))) (gName 4))
        (tSeq (tAsg (tVar 4) (gSub (tVar 0) (tC (.int 4)) rSetL))
        (tSeq (tAsg (tOp (rI (fun _ j => 0 < j) fun i j => .int (i % j)) (tCB (fun xs H Q => (∃ i, xs = [.int i] ∧ Q (.int i) H) ∨ ∃ k, xs = [.bl k] ∧ Q (.int (if k then 1 else 0)) H) (tCons (tOp (rI0 fun i j => .int (i + j)) (tOp (rI0 fun i j => .int (i + j))
          (tOp (rI CMul fun i j => .int (i * j)) (tVar 4) (tC (.int 16807)))
          (tOp (rI CMul fun i j => .int (i * j)) (tOp (rI CMul fun i j => .int (i * j)) (tOp (rIxL K) (tVar 0) (tC (.int 3))) (tOp (rIxL K) (tVar 0) (tC (.int 3)))) (tC (.int 104729))))
          (tOp (rI CDiv fun i j => .int (i / j)) (tVar 4) (tC (.int 65536)))) tNil)) (tC (.int 998244353))) (gName 5))
        (tRet (tOp (rI (fun _ j => 0 < j) fun i j => .int (i % j)) (tCB (fun xs H Q => (∃ i, xs = [.int i] ∧ Q (.int i) H) ∨ ∃ k, xs = [.bl k] ∧ Q (.int (if k then 1 else 0)) H) (tCons (tOp (rI CDiv fun i j => .int (i / j)) (tVar 5) (tC (.int 7))) tNil)) (tVar 1))))) { nx := fun _ H' => Q .non H', rt := Q }
          [some (.ref b), some (.int lim), σ2, some (.int cell), σ3, σ5] H1 := fun σ2 σ3 σ5 cell p' H1 off e1 => by
      refine ⟨_, rfl, b, _, 4, _, rfl, rfl, SqL.of e1, rfl, _, _, rfl, rfl, .inr ⟨by decide, by decide⟩, ?_⟩
      refine ⟨_, rfl, .inl ⟨_, rfl, _, _, rfl, rfl, (by show (0 : Int) < 2147483629; decide), _, _, rfl, rfl, .inr ⟨by decide, by decide⟩, _, _, rfl, rfl, ?_⟩⟩
      refine ⟨_, rfl, b, _, 3, _, rfl, rfl, SqL.of e1, rfl, _, _, rfl, rfl, .inr ⟨by decide, by decide⟩, _, _, rfl, rfl, _, _, rfl, rfl, .inl ⟨_, rfl, _, _, rfl, rfl, (by show (0 : Int) < 2147483647; decide), ?_⟩⟩
      generalize hm : (m * 48271 + cell % 2147483629 * 69621 + (kk + 1) * 7919 + 11) % 2147483647 = mm
      have mm0 : 0 ≤ mm := by rw [← hm]; exact Int.emod_nonneg _ (by decide)
      have mm1 : mm < 2147483647 := by rw [← hm]; exact Int.emod_lt_of_pos _ (by decide)
      refine ⟨_, rfl, _, rfl, b, _, 4, 4, rfl, rfl, e1, rfl, ?_⟩
      have c1 : CMul (kk + 1) (kk + 1) := .inl ⟨by omega, by omega⟩
      refine ⟨_, rfl, _, _, rfl, rfl, .inr ⟨by decide, by decide⟩, _, rfl, b, _, 3, _, rfl, rfl, SqL.of upd_same, rfl, _, rfl, b, _, 3, _, rfl, rfl, SqL.of upd_same, rfl, _, _, rfl, rfl, c1, _, _, rfl, rfl, .inr ⟨by decide, by decide⟩, _, _, rfl, rfl,
        _, rfl, _, _, rfl, rfl, ⟨by decide, by decide⟩, _, _, rfl, rfl, .inl ⟨_, rfl, _, _, rfl, rfl, (by show (0 : Int) < 998244353; decide), ?_⟩⟩
      refine ⟨_, rfl, _, _, rfl, rfl, ⟨by decide, by decide⟩, .inl ⟨_, rfl, _, rfl, _, _, rfl, rfl, h0, ?_⟩⟩
      exact k _ _ (md _).1 (md _).2 (off.trans Off.upd) ⟨ns, p', r, kk + 1, mm, by rw [← hm]; exact upd_same, by rw [upd_ne hcb]; exact off.at hcb hc, by omega, by omega, mm0, mm1⟩
    -- if bag[2] > 0
    refine ⟨_, rfl, b, _, 2, _, rfl, rfl, SqL.of upd_same, rfl, _, _, rfl, rfl, _, rfl, ite2 (fun c2 => ?_) (fun c2 => ?_)⟩
    · refine ⟨_, rfl, b, _, 2, _, rfl, rfl, SqL.of upd_same, rfl, .inl ⟨_, rfl, _, rfl, _, _, rfl, rfl, h0, ?_⟩⟩
      refine ⟨_, rfl, b, _, 2, _, rfl, rfl, SqL.of upd_same, rfl, _, rfl, _, _, rfl, rfl, wd _, _, rfl, b, _, 2, 2, rfl, rfl, upd_same, rfl, ?_⟩
      rw [upd_upd]
      exact ⟨_, rfl, k _ _ (md r).1 (md r).2 Off.upd ⟨ns, p, r / lim, kk + 1, m, upd_same, by rw [upd_ne hcb]; exact hc, by omega, by omega, m0, m1⟩⟩
    -- cell = bag[3]; if bag[1] < len(bag[0])
    refine ⟨_, rfl, b, _, 3, _, rfl, rfl, SqL.of upd_same, rfl, ?_⟩
    have hc1 : (upd H b (bagO c p r (kk + 1) m)) c = some (.lst (ns.map V.int)) := by rw [upd_ne hcb]; exact hc
    refine ⟨_, rfl, b, _, 1, _, rfl, rfl, SqL.of upd_same, rfl, _, rfl, b, _, 0, _, rfl, rfl, SqL.of upd_same, rfl, c, _, rfl, .inl (SqL.of hc1), _, _, rfl, rfl, _, rfl, ite2 (fun c3 => ?_) (fun c3 => ?_)⟩
    · have hp : p < ns.length := by
        have z := of_decide_eq_true c3
        rw [List.length_map] at z
        omega
      have at_ : atI (ns.map V.int) ((p : Nat) : Int) = some (.int ns[p]) := atI_nat (by rw [List.getElem?_map, List.getElem?_eq_getElem hp]; rfl)
      refine ⟨_, rfl, b, _, 0, _, rfl, rfl, SqL.of upd_same, rfl, _, rfl, b, _, 1, _, rfl, rfl, SqL.of upd_same, rfl, c, _, _, _, rfl, rfl, SqL.of hc1, at_, ?_⟩
      refine ⟨_, rfl, b, _, 1, _, rfl, rfl, SqL.of upd_same, rfl, _, _, rfl, rfl, _, rfl, b, _, 1, 1, rfl, rfl, upd_same, rfl, ?_⟩
      rw [upd_upd]
      refine ⟨_, rfl, _, rfl, _, _, rfl, rfl, ⟨by decide, by decide, by decide⟩, _, _, rfl, rfl, _, rfl, ite2 (fun c4 => ?_) (fun c4 => ?_)⟩
      · refine ⟨_, rfl, _, rfl, _, rfl, _, _, rfl, rfl, wd _, _, rfl, b, _, 2, 2, rfl, rfl, upd_same, rfl, ?_⟩
        rw [upd_upd]
        refine ⟨_, rfl, _, rfl, .inl ⟨_, rfl, _, rfl, _, _, rfl, rfl, h0, ?_⟩⟩
        exact k _ _ (md _).1 (md _).2 Off.upd ⟨ns, p + 1, _, kk + 1, m, upd_same, by rw [upd_ne hcb]; exact hc, by omega, by omega, m0, m1⟩
      · exact fin _ _ _ _ (p + 1) _ Off.upd upd_same
    · exact fin _ _ _ _ p _ Off.upd upd_same
theorem C_draw (T : Tx K mg) : Cal P w K mg base CX0 1 "_law_draw" ["bag", "limit"] [] spDraw := by
  obtain ⟨fd, G, F⟩ := ok_draw (P := P) (w := w) (base := base) T
  exact ⟨_, fd, [], G, T.g__law_draw, F.kp, F.bindsN fun _ _ _ _ _ _ us hl => match us, hl with | [_, _], _ => rfl, .nil⟩

end
end K99

set_option maxRecDepth 100000
set_option maxHeartbeats 0
namespace K99
open PySem PySem.Spec PyProof.Rows L2 Q
def ob (s : PySem.W.SharedT) : He.AlD := obsFG 4 fb fn (HandSHeadRun.getT s)
abbrev hk : PySem.W.Hook := hookF 4 fb fn
theorem ob_eq (s : PySem.W.SharedT) : ob s = hk.obs s.abs := obsFG_eq (HandSHeadRun.getT_eq s)
abbrev RowQ : PySem.W.OpenRow := PySem.W.OpenLaw.row PySem.Challenge.rw_fewfetches_k99_errors_stand_apart
theorem run (w : World) : HandSHeadRun.RunEq RowQ (PySem.W.view RowQ.prog [51]) hk ob 20000 [("FetchError" : PySem.Str), ("BadWidths" : PySem.Str), ("BadRow" : PySem.Str), ("BadBox" : PySem.Str), ("UnlikeBoxes" : PySem.Str), ("BadColumn" : PySem.Str), ("BadData" : PySem.Str), ("BadText" : PySem.Str), ("BadPage" : PySem.Str), ("BadIndex" : PySem.Str), ("BadLayer" : PySem.Str), ("NoIndex" : PySem.Str), ("BadTable" : PySem.Str), ("NoLayer" : PySem.Str), ("BadStore" : PySem.Str), ("NoTable" : PySem.Str), ("BadChange" : PySem.Str), ("BadKinds" : PySem.Str), ("LayersFull" : PySem.Str), ("BadNumber" : PySem.Str), ("NotBefore" : PySem.Str), ("BadQuestion" : PySem.Str), ("Again" : PySem.Str), ("Foreign" : PySem.Str), ("NoPage" : PySem.Str), ("NoFactor" : PySem.Str), ("NotUniform" : PySem.Str), ("NotDecided" : PySem.Str), ("Undetermined" : PySem.Str), ("BadPaper" : PySem.Str), ("NotDone" : PySem.Str), ("Unasked" : PySem.Str), ("TooMany" : PySem.Str), ("NotEnough" : PySem.Str), ("KnownRow" : PySem.Str), ("BadFoe" : PySem.Str), ("BadPolicy" : PySem.Str), ("BadDead" : PySem.Str), ("NoSpread" : PySem.Str), ("NotInDoubt" : PySem.Str), ("BadDeed" : PySem.Str), ("NotNewest" : PySem.Str), ("NothingCut" : PySem.Str), ("Unfit" : PySem.Str), ("NotKnown" : PySem.Str), ("BadStory" : PySem.Str), ("_law_bag" : PySem.Str), ("_law_draw" : PySem.Str), ("_law_classes" : PySem.Str)] w := by
  intro os
  kernel_rfl

end K99

set_option maxRecDepth 100000
set_option maxHeartbeats 4000000
namespace K99
open PySem PySem.Spec PyProof.Rows L2 Q
section
variable {P : Program} {w : World} {K : PySem.W.Frag} {mg : Str → Option Value} {base : Heap} {f : Addr} {fd : FuncData}
/-- what an own error's __init__ keeps: its fields are fs of the arguments -/
def spXV (C : Addr) (n : Nat) (pre : List V → Prop) (fs : List V → List (Str × V)) : Sp := fun vs H Q _ => ∃ (a : Addr) (ws : List V), vs = .ref a :: ws ∧ ws.length = n ∧ pre ws ∧ H a = some (exo a C none) ∧ ∀ H', (∀ b o, b ≠ a → H b = some o → H' b = some o) → ExAt H' a C (fs ws) → Q .non H'
/-- a text or a whole number that goes into an error's words -/
def Word (v : V) : Prop := (∃ y : Str, v = .str y ∧ y.length ≤ 100) ∨ ∃ i : Int, v = .int i ∧ i.natAbs < 10 ^ 40
theorem fin1 {H : Hp} {a C dx : Addr} {f : Str} {y : V} (nd : H dx = none) (ne : dx ≠ a) : (∀ b o, b ≠ a → H b = some o → (upd (upd H dx (exd dx [(f, y)])) a (exo a C (some dx))) b = some o) ∧ ExAt (upd (upd H dx (exd dx [(f, y)])) a (exo a C (some dx))) a C [(f, y)] :=
  ⟨fun b o nb e => by rw [upd_ne nb, upd_ne (ne_of_none e nd)]; exact e, .inr ⟨dx, upd_same, by rw [upd_ne ne, upd_same]⟩⟩
theorem fin2 {H : Hp} {a C dx : Addr} {fs : List (Str × V)} (nd : H dx = none) (ne : dx ≠ a) : (∀ b o, b ≠ a → H b = some o → (upd (upd H dx (exd dx fs)) a (exo a C (some dx))) b = some o) ∧ ExAt (upd (upd H dx (exd dx fs)) a (exo a C (some dx))) a C fs :=
  ⟨fun b o nb e => by rw [upd_ne nb, upd_ne (ne_of_none e nd)]; exact e, .inr ⟨dx, upd_same, by rw [upd_ne ne, upd_same]⟩⟩
/-- one part of a message -/
theorem fmt_word {ts : List TE} {σ : L2.St} {H : Hp} {acc : Str} {v : V} {R : Str → Hp → Prop} {i : Nat} (hv : Word v) (hs : σ[i]? = some (some v)) (ha : acc.length ≤ 1000) (r : ∀ y : Str, (acc ++ y).length ≤ acc.length + 100 → tJs ts (acc ++ y) σ H R) :
    tJs (tFmt (tVar i) :: ts) acc σ H R := by
  have big : sizeLine = 16777216 := sizeLine_eq
  rcases hv with ⟨y, rfl, hy⟩ | ⟨n, rfl, hn⟩
  · have l : (acc ++ y).length ≤ acc.length + 100 := by rw [strLen_append]; omega
    exact ⟨_, hs, .inl ⟨y, rfl, by omega, y, rfl, by omega, r y l⟩⟩
  · have h1 : n.natAbs.log2 < 134 := PySem.Flt.log2_lt_of (by decide) (Nat.lt_of_lt_of_le hn (by decide))
    have e := int_text_length_le10 (a := n) (k := 40) (by decide) hn
    have e2 : (PyData.shown (.int n)).length = (toString n).length := PySem.ofString_length _
    have e3 : (PyData.shown (.int n)).length ≤ 60 := by omega
    have l : (acc ++ PyData.shown (.int n)).length ≤ acc.length + 100 := by rw [strLen_append]; omega
    exact ⟨_, hs, .inr ⟨n, rfl, by omega, _, rfl, by show (acc ++ PyData.shown (.int n)).length ≤ sizeLine; omega, r _ l⟩⟩
theorem str_part {ts : List TE} {σ : L2.St} {H : Hp} {acc c : Str} {R : Str → Hp → Prop} (hc : c.length ≤ 60) (ha : acc.length ≤ 1000) (r : ∀ z : Str, z.length ≤ acc.length + 60 → tJs ts z σ H R) : tJs (tC (.str c) :: ts) acc σ H R := by
  have big : sizeLine = 16777216 := sizeLine_eq
  have l : (acc ++ c).length ≤ acc.length + 60 := by rw [strLen_append]; omega
  exact ⟨c, rfl, by omega, r _ l⟩

theorem ok_BadRow (T : Tx K mg) : ∃ fd, FnOk P w K mg base CX0 1 (He.ma K (He.ga K "BadRow") "__init__") fd ["self", "row"] (spXV (He.ga K "BadRow") 1 (fun vs => True) fun vs => [("row", vs.getD 0 .non)]) ∧ Binds K fd ["self", "row"] [] := by
  obtain ⟨fd, F⟩ := T.d_BadRow___init__
  refine ⟨fd, F.ok sc_BadRow___init__ (fun vs H Q E h => ?_) (fun cdv A outer s H vs Q E hr h => ?_), F.bindsN fun _ _ _ _ _ _ us hl => match us, hl with | [_, _], _ => rfl⟩
  · obtain ⟨a, ws, rfl, hl, _⟩ := h
    show ws.length + 1 = 2
    omega
  · obtain ⟨a, ws, rfl, hl, pre, ha, q⟩ := h
    match ws, hl with
    | [y0], _ =>
      refine ⟨_, PSs.nox (pss_one (ps_ost (pv 0) (pv 1))), ?_⟩
      refine ⟨_, rfl, _, rfl, a, _, rfl, T.o_BadRow, T.noat_BadRow_row, .inl ⟨ha, fun dx nd ne => ?_⟩⟩
      exact q _ (fin1 nd ne).1 (fin1 nd ne).2
theorem ok_BadBox (T : Tx K mg) : ∃ fd, FnOk P w K mg base CX0 1 (He.ma K (He.ga K "BadBox") "__init__") fd ["self", "what", "at"] (spXV (He.ga K "BadBox") 2 (fun vs => True) fun vs => [("at", vs.getD 1 .non), ("what", vs.getD 0 .non)]) ∧ Binds K fd ["self", "what", "at"] [] := by
  obtain ⟨fd, F⟩ := T.d_BadBox___init__
  refine ⟨fd, F.ok sc_BadBox___init__ (fun vs H Q E h => ?_) (fun cdv A outer s H vs Q E hr h => ?_), F.bindsN fun _ _ _ _ _ _ us hl => match us, hl with | [_, _, _], _ => rfl⟩
  · obtain ⟨a, ws, rfl, hl, _⟩ := h
    show ws.length + 1 = 3
    omega
  · obtain ⟨a, ws, rfl, hl, pre, ha, q⟩ := h
    match ws, hl with
    | [y0, y1], _ =>
      refine ⟨_, PSs.nox (pss_cons (ps_ost (pv 0) (pv 1)) (pss_one (ps_ost (pv 0) (pv 2)))), ?_⟩
      refine ⟨_, rfl, _, rfl, a, _, rfl, T.o_BadBox, T.noat_BadBox_what, .inl ⟨ha, fun dx nd ne => ?_⟩⟩
      refine ⟨_, rfl, _, rfl, a, _, rfl, T.o_BadBox, T.noat_BadBox_at, .inr ⟨dx, _, upd_same, by rw [upd_ne ne, upd_same], (by show 1 ≤ 900; decide), ?_⟩⟩
      rw [xi_two ne]
      exact q _ (fin2 nd ne).1 (fin2 nd ne).2
theorem ok_BadColumn (T : Tx K mg) : ∃ fd, FnOk P w K mg base CX0 1 (He.ma K (He.ga K "BadColumn") "__init__") fd ["self", "column"] (spXV (He.ga K "BadColumn") 1 (fun vs => True) fun vs => [("column", vs.getD 0 .non)]) ∧ Binds K fd ["self", "column"] [] := by
  obtain ⟨fd, F⟩ := T.d_BadColumn___init__
  refine ⟨fd, F.ok sc_BadColumn___init__ (fun vs H Q E h => ?_) (fun cdv A outer s H vs Q E hr h => ?_), F.bindsN fun _ _ _ _ _ _ us hl => match us, hl with | [_, _], _ => rfl⟩
  · obtain ⟨a, ws, rfl, hl, _⟩ := h
    show ws.length + 1 = 2
    omega
  · obtain ⟨a, ws, rfl, hl, pre, ha, q⟩ := h
    match ws, hl with
    | [y0], _ =>
      refine ⟨_, PSs.nox (pss_one (ps_ost (pv 0) (pv 1))), ?_⟩
      refine ⟨_, rfl, _, rfl, a, _, rfl, T.o_BadColumn, T.noat_BadColumn_column, .inl ⟨ha, fun dx nd ne => ?_⟩⟩
      exact q _ (fin1 nd ne).1 (fin1 nd ne).2
theorem ok_BadText (T : Tx K mg) : ∃ fd, FnOk P w K mg base CX0 1 (He.ma K (He.ga K "BadText") "__init__") fd ["self", "place"] (spXV (He.ga K "BadText") 1 (fun vs => True) fun vs => [("place", vs.getD 0 .non)]) ∧ Binds K fd ["self", "place"] [] := by
  obtain ⟨fd, F⟩ := T.d_BadText___init__
  refine ⟨fd, F.ok sc_BadText___init__ (fun vs H Q E h => ?_) (fun cdv A outer s H vs Q E hr h => ?_), F.bindsN fun _ _ _ _ _ _ us hl => match us, hl with | [_, _], _ => rfl⟩
  · obtain ⟨a, ws, rfl, hl, _⟩ := h
    show ws.length + 1 = 2
    omega
  · obtain ⟨a, ws, rfl, hl, pre, ha, q⟩ := h
    match ws, hl with
    | [y0], _ =>
      refine ⟨_, PSs.nox (pss_one (ps_ost (pv 0) (pv 1))), ?_⟩
      refine ⟨_, rfl, _, rfl, a, _, rfl, T.o_BadText, T.noat_BadText_place, .inl ⟨ha, fun dx nd ne => ?_⟩⟩
      exact q _ (fin1 nd ne).1 (fin1 nd ne).2
theorem ok_BadPage (T : Tx K mg) : ∃ fd, FnOk P w K mg base CX0 1 (He.ma K (He.ga K "BadPage") "__init__") fd ["self", "what"] (spXV (He.ga K "BadPage") 1 (fun vs => True) fun vs => [("what", vs.getD 0 .non)]) ∧ Binds K fd ["self", "what"] [] := by
  obtain ⟨fd, F⟩ := T.d_BadPage___init__
  refine ⟨fd, F.ok sc_BadPage___init__ (fun vs H Q E h => ?_) (fun cdv A outer s H vs Q E hr h => ?_), F.bindsN fun _ _ _ _ _ _ us hl => match us, hl with | [_, _], _ => rfl⟩
  · obtain ⟨a, ws, rfl, hl, _⟩ := h
    show ws.length + 1 = 2
    omega
  · obtain ⟨a, ws, rfl, hl, pre, ha, q⟩ := h
    match ws, hl with
    | [y0], _ =>
      refine ⟨_, PSs.nox (pss_cons (ps_expr (pe_bInit T.fb_FetchError T.g_FetchError (pa_cons (pv 0) (pa_cons (pv 1) pa_nil)))) (pss_one (ps_ost (pv 0) (pv 1)))), ?_⟩
      refine ⟨_, rfl, _, rfl, a, _, _, rfl, by show 1 ≤ 1000; decide, T.o_BadPage, ha, ?_⟩
      refine ⟨_, rfl, _, rfl, a, _, rfl, T.o_BadPage, T.noat_BadPage_what, .inl ⟨ha, fun dx nd ne => ?_⟩⟩
      exact q _ (fin1 nd ne).1 (fin1 nd ne).2
theorem ok_BadIndex (T : Tx K mg) : ∃ fd, FnOk P w K mg base CX0 1 (He.ma K (He.ga K "BadIndex") "__init__") fd ["self", "what"] (spXV (He.ga K "BadIndex") 1 (fun vs => True) fun vs => [("what", vs.getD 0 .non)]) ∧ Binds K fd ["self", "what"] [] := by
  obtain ⟨fd, F⟩ := T.d_BadIndex___init__
  refine ⟨fd, F.ok sc_BadIndex___init__ (fun vs H Q E h => ?_) (fun cdv A outer s H vs Q E hr h => ?_), F.bindsN fun _ _ _ _ _ _ us hl => match us, hl with | [_, _], _ => rfl⟩
  · obtain ⟨a, ws, rfl, hl, _⟩ := h
    show ws.length + 1 = 2
    omega
  · obtain ⟨a, ws, rfl, hl, pre, ha, q⟩ := h
    match ws, hl with
    | [y0], _ =>
      refine ⟨_, PSs.nox (pss_cons (ps_expr (pe_bInit T.fb_FetchError T.g_FetchError (pa_cons (pv 0) (pa_cons (pv 1) pa_nil)))) (pss_one (ps_ost (pv 0) (pv 1)))), ?_⟩
      refine ⟨_, rfl, _, rfl, a, _, _, rfl, by show 1 ≤ 1000; decide, T.o_BadIndex, ha, ?_⟩
      refine ⟨_, rfl, _, rfl, a, _, rfl, T.o_BadIndex, T.noat_BadIndex_what, .inl ⟨ha, fun dx nd ne => ?_⟩⟩
      exact q _ (fin1 nd ne).1 (fin1 nd ne).2
theorem ok_BadLayer (T : Tx K mg) : ∃ fd, FnOk P w K mg base CX0 1 (He.ma K (He.ga K "BadLayer") "__init__") fd ["self", "what", "at"] (spXV (He.ga K "BadLayer") 2 (fun vs => Word (vs.getD 0 .non) ∧ Word (vs.getD 1 .non)) fun vs => [("at", vs.getD 1 .non), ("what", vs.getD 0 .non)]) ∧ Binds K fd ["self", "what", "at"] [] := by
  obtain ⟨fd, F⟩ := T.d_BadLayer___init__
  refine ⟨fd, F.ok sc_BadLayer___init__ (fun vs H Q E h => ?_) (fun cdv A outer s H vs Q E hr h => ?_), F.bindsN fun _ _ _ _ _ _ us hl => match us, hl with | [_, _, _], _ => rfl⟩
  · obtain ⟨a, ws, rfl, hl, _⟩ := h
    show ws.length + 1 = 3
    omega
  · obtain ⟨a, ws, rfl, hl, pre, ha, q⟩ := h
    match ws, hl with
    | [y0, y1], _ =>
      refine ⟨_, PSs.nox (pss_cons (ps_expr (pe_bInit T.fb_FetchError T.g_FetchError (pa_cons (pv 0) (pa_cons (pe_joined (.cons pe_str (.cons (pe_fmt (pv 1)) (.cons pe_str (.cons (pe_fmt (pv 2)) (.cons pe_str .nil)))))) pa_nil)))) (pss_cons (ps_ost (pv 0) (pv 1)) (pss_one (ps_ost (pv 0) (pv 2))))), ?_⟩
      have z16 : sizeLine = 16777216 := sizeLine_eq
      refine ⟨_, rfl, ?_⟩
      have l0 : Str.empty.length ≤ 0 := Nat.le_refl _
      refine str_part (by decide +kernel) (by omega) fun s1 ls1 => ?_
      have l1 : s1.length ≤ 100 := by omega
      refine fmt_word (v := y0) (i := 1) pre.1 (by rfl) (by omega) fun s2 ls2 => ?_
      have l2 := Nat.le_trans ls2 (show _ ≤ 200 by omega)
      revert l2
      generalize s1 ++ s2 = s2'
      intro l2
      refine str_part (by decide +kernel) (by omega) fun s3 ls3 => ?_
      have l3 : s3.length ≤ 300 := by omega
      refine fmt_word (v := y1) (i := 2) pre.2 (by rfl) (by omega) fun s4 ls4 => ?_
      have l4 := Nat.le_trans ls4 (show _ ≤ 400 by omega)
      revert l4
      generalize s3 ++ s4 = s4'
      intro l4
      refine str_part (by decide +kernel) (by omega) fun s5 ls5 => ?_
      have l5 : s5.length ≤ 500 := by omega
      refine ⟨a, _, _, rfl, by show 1 ≤ 1000; decide, T.o_BadLayer, ha, ?_⟩
      refine ⟨_, rfl, _, rfl, a, _, rfl, T.o_BadLayer, T.noat_BadLayer_what, .inl ⟨ha, fun dx nd ne => ?_⟩⟩
      refine ⟨_, rfl, _, rfl, a, _, rfl, T.o_BadLayer, T.noat_BadLayer_at, .inr ⟨dx, _, upd_same, by rw [upd_ne ne, upd_same], (by show 1 ≤ 900; decide), ?_⟩⟩
      rw [xi_two ne]
      exact q _ (fin2 nd ne).1 (fin2 nd ne).2
theorem ok_NoIndex (T : Tx K mg) : ∃ fd, FnOk P w K mg base CX0 1 (He.ma K (He.ga K "NoIndex") "__init__") fd ["self", "index"] (spXV (He.ga K "NoIndex") 1 (fun vs => True) fun vs => [("index", vs.getD 0 .non)]) ∧ Binds K fd ["self", "index"] [] := by
  obtain ⟨fd, F⟩ := T.d_NoIndex___init__
  refine ⟨fd, F.ok sc_NoIndex___init__ (fun vs H Q E h => ?_) (fun cdv A outer s H vs Q E hr h => ?_), F.bindsN fun _ _ _ _ _ _ us hl => match us, hl with | [_, _], _ => rfl⟩
  · obtain ⟨a, ws, rfl, hl, _⟩ := h
    show ws.length + 1 = 2
    omega
  · obtain ⟨a, ws, rfl, hl, pre, ha, q⟩ := h
    match ws, hl with
    | [y0], _ =>
      refine ⟨_, PSs.nox (pss_cons (ps_expr (pe_bInit T.fb_FetchError T.g_FetchError (pa_cons (pv 0) (pa_cons pe_str pa_nil)))) (pss_one (ps_ost (pv 0) (pv 1)))), ?_⟩
      refine ⟨_, rfl, a, _, _, rfl, by show 1 ≤ 1000; decide, T.o_NoIndex, ha, ?_⟩
      refine ⟨_, rfl, _, rfl, a, _, rfl, T.o_NoIndex, T.noat_NoIndex_index, .inl ⟨ha, fun dx nd ne => ?_⟩⟩
      exact q _ (fin1 nd ne).1 (fin1 nd ne).2
theorem ok_BadTable (T : Tx K mg) : ∃ fd, FnOk P w K mg base CX0 1 (He.ma K (He.ga K "BadTable") "__init__") fd ["self", "what", "at"] (spXV (He.ga K "BadTable") 2 (fun vs => Word (vs.getD 0 .non) ∧ Word (vs.getD 1 .non)) fun vs => [("at", vs.getD 1 .non), ("what", vs.getD 0 .non)]) ∧ Binds K fd ["self", "what", "at"] [] := by
  obtain ⟨fd, F⟩ := T.d_BadTable___init__
  refine ⟨fd, F.ok sc_BadTable___init__ (fun vs H Q E h => ?_) (fun cdv A outer s H vs Q E hr h => ?_), F.bindsN fun _ _ _ _ _ _ us hl => match us, hl with | [_, _, _], _ => rfl⟩
  · obtain ⟨a, ws, rfl, hl, _⟩ := h
    show ws.length + 1 = 3
    omega
  · obtain ⟨a, ws, rfl, hl, pre, ha, q⟩ := h
    match ws, hl with
    | [y0, y1], _ =>
      refine ⟨_, PSs.nox (pss_cons (ps_expr (pe_bInit T.fb_FetchError T.g_FetchError (pa_cons (pv 0) (pa_cons (pe_joined (.cons pe_str (.cons (pe_fmt (pv 1)) (.cons pe_str (.cons (pe_fmt (pv 2)) (.cons pe_str .nil)))))) pa_nil)))) (pss_cons (ps_ost (pv 0) (pv 1)) (pss_one (ps_ost (pv 0) (pv 2))))), ?_⟩
      have z16 : sizeLine = 16777216 := sizeLine_eq
      refine ⟨_, rfl, ?_⟩
      have l0 : Str.empty.length ≤ 0 := Nat.le_refl _
      refine str_part (by decide +kernel) (by omega) fun s1 ls1 => ?_
      have l1 : s1.length ≤ 100 := by omega
      refine fmt_word (v := y0) (i := 1) pre.1 (by rfl) (by omega) fun s2 ls2 => ?_
      have l2 := Nat.le_trans ls2 (show _ ≤ 200 by omega)
      revert l2
      generalize s1 ++ s2 = s2'
      intro l2
      refine str_part (by decide +kernel) (by omega) fun s3 ls3 => ?_
      have l3 : s3.length ≤ 300 := by omega
      refine fmt_word (v := y1) (i := 2) pre.2 (by rfl) (by omega) fun s4 ls4 => ?_
      have l4 := Nat.le_trans ls4 (show _ ≤ 400 by omega)
      revert l4
      generalize s3 ++ s4 = s4'
      intro l4
      refine str_part (by decide +kernel) (by omega) fun s5 ls5 => ?_
      have l5 : s5.length ≤ 500 := by omega
      refine ⟨a, _, _, rfl, by show 1 ≤ 1000; decide, T.o_BadTable, ha, ?_⟩
      refine ⟨_, rfl, _, rfl, a, _, rfl, T.o_BadTable, T.noat_BadTable_what, .inl ⟨ha, fun dx nd ne => ?_⟩⟩
      refine ⟨_, rfl, _, rfl, a, _, rfl, T.o_BadTable, T.noat_BadTable_at, .inr ⟨dx, _, upd_same, by rw [upd_ne ne, upd_same], (by show 1 ≤ 900; decide), ?_⟩⟩
      rw [xi_two ne]
      exact q _ (fin2 nd ne).1 (fin2 nd ne).2
theorem ok_NoLayer (T : Tx K mg) : ∃ fd, FnOk P w K mg base CX0 1 (He.ma K (He.ga K "NoLayer") "__init__") fd ["self", "layer"] (spXV (He.ga K "NoLayer") 1 (fun vs => True) fun vs => [("layer", vs.getD 0 .non)]) ∧ Binds K fd ["self", "layer"] [] := by
  obtain ⟨fd, F⟩ := T.d_NoLayer___init__
  refine ⟨fd, F.ok sc_NoLayer___init__ (fun vs H Q E h => ?_) (fun cdv A outer s H vs Q E hr h => ?_), F.bindsN fun _ _ _ _ _ _ us hl => match us, hl with | [_, _], _ => rfl⟩
  · obtain ⟨a, ws, rfl, hl, _⟩ := h
    show ws.length + 1 = 2
    omega
  · obtain ⟨a, ws, rfl, hl, pre, ha, q⟩ := h
    match ws, hl with
    | [y0], _ =>
      refine ⟨_, PSs.nox (pss_cons (ps_expr (pe_bInit T.fb_FetchError T.g_FetchError (pa_cons (pv 0) (pa_cons pe_str pa_nil)))) (pss_one (ps_ost (pv 0) (pv 1)))), ?_⟩
      refine ⟨_, rfl, a, _, _, rfl, by show 1 ≤ 1000; decide, T.o_NoLayer, ha, ?_⟩
      refine ⟨_, rfl, _, rfl, a, _, rfl, T.o_NoLayer, T.noat_NoLayer_layer, .inl ⟨ha, fun dx nd ne => ?_⟩⟩
      exact q _ (fin1 nd ne).1 (fin1 nd ne).2
theorem ok_BadStore (T : Tx K mg) : ∃ fd, FnOk P w K mg base CX0 1 (He.ma K (He.ga K "BadStore") "__init__") fd ["self", "what", "at"] (spXV (He.ga K "BadStore") 2 (fun vs => Word (vs.getD 0 .non) ∧ Word (vs.getD 1 .non)) fun vs => [("at", vs.getD 1 .non), ("what", vs.getD 0 .non)]) ∧ Binds K fd ["self", "what", "at"] [] := by
  obtain ⟨fd, F⟩ := T.d_BadStore___init__
  refine ⟨fd, F.ok sc_BadStore___init__ (fun vs H Q E h => ?_) (fun cdv A outer s H vs Q E hr h => ?_), F.bindsN fun _ _ _ _ _ _ us hl => match us, hl with | [_, _, _], _ => rfl⟩
  · obtain ⟨a, ws, rfl, hl, _⟩ := h
    show ws.length + 1 = 3
    omega
  · obtain ⟨a, ws, rfl, hl, pre, ha, q⟩ := h
    match ws, hl with
    | [y0, y1], _ =>
      refine ⟨_, PSs.nox (pss_cons (ps_expr (pe_bInit T.fb_FetchError T.g_FetchError (pa_cons (pv 0) (pa_cons (pe_joined (.cons pe_str (.cons (pe_fmt (pv 1)) (.cons pe_str (.cons (pe_fmt (pv 2)) (.cons pe_str .nil)))))) pa_nil)))) (pss_cons (ps_ost (pv 0) (pv 1)) (pss_one (ps_ost (pv 0) (pv 2))))), ?_⟩
      have z16 : sizeLine = 16777216 := sizeLine_eq
      refine ⟨_, rfl, ?_⟩
      have l0 : Str.empty.length ≤ 0 := Nat.le_refl _
      refine str_part (by decide +kernel) (by omega) fun s1 ls1 => ?_
      have l1 : s1.length ≤ 100 := by omega
      refine fmt_word (v := y0) (i := 1) pre.1 (by rfl) (by omega) fun s2 ls2 => ?_
      have l2 := Nat.le_trans ls2 (show _ ≤ 200 by omega)
      revert l2
      generalize s1 ++ s2 = s2'
      intro l2
      refine str_part (by decide +kernel) (by omega) fun s3 ls3 => ?_
      have l3 : s3.length ≤ 300 := by omega
      refine fmt_word (v := y1) (i := 2) pre.2 (by rfl) (by omega) fun s4 ls4 => ?_
      have l4 := Nat.le_trans ls4 (show _ ≤ 400 by omega)
      revert l4
      generalize s3 ++ s4 = s4'
      intro l4
      refine str_part (by decide +kernel) (by omega) fun s5 ls5 => ?_
      have l5 : s5.length ≤ 500 := by omega
      refine ⟨a, _, _, rfl, by show 1 ≤ 1000; decide, T.o_BadStore, ha, ?_⟩
      refine ⟨_, rfl, _, rfl, a, _, rfl, T.o_BadStore, T.noat_BadStore_what, .inl ⟨ha, fun dx nd ne => ?_⟩⟩
      refine ⟨_, rfl, _, rfl, a, _, rfl, T.o_BadStore, T.noat_BadStore_at, .inr ⟨dx, _, upd_same, by rw [upd_ne ne, upd_same], (by show 1 ≤ 900; decide), ?_⟩⟩
      rw [xi_two ne]
      exact q _ (fin2 nd ne).1 (fin2 nd ne).2
theorem ok_NoTable (T : Tx K mg) : ∃ fd, FnOk P w K mg base CX0 1 (He.ma K (He.ga K "NoTable") "__init__") fd ["self", "name"] (spXV (He.ga K "NoTable") 1 (fun vs => True) fun vs => [("name", vs.getD 0 .non)]) ∧ Binds K fd ["self", "name"] [] := by
  obtain ⟨fd, F⟩ := T.d_NoTable___init__
  refine ⟨fd, F.ok sc_NoTable___init__ (fun vs H Q E h => ?_) (fun cdv A outer s H vs Q E hr h => ?_), F.bindsN fun _ _ _ _ _ _ us hl => match us, hl with | [_, _], _ => rfl⟩
  · obtain ⟨a, ws, rfl, hl, _⟩ := h
    show ws.length + 1 = 2
    omega
  · obtain ⟨a, ws, rfl, hl, pre, ha, q⟩ := h
    match ws, hl with
    | [y0], _ =>
      refine ⟨_, PSs.nox (pss_cons (ps_expr (pe_bInit T.fb_FetchError T.g_FetchError (pa_cons (pv 0) (pa_cons pe_str pa_nil)))) (pss_one (ps_ost (pv 0) (pv 1)))), ?_⟩
      refine ⟨_, rfl, a, _, _, rfl, by show 1 ≤ 1000; decide, T.o_NoTable, ha, ?_⟩
      refine ⟨_, rfl, _, rfl, a, _, rfl, T.o_NoTable, T.noat_NoTable_name, .inl ⟨ha, fun dx nd ne => ?_⟩⟩
      exact q _ (fin1 nd ne).1 (fin1 nd ne).2
theorem ok_BadChange (T : Tx K mg) : ∃ fd, FnOk P w K mg base CX0 1 (He.ma K (He.ga K "BadChange") "__init__") fd ["self", "at"] (spXV (He.ga K "BadChange") 1 (fun vs => Word (vs.getD 0 .non)) fun vs => [("at", vs.getD 0 .non)]) ∧ Binds K fd ["self", "at"] [] := by
  obtain ⟨fd, F⟩ := T.d_BadChange___init__
  refine ⟨fd, F.ok sc_BadChange___init__ (fun vs H Q E h => ?_) (fun cdv A outer s H vs Q E hr h => ?_), F.bindsN fun _ _ _ _ _ _ us hl => match us, hl with | [_, _], _ => rfl⟩
  · obtain ⟨a, ws, rfl, hl, _⟩ := h
    show ws.length + 1 = 2
    omega
  · obtain ⟨a, ws, rfl, hl, pre, ha, q⟩ := h
    match ws, hl with
    | [y0], _ =>
      refine ⟨_, PSs.nox (pss_cons (ps_expr (pe_bInit T.fb_FetchError T.g_FetchError (pa_cons (pv 0) (pa_cons (pe_joined (.cons pe_str (.cons (pe_fmt (pv 1)) (.cons pe_str .nil)))) pa_nil)))) (pss_one (ps_ost (pv 0) (pv 1)))), ?_⟩
      have z16 : sizeLine = 16777216 := sizeLine_eq
      refine ⟨_, rfl, ?_⟩
      have l0 : Str.empty.length ≤ 0 := Nat.le_refl _
      refine str_part (by decide +kernel) (by omega) fun s1 ls1 => ?_
      have l1 : s1.length ≤ 100 := by omega
      refine fmt_word (v := y0) (i := 1) pre (by rfl) (by omega) fun s2 ls2 => ?_
      have l2 := Nat.le_trans ls2 (show _ ≤ 200 by omega)
      revert l2
      generalize s1 ++ s2 = s2'
      intro l2
      refine str_part (by decide +kernel) (by omega) fun s3 ls3 => ?_
      have l3 : s3.length ≤ 300 := by omega
      refine ⟨a, _, _, rfl, by show 1 ≤ 1000; decide, T.o_BadChange, ha, ?_⟩
      refine ⟨_, rfl, _, rfl, a, _, rfl, T.o_BadChange, T.noat_BadChange_at, .inl ⟨ha, fun dx nd ne => ?_⟩⟩
      exact q _ (fin1 nd ne).1 (fin1 nd ne).2
theorem ok_BadKinds (T : Tx K mg) : ∃ fd, FnOk P w K mg base CX0 1 (He.ma K (He.ga K "BadKinds") "__init__") fd ["self"] (spXV (He.ga K "BadKinds") 0 (fun vs => True) fun vs => []) ∧ Binds K fd ["self"] [] := by
  obtain ⟨fd, F⟩ := T.d_BadKinds___init__
  refine ⟨fd, F.ok sc_BadKinds___init__ (fun vs H Q E h => ?_) (fun cdv A outer s H vs Q E hr h => ?_), F.bindsN fun _ _ _ _ _ _ us hl => match us, hl with | [_], _ => rfl⟩
  · obtain ⟨a, ws, rfl, hl, _⟩ := h
    show ws.length + 1 = 1
    omega
  · obtain ⟨a, ws, rfl, hl, pre, ha, q⟩ := h
    match ws, hl with
    | [], _ =>
      refine ⟨_, PSs.nox (pss_one (ps_expr (pe_bInit T.fb_FetchError T.g_FetchError (pa_cons (pv 0) (pa_cons pe_str pa_nil))))), ?_⟩
      refine ⟨_, rfl, a, _, _, rfl, by show 1 ≤ 1000; decide, T.o_BadKinds, ha, ?_⟩
      exact q H (fun _ _ _ e => e) (.inl ⟨ha, rfl⟩)
theorem ok_LayersFull (T : Tx K mg) : ∃ fd, FnOk P w K mg base CX0 1 (He.ma K (He.ga K "LayersFull") "__init__") fd ["self", "name"] (spXV (He.ga K "LayersFull") 1 (fun vs => Word (vs.getD 0 .non)) fun vs => [("name", vs.getD 0 .non)]) ∧ Binds K fd ["self", "name"] [] := by
  obtain ⟨fd, F⟩ := T.d_LayersFull___init__
  refine ⟨fd, F.ok sc_LayersFull___init__ (fun vs H Q E h => ?_) (fun cdv A outer s H vs Q E hr h => ?_), F.bindsN fun _ _ _ _ _ _ us hl => match us, hl with | [_, _], _ => rfl⟩
  · obtain ⟨a, ws, rfl, hl, _⟩ := h
    show ws.length + 1 = 2
    omega
  · obtain ⟨a, ws, rfl, hl, pre, ha, q⟩ := h
    match ws, hl with
    | [y0], _ =>
      refine ⟨_, PSs.nox (pss_cons (ps_expr (pe_bInit T.fb_FetchError T.g_FetchError (pa_cons (pv 0) (pa_cons (pe_joined (.cons (pe_fmt (pv 1)) (.cons pe_str .nil))) pa_nil)))) (pss_one (ps_ost (pv 0) (pv 1)))), ?_⟩
      have z16 : sizeLine = 16777216 := sizeLine_eq
      refine ⟨_, rfl, ?_⟩
      have l0 : Str.empty.length ≤ 0 := Nat.le_refl _
      refine fmt_word (v := y0) (i := 1) pre (by rfl) (by omega) fun s1 ls1 => ?_
      have l1 := Nat.le_trans ls1 (show _ ≤ 100 by omega)
      revert l1
      generalize Str.empty ++ s1 = s1'
      intro l1
      refine str_part (by decide +kernel) (by omega) fun s2 ls2 => ?_
      have l2 : s2.length ≤ 200 := by omega
      refine ⟨a, _, _, rfl, by show 1 ≤ 1000; decide, T.o_LayersFull, ha, ?_⟩
      refine ⟨_, rfl, _, rfl, a, _, rfl, T.o_LayersFull, T.noat_LayersFull_name, .inl ⟨ha, fun dx nd ne => ?_⟩⟩
      exact q _ (fin1 nd ne).1 (fin1 nd ne).2
theorem ok_BadNumber (T : Tx K mg) : ∃ fd, FnOk P w K mg base CX0 1 (He.ma K (He.ga K "BadNumber") "__init__") fd ["self", "number"] (spXV (He.ga K "BadNumber") 1 (fun vs => True) fun vs => [("number", vs.getD 0 .non)]) ∧ Binds K fd ["self", "number"] [] := by
  obtain ⟨fd, F⟩ := T.d_BadNumber___init__
  refine ⟨fd, F.ok sc_BadNumber___init__ (fun vs H Q E h => ?_) (fun cdv A outer s H vs Q E hr h => ?_), F.bindsN fun _ _ _ _ _ _ us hl => match us, hl with | [_, _], _ => rfl⟩
  · obtain ⟨a, ws, rfl, hl, _⟩ := h
    show ws.length + 1 = 2
    omega
  · obtain ⟨a, ws, rfl, hl, pre, ha, q⟩ := h
    match ws, hl with
    | [y0], _ =>
      refine ⟨_, PSs.nox (pss_cons (ps_expr (pe_bInit T.fb_FetchError T.g_FetchError (pa_cons (pv 0) (pa_cons pe_str pa_nil)))) (pss_one (ps_ost (pv 0) (pv 1)))), ?_⟩
      refine ⟨_, rfl, a, _, _, rfl, by show 1 ≤ 1000; decide, T.o_BadNumber, ha, ?_⟩
      refine ⟨_, rfl, _, rfl, a, _, rfl, T.o_BadNumber, T.noat_BadNumber_number, .inl ⟨ha, fun dx nd ne => ?_⟩⟩
      exact q _ (fin1 nd ne).1 (fin1 nd ne).2
theorem ok_NotBefore (T : Tx K mg) : ∃ fd, FnOk P w K mg base CX0 1 (He.ma K (He.ga K "NotBefore") "__init__") fd ["self"] (spXV (He.ga K "NotBefore") 0 (fun vs => True) fun vs => []) ∧ Binds K fd ["self"] [] := by
  obtain ⟨fd, F⟩ := T.d_NotBefore___init__
  refine ⟨fd, F.ok sc_NotBefore___init__ (fun vs H Q E h => ?_) (fun cdv A outer s H vs Q E hr h => ?_), F.bindsN fun _ _ _ _ _ _ us hl => match us, hl with | [_], _ => rfl⟩
  · obtain ⟨a, ws, rfl, hl, _⟩ := h
    show ws.length + 1 = 1
    omega
  · obtain ⟨a, ws, rfl, hl, pre, ha, q⟩ := h
    match ws, hl with
    | [], _ =>
      refine ⟨_, PSs.nox (pss_one (ps_expr (pe_bInit T.fb_FetchError T.g_FetchError (pa_cons (pv 0) (pa_cons pe_str pa_nil))))), ?_⟩
      refine ⟨_, rfl, a, _, _, rfl, by show 1 ≤ 1000; decide, T.o_NotBefore, ha, ?_⟩
      exact q H (fun _ _ _ e => e) (.inl ⟨ha, rfl⟩)
theorem ok_BadQuestion (T : Tx K mg) : ∃ fd, FnOk P w K mg base CX0 1 (He.ma K (He.ga K "BadQuestion") "__init__") fd ["self", "what", "at"] (spXV (He.ga K "BadQuestion") 2 (fun vs => True) fun vs => [("at", vs.getD 1 .non), ("what", vs.getD 0 .non)]) ∧ Binds K fd ["self", "what", "at"] [] := by
  obtain ⟨fd, F⟩ := T.d_BadQuestion___init__
  refine ⟨fd, F.ok sc_BadQuestion___init__ (fun vs H Q E h => ?_) (fun cdv A outer s H vs Q E hr h => ?_), F.bindsN fun _ _ _ _ _ _ us hl => match us, hl with | [_, _, _], _ => rfl⟩
  · obtain ⟨a, ws, rfl, hl, _⟩ := h
    show ws.length + 1 = 3
    omega
  · obtain ⟨a, ws, rfl, hl, pre, ha, q⟩ := h
    match ws, hl with
    | [y0, y1], _ =>
      refine ⟨_, PSs.nox (pss_cons (ps_ost (pv 0) (pv 1)) (pss_one (ps_ost (pv 0) (pv 2)))), ?_⟩
      refine ⟨_, rfl, _, rfl, a, _, rfl, T.o_BadQuestion, T.noat_BadQuestion_what, .inl ⟨ha, fun dx nd ne => ?_⟩⟩
      refine ⟨_, rfl, _, rfl, a, _, rfl, T.o_BadQuestion, T.noat_BadQuestion_at, .inr ⟨dx, _, upd_same, by rw [upd_ne ne, upd_same], (by show 1 ≤ 900; decide), ?_⟩⟩
      rw [xi_two ne]
      exact q _ (fin2 nd ne).1 (fin2 nd ne).2
theorem ok_Again (T : Tx K mg) : ∃ fd, FnOk P w K mg base CX0 1 (He.ma K (He.ga K "Again") "__init__") fd ["self"] (spXV (He.ga K "Again") 0 (fun vs => True) fun vs => [("what", .str "again")]) ∧ Binds K fd ["self"] [] := by
  obtain ⟨fd, F⟩ := T.d_Again___init__
  refine ⟨fd, F.ok sc_Again___init__ (fun vs H Q E h => ?_) (fun cdv A outer s H vs Q E hr h => ?_), F.bindsN fun _ _ _ _ _ _ us hl => match us, hl with | [_], _ => rfl⟩
  · obtain ⟨a, ws, rfl, hl, _⟩ := h
    show ws.length + 1 = 1
    omega
  · obtain ⟨a, ws, rfl, hl, pre, ha, q⟩ := h
    match ws, hl with
    | [], _ =>
      refine ⟨_, PSs.nox (pss_one (ps_ost (pv 0) pe_str)), ?_⟩
      refine ⟨_, rfl, a, _, rfl, T.o_Again, T.noat_Again_what, .inl ⟨ha, fun dx nd ne => ?_⟩⟩
      exact q _ (fin1 nd ne).1 (fin1 nd ne).2
theorem ok_Foreign (T : Tx K mg) : ∃ fd, FnOk P w K mg base CX0 1 (He.ma K (He.ga K "Foreign") "__init__") fd ["self"] (spXV (He.ga K "Foreign") 0 (fun vs => True) fun vs => [("what", .str "foreign")]) ∧ Binds K fd ["self"] [] := by
  obtain ⟨fd, F⟩ := T.d_Foreign___init__
  refine ⟨fd, F.ok sc_Foreign___init__ (fun vs H Q E h => ?_) (fun cdv A outer s H vs Q E hr h => ?_), F.bindsN fun _ _ _ _ _ _ us hl => match us, hl with | [_], _ => rfl⟩
  · obtain ⟨a, ws, rfl, hl, _⟩ := h
    show ws.length + 1 = 1
    omega
  · obtain ⟨a, ws, rfl, hl, pre, ha, q⟩ := h
    match ws, hl with
    | [], _ =>
      refine ⟨_, PSs.nox (pss_one (ps_ost (pv 0) pe_str)), ?_⟩
      refine ⟨_, rfl, a, _, rfl, T.o_Foreign, T.noat_Foreign_what, .inl ⟨ha, fun dx nd ne => ?_⟩⟩
      exact q _ (fin1 nd ne).1 (fin1 nd ne).2
theorem ok_NoPage (T : Tx K mg) : ∃ fd, FnOk P w K mg base CX0 1 (He.ma K (He.ga K "NoPage") "__init__") fd ["self", "name"] (spXV (He.ga K "NoPage") 1 (fun vs => True) fun vs => [("name", vs.getD 0 .non)]) ∧ Binds K fd ["self", "name"] [] := by
  obtain ⟨fd, F⟩ := T.d_NoPage___init__
  refine ⟨fd, F.ok sc_NoPage___init__ (fun vs H Q E h => ?_) (fun cdv A outer s H vs Q E hr h => ?_), F.bindsN fun _ _ _ _ _ _ us hl => match us, hl with | [_, _], _ => rfl⟩
  · obtain ⟨a, ws, rfl, hl, _⟩ := h
    show ws.length + 1 = 2
    omega
  · obtain ⟨a, ws, rfl, hl, pre, ha, q⟩ := h
    match ws, hl with
    | [y0], _ =>
      refine ⟨_, PSs.nox (pss_one (ps_ost (pv 0) (pv 1))), ?_⟩
      refine ⟨_, rfl, _, rfl, a, _, rfl, T.o_NoPage, T.noat_NoPage_name, .inl ⟨ha, fun dx nd ne => ?_⟩⟩
      exact q _ (fin1 nd ne).1 (fin1 nd ne).2
theorem ok_NoFactor (T : Tx K mg) : ∃ fd, FnOk P w K mg base CX0 1 (He.ma K (He.ga K "NoFactor") "__init__") fd ["self", "what"] (spXV (He.ga K "NoFactor") 1 (fun vs => True) fun vs => [("what", vs.getD 0 .non)]) ∧ Binds K fd ["self", "what"] [] := by
  obtain ⟨fd, F⟩ := T.d_NoFactor___init__
  refine ⟨fd, F.ok sc_NoFactor___init__ (fun vs H Q E h => ?_) (fun cdv A outer s H vs Q E hr h => ?_), F.bindsN fun _ _ _ _ _ _ us hl => match us, hl with | [_, _], _ => rfl⟩
  · obtain ⟨a, ws, rfl, hl, _⟩ := h
    show ws.length + 1 = 2
    omega
  · obtain ⟨a, ws, rfl, hl, pre, ha, q⟩ := h
    match ws, hl with
    | [y0], _ =>
      refine ⟨_, PSs.nox (pss_cons (ps_expr (pe_bInit T.fb_FetchError T.g_FetchError (pa_cons (pv 0) (pa_cons (pv 1) pa_nil)))) (pss_one (ps_ost (pv 0) (pv 1)))), ?_⟩
      refine ⟨_, rfl, _, rfl, a, _, _, rfl, by show 1 ≤ 1000; decide, T.o_NoFactor, ha, ?_⟩
      refine ⟨_, rfl, _, rfl, a, _, rfl, T.o_NoFactor, T.noat_NoFactor_what, .inl ⟨ha, fun dx nd ne => ?_⟩⟩
      exact q _ (fin1 nd ne).1 (fin1 nd ne).2
theorem ok_NotUniform (T : Tx K mg) : ∃ fd, FnOk P w K mg base CX0 1 (He.ma K (He.ga K "NotUniform") "__init__") fd ["self"] (spXV (He.ga K "NotUniform") 0 (fun vs => True) fun vs => []) ∧ Binds K fd ["self"] [] := by
  obtain ⟨fd, F⟩ := T.d_NotUniform___init__
  refine ⟨fd, F.ok sc_NotUniform___init__ (fun vs H Q E h => ?_) (fun cdv A outer s H vs Q E hr h => ?_), F.bindsN fun _ _ _ _ _ _ us hl => match us, hl with | [_], _ => rfl⟩
  · obtain ⟨a, ws, rfl, hl, _⟩ := h
    show ws.length + 1 = 1
    omega
  · obtain ⟨a, ws, rfl, hl, pre, ha, q⟩ := h
    match ws, hl with
    | [], _ =>
      refine ⟨_, PSs.nox (pss_one (ps_expr (pe_bInit T.fb_FetchError T.g_FetchError (pa_cons (pv 0) (pa_cons pe_str pa_nil))))), ?_⟩
      refine ⟨_, rfl, a, _, _, rfl, by show 1 ≤ 1000; decide, T.o_NotUniform, ha, ?_⟩
      exact q H (fun _ _ _ e => e) (.inl ⟨ha, rfl⟩)
theorem ok_NotDecided (T : Tx K mg) : ∃ fd, FnOk P w K mg base CX0 1 (He.ma K (He.ga K "NotDecided") "__init__") fd ["self"] (spXV (He.ga K "NotDecided") 0 (fun vs => True) fun vs => []) ∧ Binds K fd ["self"] [] := by
  obtain ⟨fd, F⟩ := T.d_NotDecided___init__
  refine ⟨fd, F.ok sc_NotDecided___init__ (fun vs H Q E h => ?_) (fun cdv A outer s H vs Q E hr h => ?_), F.bindsN fun _ _ _ _ _ _ us hl => match us, hl with | [_], _ => rfl⟩
  · obtain ⟨a, ws, rfl, hl, _⟩ := h
    show ws.length + 1 = 1
    omega
  · obtain ⟨a, ws, rfl, hl, pre, ha, q⟩ := h
    match ws, hl with
    | [], _ =>
      refine ⟨_, PSs.nox (pss_one (ps_expr (pe_bInit T.fb_FetchError T.g_FetchError (pa_cons (pv 0) (pa_cons pe_str pa_nil))))), ?_⟩
      refine ⟨_, rfl, a, _, _, rfl, by show 1 ≤ 1000; decide, T.o_NotDecided, ha, ?_⟩
      exact q H (fun _ _ _ e => e) (.inl ⟨ha, rfl⟩)
theorem ok_Undetermined (T : Tx K mg) : ∃ fd, FnOk P w K mg base CX0 1 (He.ma K (He.ga K "Undetermined") "__init__") fd ["self"] (spXV (He.ga K "Undetermined") 0 (fun vs => True) fun vs => []) ∧ Binds K fd ["self"] [] := by
  obtain ⟨fd, F⟩ := T.d_Undetermined___init__
  refine ⟨fd, F.ok sc_Undetermined___init__ (fun vs H Q E h => ?_) (fun cdv A outer s H vs Q E hr h => ?_), F.bindsN fun _ _ _ _ _ _ us hl => match us, hl with | [_], _ => rfl⟩
  · obtain ⟨a, ws, rfl, hl, _⟩ := h
    show ws.length + 1 = 1
    omega
  · obtain ⟨a, ws, rfl, hl, pre, ha, q⟩ := h
    match ws, hl with
    | [], _ =>
      refine ⟨_, PSs.nox (pss_one (ps_expr (pe_bInit T.fb_FetchError T.g_FetchError (pa_cons (pv 0) (pa_cons pe_str pa_nil))))), ?_⟩
      refine ⟨_, rfl, a, _, _, rfl, by show 1 ≤ 1000; decide, T.o_Undetermined, ha, ?_⟩
      exact q H (fun _ _ _ e => e) (.inl ⟨ha, rfl⟩)
theorem ok_BadPaper (T : Tx K mg) : ∃ fd, FnOk P w K mg base CX0 1 (He.ma K (He.ga K "BadPaper") "__init__") fd ["self", "line", "what"] (spXV (He.ga K "BadPaper") 2 (fun vs => True) fun vs => [("what", vs.getD 1 .non), ("line", vs.getD 0 .non)]) ∧ Binds K fd ["self", "line", "what"] [] := by
  obtain ⟨fd, F⟩ := T.d_BadPaper___init__
  refine ⟨fd, F.ok sc_BadPaper___init__ (fun vs H Q E h => ?_) (fun cdv A outer s H vs Q E hr h => ?_), F.bindsN fun _ _ _ _ _ _ us hl => match us, hl with | [_, _, _], _ => rfl⟩
  · obtain ⟨a, ws, rfl, hl, _⟩ := h
    show ws.length + 1 = 3
    omega
  · obtain ⟨a, ws, rfl, hl, pre, ha, q⟩ := h
    match ws, hl with
    | [y0, y1], _ =>
      refine ⟨_, PSs.nox (pss_cons (ps_expr (pe_bInit T.fb_FetchError T.g_FetchError (pa_cons (pv 0) (pa_cons pe_str pa_nil)))) (pss_cons (ps_ost (pv 0) (pv 1)) (pss_one (ps_ost (pv 0) (pv 2))))), ?_⟩
      refine ⟨_, rfl, a, _, _, rfl, by show 1 ≤ 1000; decide, T.o_BadPaper, ha, ?_⟩
      refine ⟨_, rfl, _, rfl, a, _, rfl, T.o_BadPaper, T.noat_BadPaper_line, .inl ⟨ha, fun dx nd ne => ?_⟩⟩
      refine ⟨_, rfl, _, rfl, a, _, rfl, T.o_BadPaper, T.noat_BadPaper_what, .inr ⟨dx, _, upd_same, by rw [upd_ne ne, upd_same], (by show 1 ≤ 900; decide), ?_⟩⟩
      rw [xi_two ne]
      exact q _ (fin2 nd ne).1 (fin2 nd ne).2
theorem ok_NotDone (T : Tx K mg) : ∃ fd, FnOk P w K mg base CX0 1 (He.ma K (He.ga K "NotDone") "__init__") fd ["self"] (spXV (He.ga K "NotDone") 0 (fun vs => True) fun vs => []) ∧ Binds K fd ["self"] [] := by
  obtain ⟨fd, F⟩ := T.d_NotDone___init__
  refine ⟨fd, F.ok sc_NotDone___init__ (fun vs H Q E h => ?_) (fun cdv A outer s H vs Q E hr h => ?_), F.bindsN fun _ _ _ _ _ _ us hl => match us, hl with | [_], _ => rfl⟩
  · obtain ⟨a, ws, rfl, hl, _⟩ := h
    show ws.length + 1 = 1
    omega
  · obtain ⟨a, ws, rfl, hl, pre, ha, q⟩ := h
    match ws, hl with
    | [], _ =>
      refine ⟨_, PSs.nox (pss_one (ps_expr (pe_bInit T.fb_FetchError T.g_FetchError (pa_cons (pv 0) (pa_cons pe_str pa_nil))))), ?_⟩
      refine ⟨_, rfl, a, _, _, rfl, by show 1 ≤ 1000; decide, T.o_NotDone, ha, ?_⟩
      exact q H (fun _ _ _ e => e) (.inl ⟨ha, rfl⟩)
theorem ok_Unasked (T : Tx K mg) : ∃ fd, FnOk P w K mg base CX0 1 (He.ma K (He.ga K "Unasked") "__init__") fd ["self"] (spXV (He.ga K "Unasked") 0 (fun vs => True) fun vs => []) ∧ Binds K fd ["self"] [] := by
  obtain ⟨fd, F⟩ := T.d_Unasked___init__
  refine ⟨fd, F.ok sc_Unasked___init__ (fun vs H Q E h => ?_) (fun cdv A outer s H vs Q E hr h => ?_), F.bindsN fun _ _ _ _ _ _ us hl => match us, hl with | [_], _ => rfl⟩
  · obtain ⟨a, ws, rfl, hl, _⟩ := h
    show ws.length + 1 = 1
    omega
  · obtain ⟨a, ws, rfl, hl, pre, ha, q⟩ := h
    match ws, hl with
    | [], _ =>
      refine ⟨_, PSs.nox (pss_one (ps_expr (pe_bInit T.fb_FetchError T.g_FetchError (pa_cons (pv 0) (pa_cons pe_str pa_nil))))), ?_⟩
      refine ⟨_, rfl, a, _, _, rfl, by show 1 ≤ 1000; decide, T.o_Unasked, ha, ?_⟩
      exact q H (fun _ _ _ e => e) (.inl ⟨ha, rfl⟩)
theorem ok_TooMany (T : Tx K mg) : ∃ fd, FnOk P w K mg base CX0 1 (He.ma K (He.ga K "TooMany") "__init__") fd ["self", "most"] (spXV (He.ga K "TooMany") 1 (fun vs => True) fun vs => [("most", vs.getD 0 .non)]) ∧ Binds K fd ["self", "most"] [] := by
  obtain ⟨fd, F⟩ := T.d_TooMany___init__
  refine ⟨fd, F.ok sc_TooMany___init__ (fun vs H Q E h => ?_) (fun cdv A outer s H vs Q E hr h => ?_), F.bindsN fun _ _ _ _ _ _ us hl => match us, hl with | [_, _], _ => rfl⟩
  · obtain ⟨a, ws, rfl, hl, _⟩ := h
    show ws.length + 1 = 2
    omega
  · obtain ⟨a, ws, rfl, hl, pre, ha, q⟩ := h
    match ws, hl with
    | [y0], _ =>
      refine ⟨_, PSs.nox (pss_one (ps_ost (pv 0) (pv 1))), ?_⟩
      refine ⟨_, rfl, _, rfl, a, _, rfl, T.o_TooMany, T.noat_TooMany_most, .inl ⟨ha, fun dx nd ne => ?_⟩⟩
      exact q _ (fin1 nd ne).1 (fin1 nd ne).2
theorem ok_NotEnough (T : Tx K mg) : ∃ fd, FnOk P w K mg base CX0 1 (He.ma K (He.ga K "NotEnough") "__init__") fd ["self"] (spXV (He.ga K "NotEnough") 0 (fun vs => True) fun vs => []) ∧ Binds K fd ["self"] [] := by
  obtain ⟨fd, F⟩ := T.d_NotEnough___init__
  refine ⟨fd, F.ok sc_NotEnough___init__ (fun vs H Q E h => ?_) (fun cdv A outer s H vs Q E hr h => ?_), F.bindsN fun _ _ _ _ _ _ us hl => match us, hl with | [_], _ => rfl⟩
  · obtain ⟨a, ws, rfl, hl, _⟩ := h
    show ws.length + 1 = 1
    omega
  · obtain ⟨a, ws, rfl, hl, pre, ha, q⟩ := h
    match ws, hl with
    | [], _ =>
      refine ⟨_, PSs.nox (pss_one ps_pass), ?_⟩
      exact q H (fun _ _ _ e => e) (.inl ⟨ha, rfl⟩)
theorem ok_KnownRow (T : Tx K mg) : ∃ fd, FnOk P w K mg base CX0 1 (He.ma K (He.ga K "KnownRow") "__init__") fd ["self", "name", "row"] (spXV (He.ga K "KnownRow") 2 (fun vs => True) fun vs => [("row", vs.getD 1 .non), ("name", vs.getD 0 .non)]) ∧ Binds K fd ["self", "name", "row"] [] := by
  obtain ⟨fd, F⟩ := T.d_KnownRow___init__
  refine ⟨fd, F.ok sc_KnownRow___init__ (fun vs H Q E h => ?_) (fun cdv A outer s H vs Q E hr h => ?_), F.bindsN fun _ _ _ _ _ _ us hl => match us, hl with | [_, _, _], _ => rfl⟩
  · obtain ⟨a, ws, rfl, hl, _⟩ := h
    show ws.length + 1 = 3
    omega
  · obtain ⟨a, ws, rfl, hl, pre, ha, q⟩ := h
    match ws, hl with
    | [y0, y1], _ =>
      refine ⟨_, PSs.nox (pss_cons (ps_ost (pv 0) (pv 1)) (pss_one (ps_ost (pv 0) (pv 2)))), ?_⟩
      refine ⟨_, rfl, _, rfl, a, _, rfl, T.o_KnownRow, T.noat_KnownRow_name, .inl ⟨ha, fun dx nd ne => ?_⟩⟩
      refine ⟨_, rfl, _, rfl, a, _, rfl, T.o_KnownRow, T.noat_KnownRow_row, .inr ⟨dx, _, upd_same, by rw [upd_ne ne, upd_same], (by show 1 ≤ 900; decide), ?_⟩⟩
      rw [xi_two ne]
      exact q _ (fin2 nd ne).1 (fin2 nd ne).2
theorem ok_BadFoe (T : Tx K mg) : ∃ fd, FnOk P w K mg base CX0 1 (He.ma K (He.ga K "BadFoe") "__init__") fd ["self", "what"] (spXV (He.ga K "BadFoe") 1 (fun vs => True) fun vs => [("what", vs.getD 0 .non)]) ∧ Binds K fd ["self", "what"] [] := by
  obtain ⟨fd, F⟩ := T.d_BadFoe___init__
  refine ⟨fd, F.ok sc_BadFoe___init__ (fun vs H Q E h => ?_) (fun cdv A outer s H vs Q E hr h => ?_), F.bindsN fun _ _ _ _ _ _ us hl => match us, hl with | [_, _], _ => rfl⟩
  · obtain ⟨a, ws, rfl, hl, _⟩ := h
    show ws.length + 1 = 2
    omega
  · obtain ⟨a, ws, rfl, hl, pre, ha, q⟩ := h
    match ws, hl with
    | [y0], _ =>
      refine ⟨_, PSs.nox (pss_one (ps_ost (pv 0) (pv 1))), ?_⟩
      refine ⟨_, rfl, _, rfl, a, _, rfl, T.o_BadFoe, T.noat_BadFoe_what, .inl ⟨ha, fun dx nd ne => ?_⟩⟩
      exact q _ (fin1 nd ne).1 (fin1 nd ne).2
theorem ok_BadPolicy (T : Tx K mg) : ∃ fd, FnOk P w K mg base CX0 1 (He.ma K (He.ga K "BadPolicy") "__init__") fd ["self"] (spXV (He.ga K "BadPolicy") 0 (fun vs => True) fun vs => []) ∧ Binds K fd ["self"] [] := by
  obtain ⟨fd, F⟩ := T.d_BadPolicy___init__
  refine ⟨fd, F.ok sc_BadPolicy___init__ (fun vs H Q E h => ?_) (fun cdv A outer s H vs Q E hr h => ?_), F.bindsN fun _ _ _ _ _ _ us hl => match us, hl with | [_], _ => rfl⟩
  · obtain ⟨a, ws, rfl, hl, _⟩ := h
    show ws.length + 1 = 1
    omega
  · obtain ⟨a, ws, rfl, hl, pre, ha, q⟩ := h
    match ws, hl with
    | [], _ =>
      refine ⟨_, PSs.nox (pss_one (ps_expr (pe_bInit T.fb_FetchError T.g_FetchError (pa_cons (pv 0) (pa_cons pe_str pa_nil))))), ?_⟩
      refine ⟨_, rfl, a, _, _, rfl, by show 1 ≤ 1000; decide, T.o_BadPolicy, ha, ?_⟩
      exact q H (fun _ _ _ e => e) (.inl ⟨ha, rfl⟩)
theorem ok_BadDead (T : Tx K mg) : ∃ fd, FnOk P w K mg base CX0 1 (He.ma K (He.ga K "BadDead") "__init__") fd ["self", "at"] (spXV (He.ga K "BadDead") 1 (fun vs => Word (vs.getD 0 .non)) fun vs => [("at", vs.getD 0 .non)]) ∧ Binds K fd ["self", "at"] [] := by
  obtain ⟨fd, F⟩ := T.d_BadDead___init__
  refine ⟨fd, F.ok sc_BadDead___init__ (fun vs H Q E h => ?_) (fun cdv A outer s H vs Q E hr h => ?_), F.bindsN fun _ _ _ _ _ _ us hl => match us, hl with | [_, _], _ => rfl⟩
  · obtain ⟨a, ws, rfl, hl, _⟩ := h
    show ws.length + 1 = 2
    omega
  · obtain ⟨a, ws, rfl, hl, pre, ha, q⟩ := h
    match ws, hl with
    | [y0], _ =>
      refine ⟨_, PSs.nox (pss_cons (ps_expr (pe_bInit T.fb_FetchError T.g_FetchError (pa_cons (pv 0) (pa_cons (pe_joined (.cons pe_str (.cons (pe_fmt (pv 1)) (.cons pe_str .nil)))) pa_nil)))) (pss_one (ps_ost (pv 0) (pv 1)))), ?_⟩
      have z16 : sizeLine = 16777216 := sizeLine_eq
      refine ⟨_, rfl, ?_⟩
      have l0 : Str.empty.length ≤ 0 := Nat.le_refl _
      refine str_part (by decide +kernel) (by omega) fun s1 ls1 => ?_
      have l1 : s1.length ≤ 100 := by omega
      refine fmt_word (v := y0) (i := 1) pre (by rfl) (by omega) fun s2 ls2 => ?_
      have l2 := Nat.le_trans ls2 (show _ ≤ 200 by omega)
      revert l2
      generalize s1 ++ s2 = s2'
      intro l2
      refine str_part (by decide +kernel) (by omega) fun s3 ls3 => ?_
      have l3 : s3.length ≤ 300 := by omega
      refine ⟨a, _, _, rfl, by show 1 ≤ 1000; decide, T.o_BadDead, ha, ?_⟩
      refine ⟨_, rfl, _, rfl, a, _, rfl, T.o_BadDead, T.noat_BadDead_at, .inl ⟨ha, fun dx nd ne => ?_⟩⟩
      exact q _ (fin1 nd ne).1 (fin1 nd ne).2
theorem ok_NoSpread (T : Tx K mg) : ∃ fd, FnOk P w K mg base CX0 1 (He.ma K (He.ga K "NoSpread") "__init__") fd ["self", "what"] (spXV (He.ga K "NoSpread") 1 (fun vs => Word (vs.getD 0 .non)) fun vs => [("what", vs.getD 0 .non)]) ∧ Binds K fd ["self", "what"] [] := by
  obtain ⟨fd, F⟩ := T.d_NoSpread___init__
  refine ⟨fd, F.ok sc_NoSpread___init__ (fun vs H Q E h => ?_) (fun cdv A outer s H vs Q E hr h => ?_), F.bindsN fun _ _ _ _ _ _ us hl => match us, hl with | [_, _], _ => rfl⟩
  · obtain ⟨a, ws, rfl, hl, _⟩ := h
    show ws.length + 1 = 2
    omega
  · obtain ⟨a, ws, rfl, hl, pre, ha, q⟩ := h
    match ws, hl with
    | [y0], _ =>
      refine ⟨_, PSs.nox (pss_cons (ps_expr (pe_bInit T.fb_FetchError T.g_FetchError (pa_cons (pv 0) (pa_cons (pe_joined (.cons pe_str (.cons (pe_fmt (pv 1)) .nil))) pa_nil)))) (pss_one (ps_ost (pv 0) (pv 1)))), ?_⟩
      have z16 : sizeLine = 16777216 := sizeLine_eq
      refine ⟨_, rfl, ?_⟩
      have l0 : Str.empty.length ≤ 0 := Nat.le_refl _
      refine str_part (by decide +kernel) (by omega) fun s1 ls1 => ?_
      have l1 : s1.length ≤ 100 := by omega
      refine fmt_word (v := y0) (i := 1) pre (by rfl) (by omega) fun s2 ls2 => ?_
      have l2 := Nat.le_trans ls2 (show _ ≤ 200 by omega)
      revert l2
      generalize s1 ++ s2 = s2'
      intro l2
      refine ⟨a, _, _, rfl, by show 1 ≤ 1000; decide, T.o_NoSpread, ha, ?_⟩
      refine ⟨_, rfl, _, rfl, a, _, rfl, T.o_NoSpread, T.noat_NoSpread_what, .inl ⟨ha, fun dx nd ne => ?_⟩⟩
      exact q _ (fin1 nd ne).1 (fin1 nd ne).2
theorem ok_NotInDoubt (T : Tx K mg) : ∃ fd, FnOk P w K mg base CX0 1 (He.ma K (He.ga K "NotInDoubt") "__init__") fd ["self", "point"] (spXV (He.ga K "NotInDoubt") 1 (fun vs => True) fun vs => [("point", vs.getD 0 .non)]) ∧ Binds K fd ["self", "point"] [] := by
  obtain ⟨fd, F⟩ := T.d_NotInDoubt___init__
  refine ⟨fd, F.ok sc_NotInDoubt___init__ (fun vs H Q E h => ?_) (fun cdv A outer s H vs Q E hr h => ?_), F.bindsN fun _ _ _ _ _ _ us hl => match us, hl with | [_, _], _ => rfl⟩
  · obtain ⟨a, ws, rfl, hl, _⟩ := h
    show ws.length + 1 = 2
    omega
  · obtain ⟨a, ws, rfl, hl, pre, ha, q⟩ := h
    match ws, hl with
    | [y0], _ =>
      refine ⟨_, PSs.nox (pss_cons (ps_expr (pe_bInit T.fb_FetchError T.g_FetchError (pa_cons (pv 0) (pa_cons pe_str pa_nil)))) (pss_one (ps_ost (pv 0) (pv 1)))), ?_⟩
      refine ⟨_, rfl, a, _, _, rfl, by show 1 ≤ 1000; decide, T.o_NotInDoubt, ha, ?_⟩
      refine ⟨_, rfl, _, rfl, a, _, rfl, T.o_NotInDoubt, T.noat_NotInDoubt_point, .inl ⟨ha, fun dx nd ne => ?_⟩⟩
      exact q _ (fin1 nd ne).1 (fin1 nd ne).2
theorem ok_BadDeed (T : Tx K mg) : ∃ fd, FnOk P w K mg base CX0 1 (He.ma K (He.ga K "BadDeed") "__init__") fd ["self"] (spXV (He.ga K "BadDeed") 0 (fun vs => True) fun vs => []) ∧ Binds K fd ["self"] [] := by
  obtain ⟨fd, F⟩ := T.d_BadDeed___init__
  refine ⟨fd, F.ok sc_BadDeed___init__ (fun vs H Q E h => ?_) (fun cdv A outer s H vs Q E hr h => ?_), F.bindsN fun _ _ _ _ _ _ us hl => match us, hl with | [_], _ => rfl⟩
  · obtain ⟨a, ws, rfl, hl, _⟩ := h
    show ws.length + 1 = 1
    omega
  · obtain ⟨a, ws, rfl, hl, pre, ha, q⟩ := h
    match ws, hl with
    | [], _ =>
      refine ⟨_, PSs.nox (pss_one (ps_expr (pe_bInit T.fb_FetchError T.g_FetchError (pa_cons (pv 0) (pa_cons pe_str pa_nil))))), ?_⟩
      refine ⟨_, rfl, a, _, _, rfl, by show 1 ≤ 1000; decide, T.o_BadDeed, ha, ?_⟩
      exact q H (fun _ _ _ e => e) (.inl ⟨ha, rfl⟩)
theorem ok_NotNewest (T : Tx K mg) : ∃ fd, FnOk P w K mg base CX0 1 (He.ma K (He.ga K "NotNewest") "__init__") fd ["self"] (spXV (He.ga K "NotNewest") 0 (fun vs => True) fun vs => []) ∧ Binds K fd ["self"] [] := by
  obtain ⟨fd, F⟩ := T.d_NotNewest___init__
  refine ⟨fd, F.ok sc_NotNewest___init__ (fun vs H Q E h => ?_) (fun cdv A outer s H vs Q E hr h => ?_), F.bindsN fun _ _ _ _ _ _ us hl => match us, hl with | [_], _ => rfl⟩
  · obtain ⟨a, ws, rfl, hl, _⟩ := h
    show ws.length + 1 = 1
    omega
  · obtain ⟨a, ws, rfl, hl, pre, ha, q⟩ := h
    match ws, hl with
    | [], _ =>
      refine ⟨_, PSs.nox (pss_one (ps_expr (pe_bInit T.fb_FetchError T.g_FetchError (pa_cons (pv 0) (pa_cons pe_str pa_nil))))), ?_⟩
      refine ⟨_, rfl, a, _, _, rfl, by show 1 ≤ 1000; decide, T.o_NotNewest, ha, ?_⟩
      exact q H (fun _ _ _ e => e) (.inl ⟨ha, rfl⟩)
theorem ok_NothingCut (T : Tx K mg) : ∃ fd, FnOk P w K mg base CX0 1 (He.ma K (He.ga K "NothingCut") "__init__") fd ["self"] (spXV (He.ga K "NothingCut") 0 (fun vs => True) fun vs => []) ∧ Binds K fd ["self"] [] := by
  obtain ⟨fd, F⟩ := T.d_NothingCut___init__
  refine ⟨fd, F.ok sc_NothingCut___init__ (fun vs H Q E h => ?_) (fun cdv A outer s H vs Q E hr h => ?_), F.bindsN fun _ _ _ _ _ _ us hl => match us, hl with | [_], _ => rfl⟩
  · obtain ⟨a, ws, rfl, hl, _⟩ := h
    show ws.length + 1 = 1
    omega
  · obtain ⟨a, ws, rfl, hl, pre, ha, q⟩ := h
    match ws, hl with
    | [], _ =>
      refine ⟨_, PSs.nox (pss_one (ps_expr (pe_bInit T.fb_FetchError T.g_FetchError (pa_cons (pv 0) (pa_cons pe_str pa_nil))))), ?_⟩
      refine ⟨_, rfl, a, _, _, rfl, by show 1 ≤ 1000; decide, T.o_NothingCut, ha, ?_⟩
      exact q H (fun _ _ _ e => e) (.inl ⟨ha, rfl⟩)
theorem ok_Unfit (T : Tx K mg) : ∃ fd, FnOk P w K mg base CX0 1 (He.ma K (He.ga K "Unfit") "__init__") fd ["self", "name"] (spXV (He.ga K "Unfit") 1 (fun vs => Word (vs.getD 0 .non)) fun vs => [("name", vs.getD 0 .non)]) ∧ Binds K fd ["self", "name"] [] := by
  obtain ⟨fd, F⟩ := T.d_Unfit___init__
  refine ⟨fd, F.ok sc_Unfit___init__ (fun vs H Q E h => ?_) (fun cdv A outer s H vs Q E hr h => ?_), F.bindsN fun _ _ _ _ _ _ us hl => match us, hl with | [_, _], _ => rfl⟩
  · obtain ⟨a, ws, rfl, hl, _⟩ := h
    show ws.length + 1 = 2
    omega
  · obtain ⟨a, ws, rfl, hl, pre, ha, q⟩ := h
    match ws, hl with
    | [y0], _ =>
      refine ⟨_, PSs.nox (pss_cons (ps_expr (pe_bInit T.fb_FetchError T.g_FetchError (pa_cons (pv 0) (pa_cons (pe_joined (.cons pe_str (.cons (pe_fmt (pv 1)) .nil))) pa_nil)))) (pss_one (ps_ost (pv 0) (pv 1)))), ?_⟩
      have z16 : sizeLine = 16777216 := sizeLine_eq
      refine ⟨_, rfl, ?_⟩
      have l0 : Str.empty.length ≤ 0 := Nat.le_refl _
      refine str_part (by decide +kernel) (by omega) fun s1 ls1 => ?_
      have l1 : s1.length ≤ 100 := by omega
      refine fmt_word (v := y0) (i := 1) pre (by rfl) (by omega) fun s2 ls2 => ?_
      have l2 := Nat.le_trans ls2 (show _ ≤ 200 by omega)
      revert l2
      generalize s1 ++ s2 = s2'
      intro l2
      refine ⟨a, _, _, rfl, by show 1 ≤ 1000; decide, T.o_Unfit, ha, ?_⟩
      refine ⟨_, rfl, _, rfl, a, _, rfl, T.o_Unfit, T.noat_Unfit_name, .inl ⟨ha, fun dx nd ne => ?_⟩⟩
      exact q _ (fin1 nd ne).1 (fin1 nd ne).2
theorem ok_NotKnown (T : Tx K mg) : ∃ fd, FnOk P w K mg base CX0 1 (He.ma K (He.ga K "NotKnown") "__init__") fd ["self", "at"] (spXV (He.ga K "NotKnown") 1 (fun vs => Word (vs.getD 0 .non)) fun vs => [("at", vs.getD 0 .non)]) ∧ Binds K fd ["self", "at"] [] := by
  obtain ⟨fd, F⟩ := T.d_NotKnown___init__
  refine ⟨fd, F.ok sc_NotKnown___init__ (fun vs H Q E h => ?_) (fun cdv A outer s H vs Q E hr h => ?_), F.bindsN fun _ _ _ _ _ _ us hl => match us, hl with | [_, _], _ => rfl⟩
  · obtain ⟨a, ws, rfl, hl, _⟩ := h
    show ws.length + 1 = 2
    omega
  · obtain ⟨a, ws, rfl, hl, pre, ha, q⟩ := h
    match ws, hl with
    | [y0], _ =>
      refine ⟨_, PSs.nox (pss_cons (ps_expr (pe_bInit T.fb_FetchError T.g_FetchError (pa_cons (pv 0) (pa_cons (pe_joined (.cons pe_str (.cons (pe_fmt (pv 1)) (.cons pe_str .nil)))) pa_nil)))) (pss_one (ps_ost (pv 0) (pv 1)))), ?_⟩
      have z16 : sizeLine = 16777216 := sizeLine_eq
      refine ⟨_, rfl, ?_⟩
      have l0 : Str.empty.length ≤ 0 := Nat.le_refl _
      refine str_part (by decide +kernel) (by omega) fun s1 ls1 => ?_
      have l1 : s1.length ≤ 100 := by omega
      refine fmt_word (v := y0) (i := 1) pre (by rfl) (by omega) fun s2 ls2 => ?_
      have l2 := Nat.le_trans ls2 (show _ ≤ 200 by omega)
      revert l2
      generalize s1 ++ s2 = s2'
      intro l2
      refine str_part (by decide +kernel) (by omega) fun s3 ls3 => ?_
      have l3 : s3.length ≤ 300 := by omega
      refine ⟨a, _, _, rfl, by show 1 ≤ 1000; decide, T.o_NotKnown, ha, ?_⟩
      refine ⟨_, rfl, _, rfl, a, _, rfl, T.o_NotKnown, T.noat_NotKnown_at, .inl ⟨ha, fun dx nd ne => ?_⟩⟩
      exact q _ (fin1 nd ne).1 (fin1 nd ne).2
theorem ok_BadStory (T : Tx K mg) : ∃ fd, FnOk P w K mg base CX0 1 (He.ma K (He.ga K "BadStory") "__init__") fd ["self", "line"] (spXV (He.ga K "BadStory") 1 (fun vs => Word (vs.getD 0 .non)) fun vs => [("line", vs.getD 0 .non)]) ∧ Binds K fd ["self", "line"] [] := by
  obtain ⟨fd, F⟩ := T.d_BadStory___init__
  refine ⟨fd, F.ok sc_BadStory___init__ (fun vs H Q E h => ?_) (fun cdv A outer s H vs Q E hr h => ?_), F.bindsN fun _ _ _ _ _ _ us hl => match us, hl with | [_, _], _ => rfl⟩
  · obtain ⟨a, ws, rfl, hl, _⟩ := h
    show ws.length + 1 = 2
    omega
  · obtain ⟨a, ws, rfl, hl, pre, ha, q⟩ := h
    match ws, hl with
    | [y0], _ =>
      refine ⟨_, PSs.nox (pss_cons (ps_expr (pe_bInit T.fb_FetchError T.g_FetchError (pa_cons (pv 0) (pa_cons (pe_joined (.cons pe_str (.cons (pe_fmt (pv 1)) (.cons pe_str .nil)))) pa_nil)))) (pss_one (ps_ost (pv 0) (pv 1)))), ?_⟩
      have z16 : sizeLine = 16777216 := sizeLine_eq
      refine ⟨_, rfl, ?_⟩
      have l0 : Str.empty.length ≤ 0 := Nat.le_refl _
      refine str_part (by decide +kernel) (by omega) fun s1 ls1 => ?_
      have l1 : s1.length ≤ 100 := by omega
      refine fmt_word (v := y0) (i := 1) pre (by rfl) (by omega) fun s2 ls2 => ?_
      have l2 := Nat.le_trans ls2 (show _ ≤ 200 by omega)
      revert l2
      generalize s1 ++ s2 = s2'
      intro l2
      refine str_part (by decide +kernel) (by omega) fun s3 ls3 => ?_
      have l3 : s3.length ≤ 300 := by omega
      refine ⟨a, _, _, rfl, by show 1 ≤ 1000; decide, T.o_BadStory, ha, ?_⟩
      refine ⟨_, rfl, _, rfl, a, _, rfl, T.o_BadStory, T.noat_BadStory_line, .inl ⟨ha, fun dx nd ne => ?_⟩⟩
      exact q _ (fin1 nd ne).1 (fin1 nd ne).2
end
end K99

set_option maxRecDepth 100000
set_option maxHeartbeats 4000000
namespace K99
open PySem PySem.Spec PyProof.Rows L2 Q
section
variable {P : Program} {w : World} {K : PySem.W.Frag} {mg : Str → Option Value} {base : Heap} {f : Addr} {fd : FuncData}
def bits (k : Nat) : List V := (List.range 45).map fun j => V.bl (k == j)
def spClasses (K : PySem.W.Frag) : Sp := fun vs H Q _ => ∃ (a : Addr) (k : Nat) (fs : List (Str × V)), vs = [.ref a] ∧ k < 45 ∧ ExAt H a (ga K k) fs ∧ ∀ (p : Addr), H p = none → Q (.ref p) (upd H p (.lst (bits k)))
theorem C_classes (T : Tx K mg) : Cal P w K mg base CX0 1 "_law_classes" ["e"] [] (spClasses K) := by
  obtain ⟨fd, F⟩ := T.d__law_classes
  refine ⟨_, fd, [], F.ok sc__law_classes (fun vs H Q E h => ?_) (fun cdv A outer s H vs Q E hr h => ?_), T.g__law_classes, F.kp, F.bindsN fun _ _ _ _ _ _ us hl => match us, hl with | [_], _ => rfl, .nil⟩
  · obtain ⟨a, k, fs, rfl, _⟩ := h
    rfl
  · obtain ⟨a, k, fs, rfl, hk, ex, q⟩ := h
    have X := exAll T k hk
    have kit := fun j hj => kitAllB_ok T.one k j hk hj
    refine ⟨_, PSs.nox (pss_one (ps_ret (pe_lst (pa_cons (pe_callB call_isV (by rfl) T.n_isinstance (by decide +kernel) (pa_cons (pv 0) (pa_cons (pe_glob (v := .ref (He.ga K "BadWidths")) rfl T.g_BadWidths rfl) pa_nil))) (pa_cons (pe_callB call_isV (by rfl) T.n_isinstance (by decide +kernel) (pa_cons (pv 0) (pa_cons (pe_glob (v := .ref (He.ga K "BadRow")) rfl T.g_BadRow rfl) pa_nil))) (pa_cons (pe_callB call_isV (by rfl) T.n_isinstance (by decide +kernel) (pa_cons (pv 0) (pa_cons (pe_glob (v := .ref (He.ga K "BadBox")) rfl T.g_BadBox rfl) pa_nil))) (pa_cons (pe_callB call_isV (by rfl) T.n_isinstance (by decide +kernel) (pa_cons (pv 0) (pa_cons (pe_glob (v := .ref (He.ga K "UnlikeBoxes")) rfl T.g_UnlikeBoxes rfl) pa_nil))) (pa_cons (pe_callB call_isV (by rfl) T.n_isinstance (by decide +kernel) (pa_cons (pv 0) (pa_cons (pe_glob (v := .ref (He.ga K "BadColumn")) rfl T.g_BadColumn rfl) pa_nil))) (pa_cons (pe_callB call_isV (by rfl) T.n_isinstance (by decide +kernel) (pa_cons (pv 0) (pa_cons (pe_glob (v := .ref (He.ga K "BadData")) rfl T.g_BadData rfl) pa_nil))) (pa_cons (pe_callB call_isV (by rfl) T.n_isinstance (by decide +kernel) (pa_cons (pv 0) (pa_cons (pe_glob (v := .ref (He.ga K "BadText")) rfl T.g_BadText rfl) pa_nil))) (pa_cons (pe_callB call_isV (by rfl) T.n_isinstance (by decide +kernel) (pa_cons (pv 0) (pa_cons (pe_glob (v := .ref (He.ga K "BadPage")) rfl T.g_BadPage rfl) pa_nil))) (pa_cons (pe_callB call_isV (by rfl) T.n_isinstance (by decide +kernel) (pa_cons (pv 0) (pa_cons (pe_glob (v := .ref (He.ga K "BadIndex")) rfl T.g_BadIndex rfl) pa_nil))) (pa_cons (pe_callB call_isV (by rfl) T.n_isinstance (by decide +kernel) (pa_cons (pv 0) (pa_cons (pe_glob (v := .ref (He.ga K "BadLayer")) rfl T.g_BadLayer rfl) pa_nil))) (pa_cons (pe_callB call_isV (by rfl) T.n_isinstance (by decide +kernel) (pa_cons (pv 0) (pa_cons (pe_glob (v := .ref (He.ga K "NoIndex")) rfl T.g_NoIndex rfl) pa_nil))) (pa_cons (pe_callB call_isV (by rfl) T.n_isinstance (by decide +kernel) (pa_cons (pv 0) (pa_cons (pe_glob (v := .ref (He.ga K "BadTable")) rfl T.g_BadTable rfl) pa_nil))) (pa_cons (pe_callB call_isV (by rfl) T.n_isinstance (by decide +kernel) (pa_cons (pv 0) (pa_cons (pe_glob (v := .ref (He.ga K "NoLayer")) rfl T.g_NoLayer rfl) pa_nil))) (pa_cons (pe_callB call_isV (by rfl) T.n_isinstance (by decide +kernel) (pa_cons (pv 0) (pa_cons (pe_glob (v := .ref (He.ga K "BadStore")) rfl T.g_BadStore rfl) pa_nil))) (pa_cons (pe_callB call_isV (by rfl) T.n_isinstance (by decide +kernel) (pa_cons (pv 0) (pa_cons (pe_glob (v := .ref (He.ga K "NoTable")) rfl T.g_NoTable rfl) pa_nil))) (pa_cons (pe_callB call_isV (by rfl) T.n_isinstance (by decide +kernel) (pa_cons (pv 0) (pa_cons (pe_glob (v := .ref (He.ga K "BadChange")) rfl T.g_BadChange rfl) pa_nil))) (pa_cons (pe_callB call_isV (by rfl) T.n_isinstance (by decide +kernel) (pa_cons (pv 0) (pa_cons (pe_glob (v := .ref (He.ga K "BadKinds")) rfl T.g_BadKinds rfl) pa_nil))) (pa_cons (pe_callB call_isV (by rfl) T.n_isinstance (by decide +kernel) (pa_cons (pv 0) (pa_cons (pe_glob (v := .ref (He.ga K "LayersFull")) rfl T.g_LayersFull rfl) pa_nil))) (pa_cons (pe_callB call_isV (by rfl) T.n_isinstance (by decide +kernel) (pa_cons (pv 0) (pa_cons (pe_glob (v := .ref (He.ga K "BadNumber")) rfl T.g_BadNumber rfl) pa_nil))) (pa_cons (pe_callB call_isV (by rfl) T.n_isinstance (by decide +kernel) (pa_cons (pv 0) (pa_cons (pe_glob (v := .ref (He.ga K "NotBefore")) rfl T.g_NotBefore rfl) pa_nil))) (pa_cons (pe_callB call_isV (by rfl) T.n_isinstance (by decide +kernel) (pa_cons (pv 0) (pa_cons (pe_glob (v := .ref (He.ga K "BadQuestion")) rfl T.g_BadQuestion rfl) pa_nil))) (pa_cons (pe_callB call_isV (by rfl) T.n_isinstance (by decide +kernel) (pa_cons (pv 0) (pa_cons (pe_glob (v := .ref (He.ga K "Again")) rfl T.g_Again rfl) pa_nil))) (pa_cons (pe_callB call_isV (by rfl) T.n_isinstance (by decide +kernel) (pa_cons (pv 0) (pa_cons (pe_glob (v := .ref (He.ga K "Foreign")) rfl T.g_Foreign rfl) pa_nil))) (pa_cons (pe_callB call_isV (by rfl) T.n_isinstance (by decide +kernel) (pa_cons (pv 0) (pa_cons (pe_glob (v := .ref (He.ga K "NoPage")) rfl T.g_NoPage rfl) pa_nil))) (pa_cons (pe_callB call_isV (by rfl) T.n_isinstance (by decide +kernel) (pa_cons (pv 0) (pa_cons (pe_glob (v := .ref (He.ga K "NoFactor")) rfl T.g_NoFactor rfl) pa_nil))) (pa_cons (pe_callB call_isV (by rfl) T.n_isinstance (by decide +kernel) (pa_cons (pv 0) (pa_cons (pe_glob (v := .ref (He.ga K "NotUniform")) rfl T.g_NotUniform rfl) pa_nil))) (pa_cons (pe_callB call_isV (by rfl) T.n_isinstance (by decide +kernel) (pa_cons (pv 0) (pa_cons (pe_glob (v := .ref (He.ga K "NotDecided")) rfl T.g_NotDecided rfl) pa_nil))) (pa_cons (pe_callB call_isV (by rfl) T.n_isinstance (by decide +kernel) (pa_cons (pv 0) (pa_cons (pe_glob (v := .ref (He.ga K "Undetermined")) rfl T.g_Undetermined rfl) pa_nil))) (pa_cons (pe_callB call_isV (by rfl) T.n_isinstance (by decide +kernel) (pa_cons (pv 0) (pa_cons (pe_glob (v := .ref (He.ga K "BadPaper")) rfl T.g_BadPaper rfl) pa_nil))) (pa_cons (pe_callB call_isV (by rfl) T.n_isinstance (by decide +kernel) (pa_cons (pv 0) (pa_cons (pe_glob (v := .ref (He.ga K "NotDone")) rfl T.g_NotDone rfl) pa_nil))) (pa_cons (pe_callB call_isV (by rfl) T.n_isinstance (by decide +kernel) (pa_cons (pv 0) (pa_cons (pe_glob (v := .ref (He.ga K "Unasked")) rfl T.g_Unasked rfl) pa_nil))) (pa_cons (pe_callB call_isV (by rfl) T.n_isinstance (by decide +kernel) (pa_cons (pv 0) (pa_cons (pe_glob (v := .ref (He.ga K "TooMany")) rfl T.g_TooMany rfl) pa_nil))) (pa_cons (pe_callB call_isV (by rfl) T.n_isinstance (by decide +kernel) (pa_cons (pv 0) (pa_cons (pe_glob (v := .ref (He.ga K "NotEnough")) rfl T.g_NotEnough rfl) pa_nil))) (pa_cons (pe_callB call_isV (by rfl) T.n_isinstance (by decide +kernel) (pa_cons (pv 0) (pa_cons (pe_glob (v := .ref (He.ga K "KnownRow")) rfl T.g_KnownRow rfl) pa_nil))) (pa_cons (pe_callB call_isV (by rfl) T.n_isinstance (by decide +kernel) (pa_cons (pv 0) (pa_cons (pe_glob (v := .ref (He.ga K "BadFoe")) rfl T.g_BadFoe rfl) pa_nil))) (pa_cons (pe_callB call_isV (by rfl) T.n_isinstance (by decide +kernel) (pa_cons (pv 0) (pa_cons (pe_glob (v := .ref (He.ga K "BadPolicy")) rfl T.g_BadPolicy rfl) pa_nil))) (pa_cons (pe_callB call_isV (by rfl) T.n_isinstance (by decide +kernel) (pa_cons (pv 0) (pa_cons (pe_glob (v := .ref (He.ga K "BadDead")) rfl T.g_BadDead rfl) pa_nil))) (pa_cons (pe_callB call_isV (by rfl) T.n_isinstance (by decide +kernel) (pa_cons (pv 0) (pa_cons (pe_glob (v := .ref (He.ga K "NoSpread")) rfl T.g_NoSpread rfl) pa_nil))) (pa_cons (pe_callB call_isV (by rfl) T.n_isinstance (by decide +kernel) (pa_cons (pv 0) (pa_cons (pe_glob (v := .ref (He.ga K "NotInDoubt")) rfl T.g_NotInDoubt rfl) pa_nil))) (pa_cons (pe_callB call_isV (by rfl) T.n_isinstance (by decide +kernel) (pa_cons (pv 0) (pa_cons (pe_glob (v := .ref (He.ga K "BadDeed")) rfl T.g_BadDeed rfl) pa_nil))) (pa_cons (pe_callB call_isV (by rfl) T.n_isinstance (by decide +kernel) (pa_cons (pv 0) (pa_cons (pe_glob (v := .ref (He.ga K "NotNewest")) rfl T.g_NotNewest rfl) pa_nil))) (pa_cons (pe_callB call_isV (by rfl) T.n_isinstance (by decide +kernel) (pa_cons (pv 0) (pa_cons (pe_glob (v := .ref (He.ga K "NothingCut")) rfl T.g_NothingCut rfl) pa_nil))) (pa_cons (pe_callB call_isV (by rfl) T.n_isinstance (by decide +kernel) (pa_cons (pv 0) (pa_cons (pe_glob (v := .ref (He.ga K "Unfit")) rfl T.g_Unfit rfl) pa_nil))) (pa_cons (pe_callB call_isV (by rfl) T.n_isinstance (by decide +kernel) (pa_cons (pv 0) (pa_cons (pe_glob (v := .ref (He.ga K "NotKnown")) rfl T.g_NotKnown rfl) pa_nil))) (pa_cons (pe_callB call_isV (by rfl) T.n_isinstance (by decide +kernel) (pa_cons (pv 0) (pa_cons (pe_glob (v := .ref (He.ga K "BadStory")) rfl T.g_BadStory rfl) pa_nil))) pa_nil)))))))))))))))))))))))))))))))))))))))))))))))), ?_⟩
    refine ⟨_, rfl, a, _, fs, _, _, _, rfl, ex, X, (fun _ z => z), kit 0 (by decide), ?_⟩
    refine ⟨_, rfl, a, _, fs, _, _, _, rfl, ex, X, (fun _ z => z), kit 1 (by decide), ?_⟩
    refine ⟨_, rfl, a, _, fs, _, _, _, rfl, ex, X, (fun _ z => z), kit 2 (by decide), ?_⟩
    refine ⟨_, rfl, a, _, fs, _, _, _, rfl, ex, X, (fun _ z => z), kit 3 (by decide), ?_⟩
    refine ⟨_, rfl, a, _, fs, _, _, _, rfl, ex, X, (fun _ z => z), kit 4 (by decide), ?_⟩
    refine ⟨_, rfl, a, _, fs, _, _, _, rfl, ex, X, (fun _ z => z), kit 5 (by decide), ?_⟩
    refine ⟨_, rfl, a, _, fs, _, _, _, rfl, ex, X, (fun _ z => z), kit 6 (by decide), ?_⟩
    refine ⟨_, rfl, a, _, fs, _, _, _, rfl, ex, X, (fun _ z => z), kit 7 (by decide), ?_⟩
    refine ⟨_, rfl, a, _, fs, _, _, _, rfl, ex, X, (fun _ z => z), kit 8 (by decide), ?_⟩
    refine ⟨_, rfl, a, _, fs, _, _, _, rfl, ex, X, (fun _ z => z), kit 9 (by decide), ?_⟩
    refine ⟨_, rfl, a, _, fs, _, _, _, rfl, ex, X, (fun _ z => z), kit 10 (by decide), ?_⟩
    refine ⟨_, rfl, a, _, fs, _, _, _, rfl, ex, X, (fun _ z => z), kit 11 (by decide), ?_⟩
    refine ⟨_, rfl, a, _, fs, _, _, _, rfl, ex, X, (fun _ z => z), kit 12 (by decide), ?_⟩
    refine ⟨_, rfl, a, _, fs, _, _, _, rfl, ex, X, (fun _ z => z), kit 13 (by decide), ?_⟩
    refine ⟨_, rfl, a, _, fs, _, _, _, rfl, ex, X, (fun _ z => z), kit 14 (by decide), ?_⟩
    refine ⟨_, rfl, a, _, fs, _, _, _, rfl, ex, X, (fun _ z => z), kit 15 (by decide), ?_⟩
    refine ⟨_, rfl, a, _, fs, _, _, _, rfl, ex, X, (fun _ z => z), kit 16 (by decide), ?_⟩
    refine ⟨_, rfl, a, _, fs, _, _, _, rfl, ex, X, (fun _ z => z), kit 17 (by decide), ?_⟩
    refine ⟨_, rfl, a, _, fs, _, _, _, rfl, ex, X, (fun _ z => z), kit 18 (by decide), ?_⟩
    refine ⟨_, rfl, a, _, fs, _, _, _, rfl, ex, X, (fun _ z => z), kit 19 (by decide), ?_⟩
    refine ⟨_, rfl, a, _, fs, _, _, _, rfl, ex, X, (fun _ z => z), kit 20 (by decide), ?_⟩
    refine ⟨_, rfl, a, _, fs, _, _, _, rfl, ex, X, (fun _ z => z), kit 21 (by decide), ?_⟩
    refine ⟨_, rfl, a, _, fs, _, _, _, rfl, ex, X, (fun _ z => z), kit 22 (by decide), ?_⟩
    refine ⟨_, rfl, a, _, fs, _, _, _, rfl, ex, X, (fun _ z => z), kit 23 (by decide), ?_⟩
    refine ⟨_, rfl, a, _, fs, _, _, _, rfl, ex, X, (fun _ z => z), kit 24 (by decide), ?_⟩
    refine ⟨_, rfl, a, _, fs, _, _, _, rfl, ex, X, (fun _ z => z), kit 25 (by decide), ?_⟩
    refine ⟨_, rfl, a, _, fs, _, _, _, rfl, ex, X, (fun _ z => z), kit 26 (by decide), ?_⟩
    refine ⟨_, rfl, a, _, fs, _, _, _, rfl, ex, X, (fun _ z => z), kit 27 (by decide), ?_⟩
    refine ⟨_, rfl, a, _, fs, _, _, _, rfl, ex, X, (fun _ z => z), kit 28 (by decide), ?_⟩
    refine ⟨_, rfl, a, _, fs, _, _, _, rfl, ex, X, (fun _ z => z), kit 29 (by decide), ?_⟩
    refine ⟨_, rfl, a, _, fs, _, _, _, rfl, ex, X, (fun _ z => z), kit 30 (by decide), ?_⟩
    refine ⟨_, rfl, a, _, fs, _, _, _, rfl, ex, X, (fun _ z => z), kit 31 (by decide), ?_⟩
    refine ⟨_, rfl, a, _, fs, _, _, _, rfl, ex, X, (fun _ z => z), kit 32 (by decide), ?_⟩
    refine ⟨_, rfl, a, _, fs, _, _, _, rfl, ex, X, (fun _ z => z), kit 33 (by decide), ?_⟩
    refine ⟨_, rfl, a, _, fs, _, _, _, rfl, ex, X, (fun _ z => z), kit 34 (by decide), ?_⟩
    refine ⟨_, rfl, a, _, fs, _, _, _, rfl, ex, X, (fun _ z => z), kit 35 (by decide), ?_⟩
    refine ⟨_, rfl, a, _, fs, _, _, _, rfl, ex, X, (fun _ z => z), kit 36 (by decide), ?_⟩
    refine ⟨_, rfl, a, _, fs, _, _, _, rfl, ex, X, (fun _ z => z), kit 37 (by decide), ?_⟩
    refine ⟨_, rfl, a, _, fs, _, _, _, rfl, ex, X, (fun _ z => z), kit 38 (by decide), ?_⟩
    refine ⟨_, rfl, a, _, fs, _, _, _, rfl, ex, X, (fun _ z => z), kit 39 (by decide), ?_⟩
    refine ⟨_, rfl, a, _, fs, _, _, _, rfl, ex, X, (fun _ z => z), kit 40 (by decide), ?_⟩
    refine ⟨_, rfl, a, _, fs, _, _, _, rfl, ex, X, (fun _ z => z), kit 41 (by decide), ?_⟩
    refine ⟨_, rfl, a, _, fs, _, _, _, rfl, ex, X, (fun _ z => z), kit 42 (by decide), ?_⟩
    refine ⟨_, rfl, a, _, fs, _, _, _, rfl, ex, X, (fun _ z => z), kit 43 (by decide), ?_⟩
    refine ⟨_, rfl, a, _, fs, _, _, _, rfl, ex, X, (fun _ z => z), kit 44 (by decide), ?_⟩
    exact ⟨by show 45 ≤ sizeLine; decide, fun p np => q p np⟩
end
end K99

set_option maxRecDepth 100000
set_option maxHeartbeats 4000000
namespace K99
open PySem PySem.Spec PyProof.Rows L2 Q RZ
theorem joinL_one : ∀ cs : List Nat, TL.joinL [] (cs.map fun c => [c]) = cs
  | [] => rfl
  | [_] => rfl
  | a :: b :: r => by
    show [a] ++ ([] ++ TL.joinL [] ((b :: r).map fun c => [c])) = a :: b :: r
    rw [joinL_one (b :: r)]
    rfl
def sgn (c : Nat) : Str := ⟨#[c]⟩
theorem join_sgn (cs : List Nat) : Txt.join (Str.ofString "") (cs.map sgn) = SX.S cs := by
  have e := SX.join_S [] (cs.map fun c => [c])
  rw [joinL_one, List.map_map] at e
  exact e
theorem sum_ones (cs : List Nat) : ((cs.map sgn).map (·.length)).sum = cs.length := by
  induction cs with
  | nil => rfl
  | cons a r ih =>
    rw [List.map_cons, List.map_cons, List.sum_cons, ih]
    show 1 + r.length = r.length + 1
    omega
theorem letter_at {r : Int} (h0 : 0 ≤ r) (h26 : r < 26) : ∃ c : Nat, atI lettersT.cps.toList r = some c ∧ inLetters c = true := by
  obtain ⟨m, rfl⟩ : ∃ m : Nat, r = (m : Int) := ⟨r.toNat, by omega⟩
  have hl : lettersT.cps.toList.length = 26 := by decide +kernel
  have hm : m < lettersT.cps.toList.length := by omega
  exact ⟨lettersT.cps.toList[m], atI_nat (List.getElem?_eq_getElem hm), decide_eq_true (List.getElem_mem hm)⟩
theorem small_letter {c : Nat} (h : inLetters c = true) : c < 0x110000 := by
  have hm : c ∈ lettersT.cps.toList := of_decide_eq_true h
  have all : lettersT.cps.toList.all (fun c => decide (c < 0x110000)) = true := by decide +kernel
  exact of_decide_eq_true (List.all_eq_true.mp all c hm)
theorem strOk_S {cs : List Nat} (h : ∀ c ∈ cs, c < 0x110000) : PyData.canLay0 (.str (SX.S cs)) = true := by
  show (SX.S cs).cps.all (fun c => decide (c < 0x110000)) = true
  rw [← Array.all_toList, List.all_eq_true]
  exact fun c m => decide_eq_true (h c m)
theorem same_keep {H H' : Hp} {a : Addr} {u : HO} (na : H a = none) (keep : ∀ b o, b ≠ a → (upd H a u) b = some o → H' b = some o) : Same H H' := fun b o e => keep b o (ne_of_none e na) (by rw [upd_ne (ne_of_none e na)]; exact e)
section
variable {P : Program} {w : World} {K : PySem.W.Frag} {mg : Str → Option Value} {base : Heap} {f : Addr} {fd : FuncData}
def Sl (a b : Addr) (word name : Str) (at_ : Int) (rw_ pg L : Addr) (σ : L2.St) : Prop := ∃ o2 o9 o10 o11 o12, σ = [some (.ref a), some (.ref b), o2, some (.str word), some (.str name), some (.int at_), some (.ref rw_), some (.ref pg), some (.ref L), o9, o10, o11, o12]
def spLaw (K : PySem.W.Frag) : Sp := fun vs H Q _ => ∃ (a : Addr) (ns : List Int), vs = [.ref a] ∧ SqL K H a (ns.map V.int) ∧ ∀ H', Q (.bl true) H'
theorem ok_law0 (T : Tx K mg) : ∃ fd, FnOk P w K mg base CX0 4 (He.ga K "law") fd ["script"] (spLaw K) ∧ FnP K "law" "law" s_law [] (He.ga K "law") fd := by
  obtain ⟨fd, F⟩ := T.d_law
  have C__law_bag := C_bag (P := P) (w := w) (base := base) T
  have C__law_draw := C_draw (P := P) (w := w) (base := base) T
  have C__law_classes := C_classes (P := P) (w := w) (base := base) T
  obtain ⟨_, G_BadRow, b_BadRow⟩ := ok_BadRow (P := P) (w := w) (base := base) T
  obtain ⟨_, G_BadBox, b_BadBox⟩ := ok_BadBox (P := P) (w := w) (base := base) T
  obtain ⟨_, G_BadColumn, b_BadColumn⟩ := ok_BadColumn (P := P) (w := w) (base := base) T
  obtain ⟨_, G_BadText, b_BadText⟩ := ok_BadText (P := P) (w := w) (base := base) T
  obtain ⟨_, G_BadPage, b_BadPage⟩ := ok_BadPage (P := P) (w := w) (base := base) T
  obtain ⟨_, G_BadIndex, b_BadIndex⟩ := ok_BadIndex (P := P) (w := w) (base := base) T
  obtain ⟨_, G_BadLayer, b_BadLayer⟩ := ok_BadLayer (P := P) (w := w) (base := base) T
  obtain ⟨_, G_NoIndex, b_NoIndex⟩ := ok_NoIndex (P := P) (w := w) (base := base) T
  obtain ⟨_, G_BadTable, b_BadTable⟩ := ok_BadTable (P := P) (w := w) (base := base) T
  obtain ⟨_, G_NoLayer, b_NoLayer⟩ := ok_NoLayer (P := P) (w := w) (base := base) T
  obtain ⟨_, G_BadStore, b_BadStore⟩ := ok_BadStore (P := P) (w := w) (base := base) T
  obtain ⟨_, G_NoTable, b_NoTable⟩ := ok_NoTable (P := P) (w := w) (base := base) T
  obtain ⟨_, G_BadChange, b_BadChange⟩ := ok_BadChange (P := P) (w := w) (base := base) T
  obtain ⟨_, G_BadKinds, b_BadKinds⟩ := ok_BadKinds (P := P) (w := w) (base := base) T
  obtain ⟨_, G_LayersFull, b_LayersFull⟩ := ok_LayersFull (P := P) (w := w) (base := base) T
  obtain ⟨_, G_BadNumber, b_BadNumber⟩ := ok_BadNumber (P := P) (w := w) (base := base) T
  obtain ⟨_, G_NotBefore, b_NotBefore⟩ := ok_NotBefore (P := P) (w := w) (base := base) T
  obtain ⟨_, G_BadQuestion, b_BadQuestion⟩ := ok_BadQuestion (P := P) (w := w) (base := base) T
  obtain ⟨_, G_Again, b_Again⟩ := ok_Again (P := P) (w := w) (base := base) T
  obtain ⟨_, G_Foreign, b_Foreign⟩ := ok_Foreign (P := P) (w := w) (base := base) T
  obtain ⟨_, G_NoPage, b_NoPage⟩ := ok_NoPage (P := P) (w := w) (base := base) T
  obtain ⟨_, G_NoFactor, b_NoFactor⟩ := ok_NoFactor (P := P) (w := w) (base := base) T
  obtain ⟨_, G_NotUniform, b_NotUniform⟩ := ok_NotUniform (P := P) (w := w) (base := base) T
  obtain ⟨_, G_NotDecided, b_NotDecided⟩ := ok_NotDecided (P := P) (w := w) (base := base) T
  obtain ⟨_, G_Undetermined, b_Undetermined⟩ := ok_Undetermined (P := P) (w := w) (base := base) T
  obtain ⟨_, G_BadPaper, b_BadPaper⟩ := ok_BadPaper (P := P) (w := w) (base := base) T
  obtain ⟨_, G_NotDone, b_NotDone⟩ := ok_NotDone (P := P) (w := w) (base := base) T
  obtain ⟨_, G_Unasked, b_Unasked⟩ := ok_Unasked (P := P) (w := w) (base := base) T
  obtain ⟨_, G_TooMany, b_TooMany⟩ := ok_TooMany (P := P) (w := w) (base := base) T
  obtain ⟨_, G_NotEnough, b_NotEnough⟩ := ok_NotEnough (P := P) (w := w) (base := base) T
  obtain ⟨_, G_KnownRow, b_KnownRow⟩ := ok_KnownRow (P := P) (w := w) (base := base) T
  obtain ⟨_, G_BadFoe, b_BadFoe⟩ := ok_BadFoe (P := P) (w := w) (base := base) T
  obtain ⟨_, G_BadPolicy, b_BadPolicy⟩ := ok_BadPolicy (P := P) (w := w) (base := base) T
  obtain ⟨_, G_BadDead, b_BadDead⟩ := ok_BadDead (P := P) (w := w) (base := base) T
  obtain ⟨_, G_NoSpread, b_NoSpread⟩ := ok_NoSpread (P := P) (w := w) (base := base) T
  obtain ⟨_, G_NotInDoubt, b_NotInDoubt⟩ := ok_NotInDoubt (P := P) (w := w) (base := base) T
  obtain ⟨_, G_BadDeed, b_BadDeed⟩ := ok_BadDeed (P := P) (w := w) (base := base) T
  obtain ⟨_, G_NotNewest, b_NotNewest⟩ := ok_NotNewest (P := P) (w := w) (base := base) T
  obtain ⟨_, G_NothingCut, b_NothingCut⟩ := ok_NothingCut (P := P) (w := w) (base := base) T
  obtain ⟨_, G_Unfit, b_Unfit⟩ := ok_Unfit (P := P) (w := w) (base := base) T
  obtain ⟨_, G_NotKnown, b_NotKnown⟩ := ok_NotKnown (P := P) (w := w) (base := base) T
  obtain ⟨_, G_BadStory, b_BadStory⟩ := ok_BadStory (P := P) (w := w) (base := base) T
  refine ⟨fd, F.ok sc_law (fun vs H Q E h => ?_) (fun cdv A outer s H vs Q E hr h => ?_), F⟩
  · obtain ⟨a, ns, rfl, _⟩ := h
    rfl
  · obtain ⟨a, ns, rfl, hS, kQ⟩ := h
    have n40 : (10 : Nat) ^ 40 = 10000000000000000000000000000000000000000 := by decide +kernel
    have big : (10 : Int) ^ (30 : Int).toNat = 1000000000000000000000000000000 := by decide +kernel
    have big2 : (10 : Int) ^ (29 : Int).toNat = 100000000000000000000000000000 := by decide +kernel
    refine ⟨_, PSs.nox (pss_cons (ps_set (i := 1) sc_law.nd rfl (Or.inr rfl) (pe_cal C__law_bag (hr.mono (by decide)) pass0 (pa_cons (pv 0) pa_nil)))
      (pss_cons (ps_set (i := 3) sc_law.nd rfl (Or.inl rfl) (pe_bm PySem.F.plainAttrs_str PySem.F.slot_str_join PySem.F.type_str_join mt_join pe_str (pa_cons (pe_lc (own := [("k", 2)]) (g := gName 2) (tt := tYes) (by rfl) sc_law.nd (pi_range1 (by rfl) T.n_range (pa_cons (pe_op op_add pe_int (pe_cal C__law_draw (hr.mono (by decide)) pass0 (pa_cons (pv 1) (pa_cons pe_int pa_nil)))) pa_nil)) (blkOk_by (N := ["script", "bag", "k", "word", "name", "at", "row", "page", "errors", "e", "told", "j", "right"]) (sc := defScope s_law) (by decide +kernel)) (fun _ _ _ _ _ => (pg_name (i := 2) sc_law.nd rfl (Or.inl rfl))) (fun _ _ _ _ _ => pts_nil) (fun _ _ _ _ _ => (pe_ix ix_str pe_str (pe_cal C__law_draw (hr.mono (by decide)) pass0 (pa_cons (pv 1) (pa_cons pe_int pa_nil))) (fun _ _ => rfl)))) pa_nil)))
      (pss_cons (ps_set (i := 4) sc_law.nd rfl (Or.inl rfl) (pe_op op_add_str (pv 3) pe_str))
      (pss_cons (ps_set (i := 5) sc_law.nd rfl (Or.inl rfl) (pe_op op_sub (pe_cal C__law_draw (hr.mono (by decide)) pass0 (pa_cons (pv 1) (pa_cons (pe_op op_pow pe_int pe_int) pa_nil))) (pe_op op_pow pe_int pe_int)))
      (pss_cons (ps_set (i := 6) sc_law.nd rfl (Or.inl rfl) (pe_callTy call_tupOf (by rfl) T.n_tuple (by decide +kernel) (pa_cons (pe_lc (own := [("k", 2)]) (g := gName 2) (tt := tYes) (by rfl) sc_law.nd (pi_range1 (by rfl) T.n_range (pa_cons (pe_cal C__law_draw (hr.mono (by decide)) pass0 (pa_cons (pv 1) (pa_cons pe_int pa_nil))) pa_nil)) (blkOk_by (N := ["script", "bag", "k", "word", "name", "at", "row", "page", "errors", "e", "told", "j", "right"]) (sc := defScope s_law) (by decide +kernel)) (fun _ _ _ _ _ => (pg_name (i := 2) sc_law.nd rfl (Or.inl rfl))) (fun _ _ _ _ _ => pts_nil) (fun _ _ _ _ _ => (pe_cal C__law_draw (hr.mono (by decide)) pass0 (pa_cons (pv 1) (pa_cons pe_int pa_nil))))) pa_nil)))
      (pss_cons (ps_set (i := 7) sc_law.nd rfl (Or.inl rfl) (pe_tup (pa_cons (pv 4) (pa_cons (pe_cal C__law_draw (hr.mono (by decide)) pass0 (pa_cons (pv 1) (pa_cons pe_int pa_nil))) (pa_cons (pe_cal C__law_draw (hr.mono (by decide)) pass0 (pa_cons (pv 1) (pa_cons pe_int pa_nil))) (pa_cons (pv 6) pa_nil))))))
      (pss_cons (ps_set (i := 8) sc_law.nd rfl (Or.inl rfl) (pe_lst (pa_cons (pe_ex0 T.b_BadWidths T.g_BadWidths T.k_BadWidths) (pa_cons (pe_exI T.o_BadRow T.i_BadRow T.t_BadRow G_BadRow (hr.mono (by decide)) b_BadRow pass0 T.g_BadRow (pa_cons (pv 6) pa_nil)) (pa_cons (pe_exI T.o_BadBox T.i_BadBox T.t_BadBox G_BadBox (hr.mono (by decide)) b_BadBox pass0 T.g_BadBox (pa_cons (pv 3) (pa_cons (pv 5) pa_nil))) (pa_cons (pe_ex0 T.b_UnlikeBoxes T.g_UnlikeBoxes T.k_UnlikeBoxes) (pa_cons (pe_exI T.o_BadColumn T.i_BadColumn T.t_BadColumn G_BadColumn (hr.mono (by decide)) b_BadColumn pass0 T.g_BadColumn (pa_cons (pv 5) pa_nil)) (pa_cons (pe_ex0 T.b_BadData T.g_BadData T.k_BadData) (pa_cons (pe_exI T.o_BadText T.i_BadText T.t_BadText G_BadText (hr.mono (by decide)) b_BadText pass0 T.g_BadText (pa_cons (pv 5) pa_nil)) (pa_cons (pe_exI T.o_BadPage T.i_BadPage T.t_BadPage G_BadPage (hr.mono (by decide)) b_BadPage pass0 T.g_BadPage (pa_cons (pv 3) pa_nil)) (pa_cons (pe_exI T.o_BadIndex T.i_BadIndex T.t_BadIndex G_BadIndex (hr.mono (by decide)) b_BadIndex pass0 T.g_BadIndex (pa_cons (pv 3) pa_nil)) (pa_cons (pe_exI T.o_BadLayer T.i_BadLayer T.t_BadLayer G_BadLayer (hr.mono (by decide)) b_BadLayer pass0 T.g_BadLayer (pa_cons (pv 3) (pa_cons (pv 5) pa_nil))) (pa_cons (pe_exI T.o_NoIndex T.i_NoIndex T.t_NoIndex G_NoIndex (hr.mono (by decide)) b_NoIndex pass0 T.g_NoIndex (pa_cons (pv 5) pa_nil)) (pa_cons (pe_exI T.o_BadTable T.i_BadTable T.t_BadTable G_BadTable (hr.mono (by decide)) b_BadTable pass0 T.g_BadTable (pa_cons (pv 3) (pa_cons (pv 5) pa_nil))) (pa_cons (pe_exI T.o_NoLayer T.i_NoLayer T.t_NoLayer G_NoLayer (hr.mono (by decide)) b_NoLayer pass0 T.g_NoLayer (pa_cons (pv 5) pa_nil)) (pa_cons (pe_exI T.o_BadStore T.i_BadStore T.t_BadStore G_BadStore (hr.mono (by decide)) b_BadStore pass0 T.g_BadStore (pa_cons (pv 3) (pa_cons (pv 5) pa_nil))) (pa_cons (pe_exI T.o_NoTable T.i_NoTable T.t_NoTable G_NoTable (hr.mono (by decide)) b_NoTable pass0 T.g_NoTable (pa_cons (pv 4) pa_nil)) (pa_cons (pe_exI T.o_BadChange T.i_BadChange T.t_BadChange G_BadChange (hr.mono (by decide)) b_BadChange pass0 T.g_BadChange (pa_cons (pv 5) pa_nil)) (pa_cons (pe_exI0 T.o_BadKinds T.i_BadKinds T.t_BadKinds G_BadKinds (hr.mono (by decide)) b_BadKinds pass0 T.g_BadKinds) (pa_cons (pe_exI T.o_LayersFull T.i_LayersFull T.t_LayersFull G_LayersFull (hr.mono (by decide)) b_LayersFull pass0 T.g_LayersFull (pa_cons (pv 4) pa_nil)) (pa_cons (pe_exI T.o_BadNumber T.i_BadNumber T.t_BadNumber G_BadNumber (hr.mono (by decide)) b_BadNumber pass0 T.g_BadNumber (pa_cons (pv 5) pa_nil)) (pa_cons (pe_exI0 T.o_NotBefore T.i_NotBefore T.t_NotBefore G_NotBefore (hr.mono (by decide)) b_NotBefore pass0 T.g_NotBefore) (pa_cons (pe_exI T.o_BadQuestion T.i_BadQuestion T.t_BadQuestion G_BadQuestion (hr.mono (by decide)) b_BadQuestion pass0 T.g_BadQuestion (pa_cons (pv 3) (pa_cons (pv 5) pa_nil))) (pa_cons (pe_exI0 T.o_Again T.i_Again T.t_Again G_Again (hr.mono (by decide)) b_Again pass0 T.g_Again) (pa_cons (pe_exI0 T.o_Foreign T.i_Foreign T.t_Foreign G_Foreign (hr.mono (by decide)) b_Foreign pass0 T.g_Foreign) (pa_cons (pe_exI T.o_NoPage T.i_NoPage T.t_NoPage G_NoPage (hr.mono (by decide)) b_NoPage pass0 T.g_NoPage (pa_cons (pv 7) pa_nil)) (pa_cons (pe_exI T.o_NoFactor T.i_NoFactor T.t_NoFactor G_NoFactor (hr.mono (by decide)) b_NoFactor pass0 T.g_NoFactor (pa_cons (pv 3) pa_nil)) (pa_cons (pe_exI0 T.o_NotUniform T.i_NotUniform T.t_NotUniform G_NotUniform (hr.mono (by decide)) b_NotUniform pass0 T.g_NotUniform) (pa_cons (pe_exI0 T.o_NotDecided T.i_NotDecided T.t_NotDecided G_NotDecided (hr.mono (by decide)) b_NotDecided pass0 T.g_NotDecided) (pa_cons (pe_exI0 T.o_Undetermined T.i_Undetermined T.t_Undetermined G_Undetermined (hr.mono (by decide)) b_Undetermined pass0 T.g_Undetermined) (pa_cons (pe_exI T.o_BadPaper T.i_BadPaper T.t_BadPaper G_BadPaper (hr.mono (by decide)) b_BadPaper pass0 T.g_BadPaper (pa_cons (pv 5) (pa_cons (pv 3) pa_nil))) (pa_cons (pe_exI0 T.o_NotDone T.i_NotDone T.t_NotDone G_NotDone (hr.mono (by decide)) b_NotDone pass0 T.g_NotDone) (pa_cons (pe_exI0 T.o_Unasked T.i_Unasked T.t_Unasked G_Unasked (hr.mono (by decide)) b_Unasked pass0 T.g_Unasked) (pa_cons (pe_exI T.o_TooMany T.i_TooMany T.t_TooMany G_TooMany (hr.mono (by decide)) b_TooMany pass0 T.g_TooMany (pa_cons (pv 5) pa_nil)) (pa_cons (pe_exI0 T.o_NotEnough T.i_NotEnough T.t_NotEnough G_NotEnough (hr.mono (by decide)) b_NotEnough pass0 T.g_NotEnough) (pa_cons (pe_exI T.o_KnownRow T.i_KnownRow T.t_KnownRow G_KnownRow (hr.mono (by decide)) b_KnownRow pass0 T.g_KnownRow (pa_cons (pv 4) (pa_cons (pv 6) pa_nil))) (pa_cons (pe_exI T.o_BadFoe T.i_BadFoe T.t_BadFoe G_BadFoe (hr.mono (by decide)) b_BadFoe pass0 T.g_BadFoe (pa_cons (pv 3) pa_nil)) (pa_cons (pe_exI0 T.o_BadPolicy T.i_BadPolicy T.t_BadPolicy G_BadPolicy (hr.mono (by decide)) b_BadPolicy pass0 T.g_BadPolicy) (pa_cons (pe_exI T.o_BadDead T.i_BadDead T.t_BadDead G_BadDead (hr.mono (by decide)) b_BadDead pass0 T.g_BadDead (pa_cons (pv 5) pa_nil)) (pa_cons (pe_exI T.o_NoSpread T.i_NoSpread T.t_NoSpread G_NoSpread (hr.mono (by decide)) b_NoSpread pass0 T.g_NoSpread (pa_cons (pv 3) pa_nil)) (pa_cons (pe_exI T.o_NotInDoubt T.i_NotInDoubt T.t_NotInDoubt G_NotInDoubt (hr.mono (by decide)) b_NotInDoubt pass0 T.g_NotInDoubt (pa_cons (pv 6) pa_nil)) (pa_cons (pe_exI0 T.o_BadDeed T.i_BadDeed T.t_BadDeed G_BadDeed (hr.mono (by decide)) b_BadDeed pass0 T.g_BadDeed) (pa_cons (pe_exI0 T.o_NotNewest T.i_NotNewest T.t_NotNewest G_NotNewest (hr.mono (by decide)) b_NotNewest pass0 T.g_NotNewest) (pa_cons (pe_exI0 T.o_NothingCut T.i_NothingCut T.t_NothingCut G_NothingCut (hr.mono (by decide)) b_NothingCut pass0 T.g_NothingCut) (pa_cons (pe_exI T.o_Unfit T.i_Unfit T.t_Unfit G_Unfit (hr.mono (by decide)) b_Unfit pass0 T.g_Unfit (pa_cons (pv 4) pa_nil)) (pa_cons (pe_exI T.o_NotKnown T.i_NotKnown T.t_NotKnown G_NotKnown (hr.mono (by decide)) b_NotKnown pass0 T.g_NotKnown (pa_cons (pv 5) pa_nil)) (pa_cons (pe_exI T.o_BadStory T.i_BadStory T.t_BadStory G_BadStory (hr.mono (by decide)) b_BadStory pass0 T.g_BadStory (pa_cons (pv 5) pa_nil)) pa_nil)))))))))))))))))))))))))))))))))))))))))))))))
      (pss_cons (ps_for PassesOwn.never rfl (pi_range1 (by rfl) T.n_range (pa_cons (pe_callB call_len_seq (by rfl) T.n_len (by decide +kernel) (pa_cons (pv 8) pa_nil)) pa_nil)) (pg_name (i := 2) sc_law.nd rfl (Or.inl rfl))
        (pss_cons (ps_set (i := 9) sc_law.nd rfl (Or.inl rfl) (pe_ix ix_list (pv 8) (pv 2) (fun _ _ => rfl)))
        (pss_cons (ps_if (PW.pt (pw_or (pt_not (pt_val (pe_callB call_isV (by rfl) T.n_isinstance (by decide +kernel) (pa_cons (pv 9) (pa_cons (pe_glob (v := .ref (He.ga K "FetchError")) rfl T.g_FetchError rfl) pa_nil))))) (pw_or1 (pt_not (pt_val (pe_callB call_isV (by rfl) T.n_isinstance (by decide +kernel) (pa_cons (pv 9) (pa_cons (pe_bltn (v := .ty "ValueError") (u := .type "ValueError") (by rfl) T.n_ValueError (by decide +kernel) rfl) pa_nil))))))))
          (pss_one (ps_ret pe_bl))
          pss_nil)
        (pss_cons (ps_set (i := 10) sc_law.nd rfl (Or.inr rfl) (pe_cal C__law_classes (hr.mono (by decide)) pass0 (pa_cons (pv 9) pa_nil)))
        (pss_one (ps_if (pt_cmpR (op_neD hr.units) (pe_lc (own := [("j", 11)]) (g := gName 11) (tt := _) (by rfl) sc_law.nd (pi_range1 (by rfl) T.n_range (pa_cons (pe_callB call_len_seq (by rfl) T.n_len (by decide +kernel) (pa_cons (pv 8) pa_nil)) pa_nil)) (blkOk_by (N := ["script", "bag", "k", "word", "name", "at", "row", "page", "errors", "e", "told", "j", "right"]) (sc := defScope s_law) (by decide +kernel)) (fun _ _ _ _ _ => (pg_name (i := 11) sc_law.nd rfl (Or.inl rfl))) (fun _ _ _ _ _ => (pts_one (pt_val (pe_ix ix_listB (pv 10) (pv 11) (fun _ _ => rfl))))) (fun _ _ _ _ _ => (pv 11))) (pe_lst (pa_cons (pv 2) pa_nil)) (nomark _))
          (pss_one (ps_ret pe_bl))
          pss_nil))))))
      (pss_cons (ps_set (i := 12) sc_law.nd rfl (Or.inl rfl) (pe_lst (pa_cons (pe_cmpR (op_eqD hr.units) (pe_xv (pe_ix ix_list (pv 8) pe_int (fun _ _ => rfl))) (pv 6) (nomark _)) (pa_cons (pe_cmpR op_eq (pe_xv (pe_ix ix_list (pv 8) pe_int (fun _ _ => rfl))) (pv 3) (nomark _)) (pa_cons (pe_cmpR op_eq (pe_xv (pe_ix ix_list (pv 8) pe_int (fun _ _ => rfl))) (pv 5) (nomark _)) (pa_cons (pe_cmpR op_eq (pe_xv (pe_ix ix_list (pv 8) pe_int (fun _ _ => rfl))) (pv 5) (nomark _)) (pa_cons (pe_cmpR op_eq (pe_xv (pe_ix ix_list (pv 8) pe_int (fun _ _ => rfl))) (pv 5) (nomark _)) (pa_cons (pe_cmpR op_eq (pe_xv (pe_ix ix_list (pv 8) pe_int (fun _ _ => rfl))) (pv 3) (nomark _)) (pa_cons (pe_cmpR op_eq (pe_xv (pe_ix ix_list (pv 8) pe_int (fun _ _ => rfl))) (pv 3) (nomark _)) (pa_cons (pe_cmpR op_eq (pe_xv (pe_ix ix_list (pv 8) pe_int (fun _ _ => rfl))) (pv 3) (nomark _)) (pa_cons (pe_cmpR op_eq (pe_xv (pe_ix ix_list (pv 8) pe_int (fun _ _ => rfl))) (pv 5) (nomark _)) (pa_cons (pe_cmpR op_eq (pe_xv (pe_ix ix_list (pv 8) pe_int (fun _ _ => rfl))) (pv 5) (nomark _)) (pa_cons (pe_cmpR op_eq (pe_xv (pe_ix ix_list (pv 8) pe_int (fun _ _ => rfl))) (pv 3) (nomark _)) (pa_cons (pe_cmpR op_eq (pe_xv (pe_ix ix_list (pv 8) pe_int (fun _ _ => rfl))) (pv 5) (nomark _)) (pa_cons (pe_cmpR op_eq (pe_xv (pe_ix ix_list (pv 8) pe_int (fun _ _ => rfl))) (pv 5) (nomark _)) (pa_cons (pe_cmpR op_eq (pe_xv (pe_ix ix_list (pv 8) pe_int (fun _ _ => rfl))) (pv 3) (nomark _)) (pa_cons (pe_cmpR op_eq (pe_xv (pe_ix ix_list (pv 8) pe_int (fun _ _ => rfl))) (pv 5) (nomark _)) (pa_cons (pe_cmpR op_eq (pe_xv (pe_ix ix_list (pv 8) pe_int (fun _ _ => rfl))) (pv 4) (nomark _)) (pa_cons (pe_cmpR op_eq (pe_xv (pe_ix ix_list (pv 8) pe_int (fun _ _ => rfl))) (pv 5) (nomark _)) (pa_cons (pe_cmpR op_eq (pe_xv (pe_ix ix_list (pv 8) pe_int (fun _ _ => rfl))) (pv 4) (nomark _)) (pa_cons (pe_cmpR op_eq (pe_xv (pe_ix ix_list (pv 8) pe_int (fun _ _ => rfl))) (pv 5) (nomark _)) (pa_cons (pe_cmpR op_eq (pe_xv (pe_ix ix_list (pv 8) pe_int (fun _ _ => rfl))) (pv 3) (nomark _)) (pa_cons (pe_cmpR op_eq (pe_xv (pe_ix ix_list (pv 8) pe_int (fun _ _ => rfl))) (pv 5) (nomark _)) (pa_cons (pe_cmpR (op_eqD hr.units) (pe_xv (pe_ix ix_list (pv 8) pe_int (fun _ _ => rfl))) (pv 7) (nomark _)) (pa_cons (pe_cmpR op_eq (pe_xv (pe_ix ix_list (pv 8) pe_int (fun _ _ => rfl))) (pv 3) (nomark _)) (pa_cons (pe_cmpR op_eq (pe_xv (pe_ix ix_list (pv 8) pe_int (fun _ _ => rfl))) (pv 5) (nomark _)) (pa_cons (pe_cmpR op_eq (pe_xv (pe_ix ix_list (pv 8) pe_int (fun _ _ => rfl))) (pv 3) (nomark _)) (pa_cons (pe_cmpR op_eq (pe_xv (pe_ix ix_list (pv 8) pe_int (fun _ _ => rfl))) (pv 5) (nomark _)) (pa_cons (pe_cmpR op_eq (pe_xv (pe_ix ix_list (pv 8) pe_int (fun _ _ => rfl))) (pv 4) (nomark _)) (pa_cons (pe_cmpR (op_eqD hr.units) (pe_xv (pe_ix ix_list (pv 8) pe_int (fun _ _ => rfl))) (pv 6) (nomark _)) (pa_cons (pe_cmpR op_eq (pe_xv (pe_ix ix_list (pv 8) pe_int (fun _ _ => rfl))) (pv 3) (nomark _)) (pa_cons (pe_cmpR op_eq (pe_xv (pe_ix ix_list (pv 8) pe_int (fun _ _ => rfl))) (pv 5) (nomark _)) (pa_cons (pe_cmpR op_eq (pe_xv (pe_ix ix_list (pv 8) pe_int (fun _ _ => rfl))) (pv 3) (nomark _)) (pa_cons (pe_cmpR (op_eqD hr.units) (pe_xv (pe_ix ix_list (pv 8) pe_int (fun _ _ => rfl))) (pv 6) (nomark _)) (pa_cons (pe_cmpR op_eq (pe_xv (pe_ix ix_list (pv 8) pe_int (fun _ _ => rfl))) (pv 4) (nomark _)) (pa_cons (pe_cmpR op_eq (pe_xv (pe_ix ix_list (pv 8) pe_int (fun _ _ => rfl))) (pv 5) (nomark _)) (pa_cons (pe_cmpR op_eq (pe_xv (pe_ix ix_list (pv 8) pe_int (fun _ _ => rfl))) (pv 5) (nomark _)) pa_nil)))))))))))))))))))))))))))))))))))))
      (pss_one (ps_ret (pe_callB (cr_all rfl) (by rfl) T.n_all (by decide +kernel) (pa_cons (pv 12) pa_nil))))))))))))), ?_⟩
    refine ⟨_, rfl, a, ns, rfl, hS, fun b c H0 nb nc s1 B => ?_⟩
    -- the word
    refine ⟨rfl, _, rfl, b, c, 9, 0, rfl, B, by decide, by decide, by decide, fun len H1 n0 n9 o1 B1 => ⟨_, _, rfl, rfl, ?_⟩⟩
    obtain ⟨m, rfl⟩ : ∃ m : Nat, len = (m : Int) := ⟨len.toNat, by omega⟩
    refine ⟨(1 : Int) + (m : Int), rfl, by omega, by omega, fun D nD => ?_⟩
    rw [show (1 : Int) + (m : Int) = ((1 + m : Nat) : Int) by omega, Int.toNat_natCast]
    have Db := (B1.new nD).1
    have Dc := (B1.new nD).2
    refine lc_range (lo := 0) (n := 1 + m) (fun i H' => BagAt H' b c (1 + i) ∧ ∃ cs : List Nat, H' D = some (.lst ((cs.map sgn).map V.str)) ∧ cs.length = i ∧ ∀ c ∈ cs, inLetters c = true) ⟨(B1.updNew nD).mono (by omega), [], upd_same, rfl, by simp⟩ ?_ ?_
    · rintro i H2 hi ⟨B2, cs, hD, hl, al⟩
      refine ⟨rfl, ⟨_, rfl, b, c, 26, _, rfl, B2, by decide, by decide, by omega, fun r H3 r0 r26 o3 B3 => ?_⟩⟩
      obtain ⟨ch, at_, inl⟩ := letter_at r0 r26
      have hD3 := o3.at Db hD
      refine ⟨lettersT, r, ch, rfl, rfl, by decide +kernel, at_, _, hD3, ?_, (B3.upd Db Dc).mono (by omega), cs ++ [ch], ?_, by rw [List.length_append, hl]; rfl, ?_⟩
      · rw [List.length_map, List.length_map]
        exact small1000 (by omega)
      · rw [upd_same, List.map_append, List.map_append]
        rfl
      · intro x hx
        rcases List.mem_append.mp hx with hx | hx
        · exact al x hx
        · obtain rfl := List.mem_singleton.mp hx
          exact inl
    rintro H2 ⟨B2, cs, hD, hl, al⟩
    refine ⟨_, D, cs.map sgn, rfl, rfl, .inl (SqL.of hD), ?_, ?_⟩
    · rw [sum_ones, List.length_map]
      have : (Str.ofString "").length = 0 := by decide +kernel
      rw [this]
      omega
    rw [join_sgn]
    have sl : (SX.S cs).length = cs.length := List.size_toArray ..
    have nameE : SX.S cs ++ Str.ofString "x" = SX.S (cs ++ [120]) := TL.ext_tl (by rw [TL.tl_append]; rfl)
    have snl : (SX.S (cs ++ [120])).length = cs.length + 1 := (List.size_toArray ..).trans (by rw [List.length_append]; rfl)
    have okN : PyData.canLay0 (.str (SX.S (cs ++ [120]))) = true := strOk_S fun c m => by
      rcases List.mem_append.mp m with m | m
      · exact small_letter (al c m)
      · obtain rfl := List.mem_singleton.mp m
        decide
    refine ⟨_, rfl, _, _, rfl, rfl, ?_, ?_⟩
    · rw [sl]
      exact Nat.le_trans (show cs.length + 1 ≤ 1000 by omega) (by decide)
    rw [nameE]
    obtain ⟨word, hword⟩ : ∃ z, z = SX.S cs := ⟨_, rfl⟩
    obtain ⟨name, hname⟩ : ∃ z, z = SX.S (cs ++ [120]) := ⟨_, rfl⟩
    rw [← hname] at snl okN ⊢
    rw [← hword] at sl ⊢
    have wW : Word (.str word) := .inl ⟨word, rfl, by omega⟩
    have wN : Word (.str name) := .inl ⟨name, rfl, by omega⟩
    -- the number
    refine ⟨_, rfl, _, _, rfl, rfl, ⟨by decide, by decide, by decide⟩, b, c, _, _, rfl, B2, by decide +kernel, by decide +kernel, by omega, fun r1 H3 x0 x1 o3 B3 => ?_⟩
    refine ⟨_, _, rfl, rfl, ⟨by decide, by decide, by decide⟩, _, _, rfl, rfl, ?_⟩
    obtain ⟨at_, hat⟩ : ∃ z : Int, z = r1 - 10 ^ (29 : Int).toNat := ⟨_, rfl⟩
    show gName 5 (V.int (r1 - 10 ^ (29 : Int).toNat)) _ _ _
    rw [← hat]
    have wA : Word (.int at_) := .inr ⟨at_, rfl, by omega⟩
    -- the row
    refine ⟨_, rfl, b, c, 4, _, rfl, B3, by decide, by decide, by omega, fun len2 H4 m0 m4 o4 B4 => ?_⟩
    obtain ⟨m2, rfl⟩ : ∃ m : Nat, len2 = (m : Int) := ⟨len2.toNat, by omega⟩
    refine ⟨(m2 : Int), rfl, by omega, by omega, fun E2 nE => ?_⟩
    rw [Int.toNat_natCast]
    have Eb := (B4.new nE).1
    have Ec := (B4.new nE).2
    refine lc_range (lo := 0) (n := m2) (fun i H' => BagAt H' b c (30 + i) ∧ ∃ rs : List Int, H' E2 = some (.lst (rs.map V.int)) ∧ rs.length = i) ⟨(B4.updNew nE).mono (by omega), [], upd_same, rfl⟩ ?_ ?_
    · rintro i H5 hi ⟨B5, rs, hE, hrl⟩
      refine ⟨rfl, _, rfl, b, c, 64, _, rfl, B5, by decide, by decide, by omega, fun v H6 v0 v1 o6 B6 => ?_⟩
      refine ⟨_, o6.at Eb hE, ?_, (B6.upd Eb Ec).mono (by omega), rs ++ [v], ?_, by rw [List.length_append, hrl]; rfl⟩
      · rw [List.length_map]
        exact small1000 (by omega)
      · rw [upd_same, List.map_append]
        rfl
    rintro H5 ⟨B5, rs, hE, hrl⟩
    refine tupL_of (SqL.of hE) fun rw_ nrw => ?_
    have hrw : (upd H5 rw_ (HO.tup (rs.map V.int))) rw_ = some (.tup (rs.map V.int)) := upd_same
    have B5' := B5.updNew (o := HO.tup (rs.map V.int)) nrw
    have rwb := (B5.new nrw).1
    generalize upd H5 rw_ (HO.tup (rs.map V.int)) = H5' at hrw B5' ⊢
    -- the page
    refine ⟨_, rfl, _, rfl, b, c, 3, _, rfl, B5', by decide, by decide, by omega, fun d1 H7 p0 p1 o7 B7 => ?_⟩
    refine ⟨_, rfl, b, c, 3, _, rfl, B7, by decide, by decide, by omega, fun d2 H8 q0 q1 o8 B8 => ?_⟩
    have hrw8 := o8.at rwb (o7.at rwb hrw)
    refine ⟨_, rfl, by show 4 ≤ sizeLine; decide, fun pg npg => ?_⟩
    have hpg : (upd H8 pg (HO.tup [V.str name, V.int d1, V.int d2, V.ref rw_])) pg = some (.tup [V.str name, V.int d1, V.int d2, V.ref rw_]) := upd_same
    have hrow := same_new (o := HO.tup [V.str name, V.int d1, V.int d2, V.ref rw_]) npg _ _ hrw8
    generalize upd H8 pg (HO.tup [V.str name, V.int d1, V.int d2, V.ref rw_]) = H6 at hpg hrow ⊢
    clear hrw8 npg B8 o8 B7 o7 B5' hrw nrw hE B5 nE B4 o4 B3 o3 B2 hD nD B1 o1 B s1 hS
    -- the errors
    refine fun a0 na0 => ?_
    have x0 : ExAt (upd H6 a0 (exo a0 (He.ga K "BadWidths") none)) a0 (He.ga K "BadWidths") [] := .inl ⟨upd_same, rfl⟩
    have s0 : Same H6 (upd H6 a0 (exo a0 (He.ga K "BadWidths") none)) := same_new na0
    generalize upd H6 a0 (exo a0 (He.ga K "BadWidths") none) = h0 at x0 s0 ⊢
    refine ⟨_, rfl, by show 1 ≤ 1000; decide, fun a1 na1 => ⟨a1, [.ref rw_], rfl, rfl, trivial, upd_same, fun h1 k1 y1 => ⟨rfl, ?_⟩⟩⟩
    have s1 : Same h0 h1 := same_keep na1 k1
    have x1 : ExAt h1 a1 (He.ga K "BadRow") [("row", .ref rw_)] := y1
    clear y1 k1
    refine ⟨_, rfl, _, rfl, by show 2 ≤ 1000; decide, fun a2 na2 => ⟨a2, [.str word, .int at_], rfl, rfl, trivial, upd_same, fun h2 k2 y2 => ⟨rfl, ?_⟩⟩⟩
    have s2 : Same h1 h2 := same_keep na2 k2
    have x2 : ExAt h2 a2 (He.ga K "BadBox") [("at", .int at_), ("what", .str word)] := y2
    clear y2 k2
    refine fun a3 na3 => ?_
    have x3 : ExAt (upd h2 a3 (exo a3 (He.ga K "UnlikeBoxes") none)) a3 (He.ga K "UnlikeBoxes") [] := .inl ⟨upd_same, rfl⟩
    have s3 : Same h2 (upd h2 a3 (exo a3 (He.ga K "UnlikeBoxes") none)) := same_new na3
    generalize upd h2 a3 (exo a3 (He.ga K "UnlikeBoxes") none) = h3 at x3 s3 ⊢
    refine ⟨_, rfl, by show 1 ≤ 1000; decide, fun a4 na4 => ⟨a4, [.int at_], rfl, rfl, trivial, upd_same, fun h4 k4 y4 => ⟨rfl, ?_⟩⟩⟩
    have s4 : Same h3 h4 := same_keep na4 k4
    have x4 : ExAt h4 a4 (He.ga K "BadColumn") [("column", .int at_)] := y4
    clear y4 k4
    refine fun a5 na5 => ?_
    have x5 : ExAt (upd h4 a5 (exo a5 (He.ga K "BadData") none)) a5 (He.ga K "BadData") [] := .inl ⟨upd_same, rfl⟩
    have s5 : Same h4 (upd h4 a5 (exo a5 (He.ga K "BadData") none)) := same_new na5
    generalize upd h4 a5 (exo a5 (He.ga K "BadData") none) = h5 at x5 s5 ⊢
    refine ⟨_, rfl, by show 1 ≤ 1000; decide, fun a6 na6 => ⟨a6, [.int at_], rfl, rfl, trivial, upd_same, fun h6 k6 y6 => ⟨rfl, ?_⟩⟩⟩
    have s6 : Same h5 h6 := same_keep na6 k6
    have x6 : ExAt h6 a6 (He.ga K "BadText") [("place", .int at_)] := y6
    clear y6 k6
    refine ⟨_, rfl, by show 1 ≤ 1000; decide, fun a7 na7 => ⟨a7, [.str word], rfl, rfl, trivial, upd_same, fun h7 k7 y7 => ⟨rfl, ?_⟩⟩⟩
    have s7 : Same h6 h7 := same_keep na7 k7
    have x7 : ExAt h7 a7 (He.ga K "BadPage") [("what", .str word)] := y7
    clear y7 k7
    refine ⟨_, rfl, by show 1 ≤ 1000; decide, fun a8 na8 => ⟨a8, [.str word], rfl, rfl, trivial, upd_same, fun h8 k8 y8 => ⟨rfl, ?_⟩⟩⟩
    have s8 : Same h7 h8 := same_keep na8 k8
    have x8 : ExAt h8 a8 (He.ga K "BadIndex") [("what", .str word)] := y8
    clear y8 k8
    refine ⟨_, rfl, _, rfl, by show 2 ≤ 1000; decide, fun a9 na9 => ⟨a9, [.str word, .int at_], rfl, rfl, ⟨wW, wA⟩, upd_same, fun h9 k9 y9 => ⟨rfl, ?_⟩⟩⟩
    have s9 : Same h8 h9 := same_keep na9 k9
    have x9 : ExAt h9 a9 (He.ga K "BadLayer") [("at", .int at_), ("what", .str word)] := y9
    clear y9 k9
    refine ⟨_, rfl, by show 1 ≤ 1000; decide, fun a10 na10 => ⟨a10, [.int at_], rfl, rfl, trivial, upd_same, fun h10 k10 y10 => ⟨rfl, ?_⟩⟩⟩
    have s10 : Same h9 h10 := same_keep na10 k10
    have x10 : ExAt h10 a10 (He.ga K "NoIndex") [("index", .int at_)] := y10
    clear y10 k10
    refine ⟨_, rfl, _, rfl, by show 2 ≤ 1000; decide, fun a11 na11 => ⟨a11, [.str word, .int at_], rfl, rfl, ⟨wW, wA⟩, upd_same, fun h11 k11 y11 => ⟨rfl, ?_⟩⟩⟩
    have s11 : Same h10 h11 := same_keep na11 k11
    have x11 : ExAt h11 a11 (He.ga K "BadTable") [("at", .int at_), ("what", .str word)] := y11
    clear y11 k11
    refine ⟨_, rfl, by show 1 ≤ 1000; decide, fun a12 na12 => ⟨a12, [.int at_], rfl, rfl, trivial, upd_same, fun h12 k12 y12 => ⟨rfl, ?_⟩⟩⟩
    have s12 : Same h11 h12 := same_keep na12 k12
    have x12 : ExAt h12 a12 (He.ga K "NoLayer") [("layer", .int at_)] := y12
    clear y12 k12
    refine ⟨_, rfl, _, rfl, by show 2 ≤ 1000; decide, fun a13 na13 => ⟨a13, [.str word, .int at_], rfl, rfl, ⟨wW, wA⟩, upd_same, fun h13 k13 y13 => ⟨rfl, ?_⟩⟩⟩
    have s13 : Same h12 h13 := same_keep na13 k13
    have x13 : ExAt h13 a13 (He.ga K "BadStore") [("at", .int at_), ("what", .str word)] := y13
    clear y13 k13
    refine ⟨_, rfl, by show 1 ≤ 1000; decide, fun a14 na14 => ⟨a14, [.str name], rfl, rfl, trivial, upd_same, fun h14 k14 y14 => ⟨rfl, ?_⟩⟩⟩
    have s14 : Same h13 h14 := same_keep na14 k14
    have x14 : ExAt h14 a14 (He.ga K "NoTable") [("name", .str name)] := y14
    clear y14 k14
    refine ⟨_, rfl, by show 1 ≤ 1000; decide, fun a15 na15 => ⟨a15, [.int at_], rfl, rfl, wA, upd_same, fun h15 k15 y15 => ⟨rfl, ?_⟩⟩⟩
    have s15 : Same h14 h15 := same_keep na15 k15
    have x15 : ExAt h15 a15 (He.ga K "BadChange") [("at", .int at_)] := y15
    clear y15 k15
    refine ⟨by show 0 ≤ 1000; decide, fun a16 na16 => ⟨a16, [], rfl, rfl, trivial, upd_same, fun h16 k16 y16 => ⟨rfl, ?_⟩⟩⟩
    have s16 : Same h15 h16 := same_keep na16 k16
    have x16 : ExAt h16 a16 (He.ga K "BadKinds") [] := y16
    clear y16 k16
    refine ⟨_, rfl, by show 1 ≤ 1000; decide, fun a17 na17 => ⟨a17, [.str name], rfl, rfl, wN, upd_same, fun h17 k17 y17 => ⟨rfl, ?_⟩⟩⟩
    have s17 : Same h16 h17 := same_keep na17 k17
    have x17 : ExAt h17 a17 (He.ga K "LayersFull") [("name", .str name)] := y17
    clear y17 k17
    refine ⟨_, rfl, by show 1 ≤ 1000; decide, fun a18 na18 => ⟨a18, [.int at_], rfl, rfl, trivial, upd_same, fun h18 k18 y18 => ⟨rfl, ?_⟩⟩⟩
    have s18 : Same h17 h18 := same_keep na18 k18
    have x18 : ExAt h18 a18 (He.ga K "BadNumber") [("number", .int at_)] := y18
    clear y18 k18
    refine ⟨by show 0 ≤ 1000; decide, fun a19 na19 => ⟨a19, [], rfl, rfl, trivial, upd_same, fun h19 k19 y19 => ⟨rfl, ?_⟩⟩⟩
    have s19 : Same h18 h19 := same_keep na19 k19
    have x19 : ExAt h19 a19 (He.ga K "NotBefore") [] := y19
    clear y19 k19
    refine ⟨_, rfl, _, rfl, by show 2 ≤ 1000; decide, fun a20 na20 => ⟨a20, [.str word, .int at_], rfl, rfl, trivial, upd_same, fun h20 k20 y20 => ⟨rfl, ?_⟩⟩⟩
    have s20 : Same h19 h20 := same_keep na20 k20
    have x20 : ExAt h20 a20 (He.ga K "BadQuestion") [("at", .int at_), ("what", .str word)] := y20
    clear y20 k20
    refine ⟨by show 0 ≤ 1000; decide, fun a21 na21 => ⟨a21, [], rfl, rfl, trivial, upd_same, fun h21 k21 y21 => ⟨rfl, ?_⟩⟩⟩
    have s21 : Same h20 h21 := same_keep na21 k21
    have x21 : ExAt h21 a21 (He.ga K "Again") [("what", .str "again")] := y21
    clear y21 k21
    refine ⟨by show 0 ≤ 1000; decide, fun a22 na22 => ⟨a22, [], rfl, rfl, trivial, upd_same, fun h22 k22 y22 => ⟨rfl, ?_⟩⟩⟩
    have s22 : Same h21 h22 := same_keep na22 k22
    have x22 : ExAt h22 a22 (He.ga K "Foreign") [("what", .str "foreign")] := y22
    clear y22 k22
    refine ⟨_, rfl, by show 1 ≤ 1000; decide, fun a23 na23 => ⟨a23, [.ref pg], rfl, rfl, trivial, upd_same, fun h23 k23 y23 => ⟨rfl, ?_⟩⟩⟩
    have s23 : Same h22 h23 := same_keep na23 k23
    have x23 : ExAt h23 a23 (He.ga K "NoPage") [("name", .ref pg)] := y23
    clear y23 k23
    refine ⟨_, rfl, by show 1 ≤ 1000; decide, fun a24 na24 => ⟨a24, [.str word], rfl, rfl, trivial, upd_same, fun h24 k24 y24 => ⟨rfl, ?_⟩⟩⟩
    have s24 : Same h23 h24 := same_keep na24 k24
    have x24 : ExAt h24 a24 (He.ga K "NoFactor") [("what", .str word)] := y24
    clear y24 k24
    refine ⟨by show 0 ≤ 1000; decide, fun a25 na25 => ⟨a25, [], rfl, rfl, trivial, upd_same, fun h25 k25 y25 => ⟨rfl, ?_⟩⟩⟩
    have s25 : Same h24 h25 := same_keep na25 k25
    have x25 : ExAt h25 a25 (He.ga K "NotUniform") [] := y25
    clear y25 k25
    refine ⟨by show 0 ≤ 1000; decide, fun a26 na26 => ⟨a26, [], rfl, rfl, trivial, upd_same, fun h26 k26 y26 => ⟨rfl, ?_⟩⟩⟩
    have s26 : Same h25 h26 := same_keep na26 k26
    have x26 : ExAt h26 a26 (He.ga K "NotDecided") [] := y26
    clear y26 k26
    refine ⟨by show 0 ≤ 1000; decide, fun a27 na27 => ⟨a27, [], rfl, rfl, trivial, upd_same, fun h27 k27 y27 => ⟨rfl, ?_⟩⟩⟩
    have s27 : Same h26 h27 := same_keep na27 k27
    have x27 : ExAt h27 a27 (He.ga K "Undetermined") [] := y27
    clear y27 k27
    refine ⟨_, rfl, _, rfl, by show 2 ≤ 1000; decide, fun a28 na28 => ⟨a28, [.int at_, .str word], rfl, rfl, trivial, upd_same, fun h28 k28 y28 => ⟨rfl, ?_⟩⟩⟩
    have s28 : Same h27 h28 := same_keep na28 k28
    have x28 : ExAt h28 a28 (He.ga K "BadPaper") [("what", .str word), ("line", .int at_)] := y28
    clear y28 k28
    refine ⟨by show 0 ≤ 1000; decide, fun a29 na29 => ⟨a29, [], rfl, rfl, trivial, upd_same, fun h29 k29 y29 => ⟨rfl, ?_⟩⟩⟩
    have s29 : Same h28 h29 := same_keep na29 k29
    have x29 : ExAt h29 a29 (He.ga K "NotDone") [] := y29
    clear y29 k29
    refine ⟨by show 0 ≤ 1000; decide, fun a30 na30 => ⟨a30, [], rfl, rfl, trivial, upd_same, fun h30 k30 y30 => ⟨rfl, ?_⟩⟩⟩
    have s30 : Same h29 h30 := same_keep na30 k30
    have x30 : ExAt h30 a30 (He.ga K "Unasked") [] := y30
    clear y30 k30
    refine ⟨_, rfl, by show 1 ≤ 1000; decide, fun a31 na31 => ⟨a31, [.int at_], rfl, rfl, trivial, upd_same, fun h31 k31 y31 => ⟨rfl, ?_⟩⟩⟩
    have s31 : Same h30 h31 := same_keep na31 k31
    have x31 : ExAt h31 a31 (He.ga K "TooMany") [("most", .int at_)] := y31
    clear y31 k31
    refine ⟨by show 0 ≤ 1000; decide, fun a32 na32 => ⟨a32, [], rfl, rfl, trivial, upd_same, fun h32 k32 y32 => ⟨rfl, ?_⟩⟩⟩
    have s32 : Same h31 h32 := same_keep na32 k32
    have x32 : ExAt h32 a32 (He.ga K "NotEnough") [] := y32
    clear y32 k32
    refine ⟨_, rfl, _, rfl, by show 2 ≤ 1000; decide, fun a33 na33 => ⟨a33, [.str name, .ref rw_], rfl, rfl, trivial, upd_same, fun h33 k33 y33 => ⟨rfl, ?_⟩⟩⟩
    have s33 : Same h32 h33 := same_keep na33 k33
    have x33 : ExAt h33 a33 (He.ga K "KnownRow") [("row", .ref rw_), ("name", .str name)] := y33
    clear y33 k33
    refine ⟨_, rfl, by show 1 ≤ 1000; decide, fun a34 na34 => ⟨a34, [.str word], rfl, rfl, trivial, upd_same, fun h34 k34 y34 => ⟨rfl, ?_⟩⟩⟩
    have s34 : Same h33 h34 := same_keep na34 k34
    have x34 : ExAt h34 a34 (He.ga K "BadFoe") [("what", .str word)] := y34
    clear y34 k34
    refine ⟨by show 0 ≤ 1000; decide, fun a35 na35 => ⟨a35, [], rfl, rfl, trivial, upd_same, fun h35 k35 y35 => ⟨rfl, ?_⟩⟩⟩
    have s35 : Same h34 h35 := same_keep na35 k35
    have x35 : ExAt h35 a35 (He.ga K "BadPolicy") [] := y35
    clear y35 k35
    refine ⟨_, rfl, by show 1 ≤ 1000; decide, fun a36 na36 => ⟨a36, [.int at_], rfl, rfl, wA, upd_same, fun h36 k36 y36 => ⟨rfl, ?_⟩⟩⟩
    have s36 : Same h35 h36 := same_keep na36 k36
    have x36 : ExAt h36 a36 (He.ga K "BadDead") [("at", .int at_)] := y36
    clear y36 k36
    refine ⟨_, rfl, by show 1 ≤ 1000; decide, fun a37 na37 => ⟨a37, [.str word], rfl, rfl, wW, upd_same, fun h37 k37 y37 => ⟨rfl, ?_⟩⟩⟩
    have s37 : Same h36 h37 := same_keep na37 k37
    have x37 : ExAt h37 a37 (He.ga K "NoSpread") [("what", .str word)] := y37
    clear y37 k37
    refine ⟨_, rfl, by show 1 ≤ 1000; decide, fun a38 na38 => ⟨a38, [.ref rw_], rfl, rfl, trivial, upd_same, fun h38 k38 y38 => ⟨rfl, ?_⟩⟩⟩
    have s38 : Same h37 h38 := same_keep na38 k38
    have x38 : ExAt h38 a38 (He.ga K "NotInDoubt") [("point", .ref rw_)] := y38
    clear y38 k38
    refine ⟨by show 0 ≤ 1000; decide, fun a39 na39 => ⟨a39, [], rfl, rfl, trivial, upd_same, fun h39 k39 y39 => ⟨rfl, ?_⟩⟩⟩
    have s39 : Same h38 h39 := same_keep na39 k39
    have x39 : ExAt h39 a39 (He.ga K "BadDeed") [] := y39
    clear y39 k39
    refine ⟨by show 0 ≤ 1000; decide, fun a40 na40 => ⟨a40, [], rfl, rfl, trivial, upd_same, fun h40 k40 y40 => ⟨rfl, ?_⟩⟩⟩
    have s40 : Same h39 h40 := same_keep na40 k40
    have x40 : ExAt h40 a40 (He.ga K "NotNewest") [] := y40
    clear y40 k40
    refine ⟨by show 0 ≤ 1000; decide, fun a41 na41 => ⟨a41, [], rfl, rfl, trivial, upd_same, fun h41 k41 y41 => ⟨rfl, ?_⟩⟩⟩
    have s41 : Same h40 h41 := same_keep na41 k41
    have x41 : ExAt h41 a41 (He.ga K "NothingCut") [] := y41
    clear y41 k41
    refine ⟨_, rfl, by show 1 ≤ 1000; decide, fun a42 na42 => ⟨a42, [.str name], rfl, rfl, wN, upd_same, fun h42 k42 y42 => ⟨rfl, ?_⟩⟩⟩
    have s42 : Same h41 h42 := same_keep na42 k42
    have x42 : ExAt h42 a42 (He.ga K "Unfit") [("name", .str name)] := y42
    clear y42 k42
    refine ⟨_, rfl, by show 1 ≤ 1000; decide, fun a43 na43 => ⟨a43, [.int at_], rfl, rfl, wA, upd_same, fun h43 k43 y43 => ⟨rfl, ?_⟩⟩⟩
    have s43 : Same h42 h43 := same_keep na43 k43
    have x43 : ExAt h43 a43 (He.ga K "NotKnown") [("at", .int at_)] := y43
    clear y43 k43
    refine ⟨_, rfl, by show 1 ≤ 1000; decide, fun a44 na44 => ⟨a44, [.int at_], rfl, rfl, wA, upd_same, fun h44 k44 y44 => ⟨rfl, ?_⟩⟩⟩
    have s44 : Same h43 h44 := same_keep na44 k44
    have x44 : ExAt h44 a44 (He.ga K "BadStory") [("line", .int at_)] := y44
    clear y44 k44
    refine ⟨by show 45 ≤ sizeLine; decide, fun L nL => ?_⟩
    obtain ⟨errs, herrs⟩ : ∃ e, e = [V.ref a0, V.ref a1, V.ref a2, V.ref a3, V.ref a4, V.ref a5, V.ref a6, V.ref a7, V.ref a8, V.ref a9, V.ref a10, V.ref a11, V.ref a12, V.ref a13, V.ref a14, V.ref a15, V.ref a16, V.ref a17, V.ref a18, V.ref a19, V.ref a20, V.ref a21, V.ref a22, V.ref a23, V.ref a24, V.ref a25, V.ref a26, V.ref a27, V.ref a28, V.ref a29, V.ref a30, V.ref a31, V.ref a32, V.ref a33, V.ref a34, V.ref a35, V.ref a36, V.ref a37, V.ref a38, V.ref a39, V.ref a40, V.ref a41, V.ref a42, V.ref a43, V.ref a44] := ⟨_, rfl⟩
    rw [← herrs]
    have sL := same_new (o := HO.lst errs) nL
    have hL : (upd h44 L (HO.lst errs)) L = some (.lst errs) := upd_same
    generalize upd h44 L (HO.lst errs) = HL at sL hL ⊢
    have t44 : Same h44 HL := sL
    have t43 : Same h43 HL := s44.trans t44
    have t42 : Same h42 HL := s43.trans t43
    have t41 : Same h41 HL := s42.trans t42
    have t40 : Same h40 HL := s41.trans t41
    have t39 : Same h39 HL := s40.trans t40
    have t38 : Same h38 HL := s39.trans t39
    have t37 : Same h37 HL := s38.trans t38
    have t36 : Same h36 HL := s37.trans t37
    have t35 : Same h35 HL := s36.trans t36
    have t34 : Same h34 HL := s35.trans t35
    have t33 : Same h33 HL := s34.trans t34
    have t32 : Same h32 HL := s33.trans t33
    have t31 : Same h31 HL := s32.trans t32
    have t30 : Same h30 HL := s31.trans t31
    have t29 : Same h29 HL := s30.trans t30
    have t28 : Same h28 HL := s29.trans t29
    have t27 : Same h27 HL := s28.trans t28
    have t26 : Same h26 HL := s27.trans t27
    have t25 : Same h25 HL := s26.trans t26
    have t24 : Same h24 HL := s25.trans t25
    have t23 : Same h23 HL := s24.trans t24
    have t22 : Same h22 HL := s23.trans t23
    have t21 : Same h21 HL := s22.trans t22
    have t20 : Same h20 HL := s21.trans t21
    have t19 : Same h19 HL := s20.trans t20
    have t18 : Same h18 HL := s19.trans t19
    have t17 : Same h17 HL := s18.trans t18
    have t16 : Same h16 HL := s17.trans t17
    have t15 : Same h15 HL := s16.trans t16
    have t14 : Same h14 HL := s15.trans t15
    have t13 : Same h13 HL := s14.trans t14
    have t12 : Same h12 HL := s13.trans t13
    have t11 : Same h11 HL := s12.trans t12
    have t10 : Same h10 HL := s11.trans t11
    have t9 : Same h9 HL := s10.trans t10
    have t8 : Same h8 HL := s9.trans t9
    have t7 : Same h7 HL := s8.trans t8
    have t6 : Same h6 HL := s7.trans t7
    have t5 : Same h5 HL := s6.trans t6
    have t4 : Same h4 HL := s5.trans t5
    have t3 : Same h3 HL := s4.trans t4
    have t2 : Same h2 HL := s3.trans t3
    have t1 : Same h1 HL := s2.trans t2
    have t0 : Same h0 HL := s1.trans t1
    have z0 := x0.same t0
    have z1 := x1.same t1
    have z2 := x2.same t2
    have z3 := x3.same t3
    have z4 := x4.same t4
    have z5 := x5.same t5
    have z6 := x6.same t6
    have z7 := x7.same t7
    have z8 := x8.same t8
    have z9 := x9.same t9
    have z10 := x10.same t10
    have z11 := x11.same t11
    have z12 := x12.same t12
    have z13 := x13.same t13
    have z14 := x14.same t14
    have z15 := x15.same t15
    have z16 := x16.same t16
    have z17 := x17.same t17
    have z18 := x18.same t18
    have z19 := x19.same t19
    have z20 := x20.same t20
    have z21 := x21.same t21
    have z22 := x22.same t22
    have z23 := x23.same t23
    have z24 := x24.same t24
    have z25 := x25.same t25
    have z26 := x26.same t26
    have z27 := x27.same t27
    have z28 := x28.same t28
    have z29 := x29.same t29
    have z30 := x30.same t30
    have z31 := x31.same t31
    have z32 := x32.same t32
    have z33 := x33.same t33
    have z34 := x34.same t34
    have z35 := x35.same t35
    have z36 := x36.same t36
    have z37 := x37.same t37
    have z38 := x38.same t38
    have z39 := x39.same t39
    have z40 := x40.same t40
    have z41 := x41.same t41
    have z42 := x42.same t42
    have z43 := x43.same t43
    have z44 := x44.same t44
    clear x1 s1 x2 s2 x3 s3 x4 s4 x5 s5 x6 s6 x7 s7 x8 s8 x9 s9 x10 s10 x11 s11 x12 s12 x13 s13 x14 s14 x15 s15 x16 s16 x17 s17 x18 s18 x19 s19 x20 s20 x21 s21 x22 s22 x23 s23 x24 s24 x25 s25 x26 s26 x27 s27 x28 s28 x29 s29 x30 s30 x31 s31 x32 s32 x33 s33 x34 s34 x35 s35 x36 s36 x37 s37 x38 s38 x39 s39 x40 s40 x41 s41 x42 s42 x43 s43 x44 s44 x0
    have hrowL := (s0.trans t0) _ _ hrow
    have hpgL := (s0.trans t0) _ _ hpg
    have elen : errs.length = 45 := by rw [herrs]; rfl
    have all : ∀ k, k < 45 → ∃ a fs, errs[k]? = some (.ref a) ∧ ExAt HL a (ga K k) fs := by
      intro k hk
      rw [herrs]
      by_cases e0 : k = 0
      · rw [e0]
        exact ⟨_, _, rfl, z0⟩
      by_cases e1 : k = 1
      · rw [e1]
        exact ⟨_, _, rfl, z1⟩
      by_cases e2 : k = 2
      · rw [e2]
        exact ⟨_, _, rfl, z2⟩
      by_cases e3 : k = 3
      · rw [e3]
        exact ⟨_, _, rfl, z3⟩
      by_cases e4 : k = 4
      · rw [e4]
        exact ⟨_, _, rfl, z4⟩
      by_cases e5 : k = 5
      · rw [e5]
        exact ⟨_, _, rfl, z5⟩
      by_cases e6 : k = 6
      · rw [e6]
        exact ⟨_, _, rfl, z6⟩
      by_cases e7 : k = 7
      · rw [e7]
        exact ⟨_, _, rfl, z7⟩
      by_cases e8 : k = 8
      · rw [e8]
        exact ⟨_, _, rfl, z8⟩
      by_cases e9 : k = 9
      · rw [e9]
        exact ⟨_, _, rfl, z9⟩
      by_cases e10 : k = 10
      · rw [e10]
        exact ⟨_, _, rfl, z10⟩
      by_cases e11 : k = 11
      · rw [e11]
        exact ⟨_, _, rfl, z11⟩
      by_cases e12 : k = 12
      · rw [e12]
        exact ⟨_, _, rfl, z12⟩
      by_cases e13 : k = 13
      · rw [e13]
        exact ⟨_, _, rfl, z13⟩
      by_cases e14 : k = 14
      · rw [e14]
        exact ⟨_, _, rfl, z14⟩
      by_cases e15 : k = 15
      · rw [e15]
        exact ⟨_, _, rfl, z15⟩
      by_cases e16 : k = 16
      · rw [e16]
        exact ⟨_, _, rfl, z16⟩
      by_cases e17 : k = 17
      · rw [e17]
        exact ⟨_, _, rfl, z17⟩
      by_cases e18 : k = 18
      · rw [e18]
        exact ⟨_, _, rfl, z18⟩
      by_cases e19 : k = 19
      · rw [e19]
        exact ⟨_, _, rfl, z19⟩
      by_cases e20 : k = 20
      · rw [e20]
        exact ⟨_, _, rfl, z20⟩
      by_cases e21 : k = 21
      · rw [e21]
        exact ⟨_, _, rfl, z21⟩
      by_cases e22 : k = 22
      · rw [e22]
        exact ⟨_, _, rfl, z22⟩
      by_cases e23 : k = 23
      · rw [e23]
        exact ⟨_, _, rfl, z23⟩
      by_cases e24 : k = 24
      · rw [e24]
        exact ⟨_, _, rfl, z24⟩
      by_cases e25 : k = 25
      · rw [e25]
        exact ⟨_, _, rfl, z25⟩
      by_cases e26 : k = 26
      · rw [e26]
        exact ⟨_, _, rfl, z26⟩
      by_cases e27 : k = 27
      · rw [e27]
        exact ⟨_, _, rfl, z27⟩
      by_cases e28 : k = 28
      · rw [e28]
        exact ⟨_, _, rfl, z28⟩
      by_cases e29 : k = 29
      · rw [e29]
        exact ⟨_, _, rfl, z29⟩
      by_cases e30 : k = 30
      · rw [e30]
        exact ⟨_, _, rfl, z30⟩
      by_cases e31 : k = 31
      · rw [e31]
        exact ⟨_, _, rfl, z31⟩
      by_cases e32 : k = 32
      · rw [e32]
        exact ⟨_, _, rfl, z32⟩
      by_cases e33 : k = 33
      · rw [e33]
        exact ⟨_, _, rfl, z33⟩
      by_cases e34 : k = 34
      · rw [e34]
        exact ⟨_, _, rfl, z34⟩
      by_cases e35 : k = 35
      · rw [e35]
        exact ⟨_, _, rfl, z35⟩
      by_cases e36 : k = 36
      · rw [e36]
        exact ⟨_, _, rfl, z36⟩
      by_cases e37 : k = 37
      · rw [e37]
        exact ⟨_, _, rfl, z37⟩
      by_cases e38 : k = 38
      · rw [e38]
        exact ⟨_, _, rfl, z38⟩
      by_cases e39 : k = 39
      · rw [e39]
        exact ⟨_, _, rfl, z39⟩
      by_cases e40 : k = 40
      · rw [e40]
        exact ⟨_, _, rfl, z40⟩
      by_cases e41 : k = 41
      · rw [e41]
        exact ⟨_, _, rfl, z41⟩
      by_cases e42 : k = 42
      · rw [e42]
        exact ⟨_, _, rfl, z42⟩
      by_cases e43 : k = 43
      · rw [e43]
        exact ⟨_, _, rfl, z43⟩
      by_cases e44 : k = 44
      · rw [e44]
        exact ⟨_, _, rfl, z44⟩
      omega
    refine ⟨_, rfl, L, _, rfl, .inl (SqL.of hL), (errs.length : Int), rfl, by omega, by omega, ?_⟩
    rw [Int.toNat_natCast, elen]
    have lt2 : ∀ (k : Nat), ((0 : Int) + (k : Int)) = (k : Int) := fun k => by omega
    refine for_range (lo := 0) (n := 45) (fun i σ H' => Same HL H' ∧ Sl a b word name at_ rw_ pg L σ) ⟨Same.refl _, _, _, _, _, _, rfl⟩ ?_ ?_
    · rintro k σ H7 hk ⟨sm, o2, o9, o10, o11, o12, rfl⟩
      obtain ⟨ak, fs, hkk, exk⟩ := all k hk
      have ex7 := exk.same sm
      have hL7 := sm _ _ hL
      have atk : atI errs ((0 : Int) + (k : Int)) = some (.ref ak) := by rw [lt2]; exact atI_nat hkk
      have XX := exAll T k hk
      obtain ⟨kb1, kb2⟩ := kitBB_ok T.one k hk
      refine ⟨_, rfl, _, rfl, L, _, _, _, rfl, rfl, SqL.of hL7, atk, ?_⟩
      refine ⟨_, rfl, ak, _, fs, _, _, _, rfl, ex7, XX, (fun _ z => z), kb1, _, rfl, iteF ?_⟩
      refine ⟨_, rfl, ak, _, fs, _, _, _, rfl, ex7, XX, (fun _ z => z), kb2, _, rfl, iteF ?_⟩
      refine ⟨_, rfl, ak, k, fs, rfl, hk, ex7, fun p np => ?_⟩
      have sp := same_new (o := HO.lst (bits k)) np
      have hp : (upd H7 p (HO.lst (bits k))) p = some (.lst (bits k)) := upd_same
      have hL8 := sp _ _ hL7
      have s8 := sm.trans sp
      generalize upd H7 p (HO.lst (bits k)) = H8 at sp hp hL8 s8 ⊢
      refine ⟨_, rfl, L, _, rfl, .inl (SqL.of hL8), (errs.length : Int), rfl, by omega, by omega, fun D nD => ?_⟩
      rw [Int.toNat_natCast, elen]
      refine lc_range (lo := 0) (n := 45) (fun j H' => Same H8 H' ∧ H' D = some (.lst ((if k < j then [(0 : Int) + (k : Int)] else []).map V.int))) ⟨same_new nD, upd_same⟩ ?_ ?_
      · rintro j H9 hj ⟨s9, hD⟩
        have atj : atI (bits k) ((0 : Int) + (j : Int)) = some (.bl (k == j)) := by
          rw [lt2]
          refine atI_nat ?_
          unfold bits
          rw [List.getElem?_map, List.getElem?_range hj]
          rfl
        refine ⟨rfl, _, rfl, _, rfl, p, _, _, _, rfl, rfl, SqL.of (s9 _ _ hp), atj, _, rfl, ?_⟩
        by_cases e : k = j
        · rw [show (k == j) = true from by rw [e, beq_self_eq_true]]
          refine iteT ⟨_, rfl, _, hD, ?_, fun x o h => ?_, ?_⟩
          · rw [List.length_map]
            split
            · exact small1000 (by show 1 ≤ 1000; decide)
            · exact small1000 (by show 0 ≤ 1000; decide)
          · rw [upd_ne (ne_of_none h nD)]
            exact s9 _ _ h
          · rw [upd_same, if_neg (show ¬ k < j by omega), if_pos (show k < j + 1 by omega), e]
            rfl
        · rw [show (k == j) = false from beq_eq_false_iff_ne.mpr e]
          refine iteF ⟨s9, ?_⟩
          rw [hD]
          by_cases h1 : k < j
          · rw [if_pos h1, if_pos (show k < j + 1 by omega)]
          · rw [if_neg h1, if_neg (show ¬ k < j + 1 by omega)]
      · rintro H9 ⟨s9, hD⟩
        rw [if_pos hk] at hD
        refine ⟨_, rfl, by show 1 ≤ sizeLine; decide, fun q nq => ?_⟩
        have sq := same_new (o := HO.lst [V.int ((0 : Int) + (k : Int))]) nq
        refine ⟨_, _, dpl_ints (ns := [(0 : Int) + (k : Int)]) (SqL.of (sq _ _ hD)), dpl_ints (ns := [(0 : Int) + (k : Int)]) (SqL.of upd_same), shapedL_ints _, shapedL_ints _, _, rfl, ?_⟩
        rw [eqvL_ints, decide_eq_true rfl]
        exact iteF ⟨s8.trans (s9.trans sq), _, _, _, _, _, rfl⟩
    rintro σ HE ⟨sE, o2, o9, o10, o11, o12, rfl⟩
    have hL' := sE _ _ hL
    have hrow' := sE _ _ hrowL
    have hpg' := sE _ _ hpgL
    have dpage : Dp K HE (.ref pg) (.tuple [.str name, .int d1, .int d2, .tuple (rs.map PyData.int)]) := .tup (SqT.of hpg') (.cons (.str name) (.cons (.int d1) (.cons (.int d2) (.cons (dp_ints (SqT.of hrow')) .nil))))
    have spage : SeqAt.shaped (.tuple [.str name, .int d1, .int d2, .tuple (rs.map PyData.int)]) = true := by
      show ((PyData.canLay0 (.str name) && (true && (true && (PyData.canLayAll0 (rs.map PyData.int) && true)))) && decide (max 0 (max 0 (max 0 (max (PyData.depthAll (rs.map PyData.int) + 1) 0))) + 1 ≤ 64)) = true
      rw [okN, lay_ints, depth_ints]
      rfl
    have epage : PyData.eqv (.tuple [.str name, .int d1, .int d2, .tuple (rs.map PyData.int)]) (.tuple [.str name, .int d1, .int d2, .tuple (rs.map PyData.int)]) = true := by
      show ((name == name) && ((d1 == d1) && ((d2 == d2) && (PyData.eqv (.tuple (rs.map PyData.int)) (.tuple (rs.map PyData.int)) && true)))) = true
      rw [beq_self_eq_true, beq_self_eq_true, beq_self_eq_true, eqv_ints, decide_eq_true rfl]
      rfl
    have at1 : atI errs 1 = some (.ref a1) := by rw [herrs]; rfl
    have at2 : atI errs 2 = some (.ref a2) := by rw [herrs]; rfl
    have at4 : atI errs 4 = some (.ref a4) := by rw [herrs]; rfl
    have at6 : atI errs 6 = some (.ref a6) := by rw [herrs]; rfl
    have at7 : atI errs 7 = some (.ref a7) := by rw [herrs]; rfl
    have at8 : atI errs 8 = some (.ref a8) := by rw [herrs]; rfl
    have at9 : atI errs 9 = some (.ref a9) := by rw [herrs]; rfl
    have at10 : atI errs 10 = some (.ref a10) := by rw [herrs]; rfl
    have at11 : atI errs 11 = some (.ref a11) := by rw [herrs]; rfl
    have at12 : atI errs 12 = some (.ref a12) := by rw [herrs]; rfl
    have at13 : atI errs 13 = some (.ref a13) := by rw [herrs]; rfl
    have at14 : atI errs 14 = some (.ref a14) := by rw [herrs]; rfl
    have at15 : atI errs 15 = some (.ref a15) := by rw [herrs]; rfl
    have at17 : atI errs 17 = some (.ref a17) := by rw [herrs]; rfl
    have at18 : atI errs 18 = some (.ref a18) := by rw [herrs]; rfl
    have at20 : atI errs 20 = some (.ref a20) := by rw [herrs]; rfl
    have at23 : atI errs 23 = some (.ref a23) := by rw [herrs]; rfl
    have at24 : atI errs 24 = some (.ref a24) := by rw [herrs]; rfl
    have at28 : atI errs 28 = some (.ref a28) := by rw [herrs]; rfl
    have at31 : atI errs 31 = some (.ref a31) := by rw [herrs]; rfl
    have at33 : atI errs 33 = some (.ref a33) := by rw [herrs]; rfl
    have at34 : atI errs 34 = some (.ref a34) := by rw [herrs]; rfl
    have at36 : atI errs 36 = some (.ref a36) := by rw [herrs]; rfl
    have at37 : atI errs 37 = some (.ref a37) := by rw [herrs]; rfl
    have at38 : atI errs 38 = some (.ref a38) := by rw [herrs]; rfl
    have at42 : atI errs 42 = some (.ref a42) := by rw [herrs]; rfl
    have at43 : atI errs 43 = some (.ref a43) := by rw [herrs]; rfl
    have at44 : atI errs 44 = some (.ref a44) := by rw [herrs]; rfl
    refine ⟨_, rfl, L, errs, 1, .ref a1, rfl, rfl, SqL.of hL', at1, a1, _, _, _, rfl, xfC_of T.x_BadRow, T.noat_BadRow_row, z1.same sE, by rw [lookup_put, if_pos rfl], _, rfl, _, _, dp_ints (SqT.of hrow'), dp_ints (SqT.of hrow'), shaped_ints _, shaped_ints _, ?_⟩
    rw [eqv_ints, decide_eq_true rfl]
    refine ⟨_, rfl, L, errs, 2, .ref a2, rfl, rfl, SqL.of hL', at2, a2, _, _, _, rfl, xfC_of T.x_BadBox, T.noat_BadBox_what, z2.same sE, by rw [lookup_put, if_neg (by decide +kernel), lookup_put, if_pos rfl], _, rfl, rfl, ?_⟩
    rw [decide_eq_true rfl]
    refine ⟨_, rfl, L, errs, 2, .ref a2, rfl, rfl, SqL.of hL', at2, a2, _, _, _, rfl, xfC_of T.x_BadBox, T.noat_BadBox_at, z2.same sE, by rw [lookup_put, if_pos rfl], _, rfl, rfl, ?_⟩
    rw [decide_eq_true rfl]
    refine ⟨_, rfl, L, errs, 4, .ref a4, rfl, rfl, SqL.of hL', at4, a4, _, _, _, rfl, xfC_of T.x_BadColumn, T.noat_BadColumn_column, z4.same sE, by rw [lookup_put, if_pos rfl], _, rfl, rfl, ?_⟩
    rw [decide_eq_true rfl]
    refine ⟨_, rfl, L, errs, 6, .ref a6, rfl, rfl, SqL.of hL', at6, a6, _, _, _, rfl, xfC_of T.x_BadText, T.noat_BadText_place, z6.same sE, by rw [lookup_put, if_pos rfl], _, rfl, rfl, ?_⟩
    rw [decide_eq_true rfl]
    refine ⟨_, rfl, L, errs, 7, .ref a7, rfl, rfl, SqL.of hL', at7, a7, _, _, _, rfl, xfC_of T.x_BadPage, T.noat_BadPage_what, z7.same sE, by rw [lookup_put, if_pos rfl], _, rfl, rfl, ?_⟩
    rw [decide_eq_true rfl]
    refine ⟨_, rfl, L, errs, 8, .ref a8, rfl, rfl, SqL.of hL', at8, a8, _, _, _, rfl, xfC_of T.x_BadIndex, T.noat_BadIndex_what, z8.same sE, by rw [lookup_put, if_pos rfl], _, rfl, rfl, ?_⟩
    rw [decide_eq_true rfl]
    refine ⟨_, rfl, L, errs, 9, .ref a9, rfl, rfl, SqL.of hL', at9, a9, _, _, _, rfl, xfC_of T.x_BadLayer, T.noat_BadLayer_what, z9.same sE, by rw [lookup_put, if_neg (by decide +kernel), lookup_put, if_pos rfl], _, rfl, rfl, ?_⟩
    rw [decide_eq_true rfl]
    refine ⟨_, rfl, L, errs, 9, .ref a9, rfl, rfl, SqL.of hL', at9, a9, _, _, _, rfl, xfC_of T.x_BadLayer, T.noat_BadLayer_at, z9.same sE, by rw [lookup_put, if_pos rfl], _, rfl, rfl, ?_⟩
    rw [decide_eq_true rfl]
    refine ⟨_, rfl, L, errs, 10, .ref a10, rfl, rfl, SqL.of hL', at10, a10, _, _, _, rfl, xfC_of T.x_NoIndex, T.noat_NoIndex_index, z10.same sE, by rw [lookup_put, if_pos rfl], _, rfl, rfl, ?_⟩
    rw [decide_eq_true rfl]
    refine ⟨_, rfl, L, errs, 11, .ref a11, rfl, rfl, SqL.of hL', at11, a11, _, _, _, rfl, xfC_of T.x_BadTable, T.noat_BadTable_what, z11.same sE, by rw [lookup_put, if_neg (by decide +kernel), lookup_put, if_pos rfl], _, rfl, rfl, ?_⟩
    rw [decide_eq_true rfl]
    refine ⟨_, rfl, L, errs, 11, .ref a11, rfl, rfl, SqL.of hL', at11, a11, _, _, _, rfl, xfC_of T.x_BadTable, T.noat_BadTable_at, z11.same sE, by rw [lookup_put, if_pos rfl], _, rfl, rfl, ?_⟩
    rw [decide_eq_true rfl]
    refine ⟨_, rfl, L, errs, 12, .ref a12, rfl, rfl, SqL.of hL', at12, a12, _, _, _, rfl, xfC_of T.x_NoLayer, T.noat_NoLayer_layer, z12.same sE, by rw [lookup_put, if_pos rfl], _, rfl, rfl, ?_⟩
    rw [decide_eq_true rfl]
    refine ⟨_, rfl, L, errs, 13, .ref a13, rfl, rfl, SqL.of hL', at13, a13, _, _, _, rfl, xfC_of T.x_BadStore, T.noat_BadStore_what, z13.same sE, by rw [lookup_put, if_neg (by decide +kernel), lookup_put, if_pos rfl], _, rfl, rfl, ?_⟩
    rw [decide_eq_true rfl]
    refine ⟨_, rfl, L, errs, 13, .ref a13, rfl, rfl, SqL.of hL', at13, a13, _, _, _, rfl, xfC_of T.x_BadStore, T.noat_BadStore_at, z13.same sE, by rw [lookup_put, if_pos rfl], _, rfl, rfl, ?_⟩
    rw [decide_eq_true rfl]
    refine ⟨_, rfl, L, errs, 14, .ref a14, rfl, rfl, SqL.of hL', at14, a14, _, _, _, rfl, xfC_of T.x_NoTable, T.noat_NoTable_name, z14.same sE, by rw [lookup_put, if_pos rfl], _, rfl, rfl, ?_⟩
    rw [decide_eq_true rfl]
    refine ⟨_, rfl, L, errs, 15, .ref a15, rfl, rfl, SqL.of hL', at15, a15, _, _, _, rfl, xfC_of T.x_BadChange, T.noat_BadChange_at, z15.same sE, by rw [lookup_put, if_pos rfl], _, rfl, rfl, ?_⟩
    rw [decide_eq_true rfl]
    refine ⟨_, rfl, L, errs, 17, .ref a17, rfl, rfl, SqL.of hL', at17, a17, _, _, _, rfl, xfC_of T.x_LayersFull, T.noat_LayersFull_name, z17.same sE, by rw [lookup_put, if_pos rfl], _, rfl, rfl, ?_⟩
    rw [decide_eq_true rfl]
    refine ⟨_, rfl, L, errs, 18, .ref a18, rfl, rfl, SqL.of hL', at18, a18, _, _, _, rfl, xfC_of T.x_BadNumber, T.noat_BadNumber_number, z18.same sE, by rw [lookup_put, if_pos rfl], _, rfl, rfl, ?_⟩
    rw [decide_eq_true rfl]
    refine ⟨_, rfl, L, errs, 20, .ref a20, rfl, rfl, SqL.of hL', at20, a20, _, _, _, rfl, xfC_of T.x_BadQuestion, T.noat_BadQuestion_what, z20.same sE, by rw [lookup_put, if_neg (by decide +kernel), lookup_put, if_pos rfl], _, rfl, rfl, ?_⟩
    rw [decide_eq_true rfl]
    refine ⟨_, rfl, L, errs, 20, .ref a20, rfl, rfl, SqL.of hL', at20, a20, _, _, _, rfl, xfC_of T.x_BadQuestion, T.noat_BadQuestion_at, z20.same sE, by rw [lookup_put, if_pos rfl], _, rfl, rfl, ?_⟩
    rw [decide_eq_true rfl]
    refine ⟨_, rfl, L, errs, 23, .ref a23, rfl, rfl, SqL.of hL', at23, a23, _, _, _, rfl, xfC_of T.x_NoPage, T.noat_NoPage_name, z23.same sE, by rw [lookup_put, if_pos rfl], _, rfl, _, _, dpage, dpage, spage, spage, ?_⟩
    rw [epage]
    refine ⟨_, rfl, L, errs, 24, .ref a24, rfl, rfl, SqL.of hL', at24, a24, _, _, _, rfl, xfC_of T.x_NoFactor, T.noat_NoFactor_what, z24.same sE, by rw [lookup_put, if_pos rfl], _, rfl, rfl, ?_⟩
    rw [decide_eq_true rfl]
    refine ⟨_, rfl, L, errs, 28, .ref a28, rfl, rfl, SqL.of hL', at28, a28, _, _, _, rfl, xfC_of T.x_BadPaper, T.noat_BadPaper_line, z28.same sE, by rw [lookup_put, if_neg (by decide +kernel), lookup_put, if_pos rfl], _, rfl, rfl, ?_⟩
    rw [decide_eq_true rfl]
    refine ⟨_, rfl, L, errs, 28, .ref a28, rfl, rfl, SqL.of hL', at28, a28, _, _, _, rfl, xfC_of T.x_BadPaper, T.noat_BadPaper_what, z28.same sE, by rw [lookup_put, if_pos rfl], _, rfl, rfl, ?_⟩
    rw [decide_eq_true rfl]
    refine ⟨_, rfl, L, errs, 31, .ref a31, rfl, rfl, SqL.of hL', at31, a31, _, _, _, rfl, xfC_of T.x_TooMany, T.noat_TooMany_most, z31.same sE, by rw [lookup_put, if_pos rfl], _, rfl, rfl, ?_⟩
    rw [decide_eq_true rfl]
    refine ⟨_, rfl, L, errs, 33, .ref a33, rfl, rfl, SqL.of hL', at33, a33, _, _, _, rfl, xfC_of T.x_KnownRow, T.noat_KnownRow_name, z33.same sE, by rw [lookup_put, if_neg (by decide +kernel), lookup_put, if_pos rfl], _, rfl, rfl, ?_⟩
    rw [decide_eq_true rfl]
    refine ⟨_, rfl, L, errs, 33, .ref a33, rfl, rfl, SqL.of hL', at33, a33, _, _, _, rfl, xfC_of T.x_KnownRow, T.noat_KnownRow_row, z33.same sE, by rw [lookup_put, if_pos rfl], _, rfl, _, _, dp_ints (SqT.of hrow'), dp_ints (SqT.of hrow'), shaped_ints _, shaped_ints _, ?_⟩
    rw [eqv_ints, decide_eq_true rfl]
    refine ⟨_, rfl, L, errs, 34, .ref a34, rfl, rfl, SqL.of hL', at34, a34, _, _, _, rfl, xfC_of T.x_BadFoe, T.noat_BadFoe_what, z34.same sE, by rw [lookup_put, if_pos rfl], _, rfl, rfl, ?_⟩
    rw [decide_eq_true rfl]
    refine ⟨_, rfl, L, errs, 36, .ref a36, rfl, rfl, SqL.of hL', at36, a36, _, _, _, rfl, xfC_of T.x_BadDead, T.noat_BadDead_at, z36.same sE, by rw [lookup_put, if_pos rfl], _, rfl, rfl, ?_⟩
    rw [decide_eq_true rfl]
    refine ⟨_, rfl, L, errs, 37, .ref a37, rfl, rfl, SqL.of hL', at37, a37, _, _, _, rfl, xfC_of T.x_NoSpread, T.noat_NoSpread_what, z37.same sE, by rw [lookup_put, if_pos rfl], _, rfl, rfl, ?_⟩
    rw [decide_eq_true rfl]
    refine ⟨_, rfl, L, errs, 38, .ref a38, rfl, rfl, SqL.of hL', at38, a38, _, _, _, rfl, xfC_of T.x_NotInDoubt, T.noat_NotInDoubt_point, z38.same sE, by rw [lookup_put, if_pos rfl], _, rfl, _, _, dp_ints (SqT.of hrow'), dp_ints (SqT.of hrow'), shaped_ints _, shaped_ints _, ?_⟩
    rw [eqv_ints, decide_eq_true rfl]
    refine ⟨_, rfl, L, errs, 42, .ref a42, rfl, rfl, SqL.of hL', at42, a42, _, _, _, rfl, xfC_of T.x_Unfit, T.noat_Unfit_name, z42.same sE, by rw [lookup_put, if_pos rfl], _, rfl, rfl, ?_⟩
    rw [decide_eq_true rfl]
    refine ⟨_, rfl, L, errs, 43, .ref a43, rfl, rfl, SqL.of hL', at43, a43, _, _, _, rfl, xfC_of T.x_NotKnown, T.noat_NotKnown_at, z43.same sE, by rw [lookup_put, if_pos rfl], _, rfl, rfl, ?_⟩
    rw [decide_eq_true rfl]
    refine ⟨_, rfl, L, errs, 44, .ref a44, rfl, rfl, SqL.of hL', at44, a44, _, _, _, rfl, xfC_of T.x_BadStory, T.noat_BadStory_line, z44.same sE, by rw [lookup_put, if_pos rfl], _, rfl, rfl, ?_⟩
    rw [decide_eq_true rfl]
    refine ⟨by show 35 ≤ sizeLine; decide, fun R nR => ?_⟩
    exact ⟨_, rfl, R, [true, true, true, true, true, true, true, true, true, true, true, true, true, true, true, true, true, true, true, true, true, true, true, true, true, true, true, true, true, true, true, true, true, true, true], rfl, SqL.of upd_same, kQ _⟩
end
end K99

set_option maxRecDepth 100000
set_option maxHeartbeats 4000000
namespace K99
open PySem PySem.Spec PyProof.Rows L2 Q RZ
theorem ok_law {P : Program} {w : World} {K : PySem.W.Frag} {mg : Str → Option Value} {base : Heap} (T : Tx K mg) : ∃ fd, FnG P w K mg base CX0 4 (He.ga K "law") fd ["script"] (spLaw K) ∧ FnP K "law" "law" s_law [] (He.ga K "law") fd := by
  obtain ⟨fd, G, F⟩ := ok_law0 (P := P) (w := w) (base := base) T
  exact ⟨fd, FnG.of G, F⟩
theorem ends {P : Program} {w : World} {K : PySem.W.Frag} {h : Heap} {mg : Str → Option Value} {f : Addr} (X : K.In h) (G : h.Ns mainGlobals mg) (hf : mg ("law" : Str) = some (.ref f)) (c : SaysF fb fn K) :
    ∃ fd : FuncData, (∀ (s : Shared) (v : Value), BindsTo s fd ⟨[v], []⟩ [("script", v)]) ∧ ∀ base : Heap, K.In base → base.Ns mainGlobals mg → FnG P w K mg base CX0 4 f fd ["script"] (spLaw K) := by
  have T := tx_of X G c
  cases hf.symm.trans T.g_law
  obtain ⟨fd, F⟩ := T.d_law
  refine ⟨fd, fun s v => F.bindsA (ps := ["script"]) (fun _ _ _ _ _ _ us hl => match us, hl with | [_], _ => rfl) s [v] rfl, fun base _ _ => ?_⟩
  obtain ⟨fd', law, F'⟩ := ok_law (P := P) (w := w) (base := base) T
  obtain ⟨_, _, _, _, _, _, _, _, _, _, _, e1, _⟩ := F.ex
  obtain ⟨_, _, _, _, _, _, _, _, _, _, _, e2, _⟩ := F'.ex
  have e := e1.symm.trans e2
  obtain rfl : fd = fd' := by
    injection e with e
    injection e with _ _ e _
    injection e
  exact law

end K99
open PySem PySem.W PySem.Calls PyProof.Rows
set_option maxRecDepth 100000 in
set_option maxHeartbeats 0 in
theorem PySem.Challenge.cw_fewfetches_k99_errors_stand_apart_holds : PySem.Challenge.rw_fewfetches_k99_errors_stand_apart.Holds := by
  w_on; o_law
  refine HandSHeadRun.head_any (r := OpenLaw.row PySem.Challenge.rw_fewfetches_k99_errors_stand_apart) (q := view (OpenLaw.row PySem.Challenge.rw_fewfetches_k99_errors_stand_apart).prog [51]) (H := K99.hk) (ob := K99.ob) (M := 20000) (loose := [("FetchError" : PySem.Str), ("BadWidths" : PySem.Str), ("BadRow" : PySem.Str), ("BadBox" : PySem.Str), ("UnlikeBoxes" : PySem.Str), ("BadColumn" : PySem.Str), ("BadData" : PySem.Str), ("BadText" : PySem.Str), ("BadPage" : PySem.Str), ("BadIndex" : PySem.Str), ("BadLayer" : PySem.Str), ("NoIndex" : PySem.Str), ("BadTable" : PySem.Str), ("NoLayer" : PySem.Str), ("BadStore" : PySem.Str), ("NoTable" : PySem.Str), ("BadChange" : PySem.Str), ("BadKinds" : PySem.Str), ("LayersFull" : PySem.Str), ("BadNumber" : PySem.Str), ("NotBefore" : PySem.Str), ("BadQuestion" : PySem.Str), ("Again" : PySem.Str), ("Foreign" : PySem.Str), ("NoPage" : PySem.Str), ("NoFactor" : PySem.Str), ("NotUniform" : PySem.Str), ("NotDecided" : PySem.Str), ("Undetermined" : PySem.Str), ("BadPaper" : PySem.Str), ("NotDone" : PySem.Str), ("Unasked" : PySem.Str), ("TooMany" : PySem.Str), ("NotEnough" : PySem.Str), ("KnownRow" : PySem.Str), ("BadFoe" : PySem.Str), ("BadPolicy" : PySem.Str), ("BadDead" : PySem.Str), ("NoSpread" : PySem.Str), ("NotInDoubt" : PySem.Str), ("BadDeed" : PySem.Str), ("NotNewest" : PySem.Str), ("NothingCut" : PySem.Str), ("Unfit" : PySem.Str), ("NotKnown" : PySem.Str), ("BadStory" : PySem.Str), ("_law_bag" : PySem.Str), ("_law_draw" : PySem.Str), ("_law_classes" : PySem.Str)]) (d := HandSHeadRun.topDef (OpenLaw.row PySem.Challenge.rw_fewfetches_k99_errors_stand_apart).prog 51) (kwd := []) K99.ob_eq
    (by kernel_rfl) (fun s => by kernel_rfl) K99.run (by kernel_rfl) (by kernel_rfl) (by kernel_rfl) (by rfl) (by first | assumption | decide +kernel) (by decide +kernel) ⟨rfl, rfl, rfl, rfl, rfl, by decide +kernel⟩ ?hw ?hc
  case hw => w_witness2
  case hc =>
    refine Q.walk_ofG (l := PySem.Challenge.rw_fewfetches_k99_errors_stand_apart) (n := 63) (k := 4) (x := "script") (CX := L2.CX0) rfl (by decide) (by kernel_rfl) ⟨rfl, by decide, by decide⟩ ?F (fun _ _ _ _ z => z)
    intro w mg fa h Y G hmg0
    obtain ⟨K, KX, c⟩ := Y
    have hmg : mg ("law" : PySem.Str) = some (.ref fa) := by
      have e : (HandSHeadRun.topDef (OpenLaw.row PySem.Challenge.rw_fewfetches_k99_errors_stand_apart).prog 51).name = ("law" : PySem.Str) := by kernel_rfl
      rw [← e]
      exact hmg0
    obtain ⟨fd, hb, hF⟩ := K99.ends (P := (PySem.Challenge.rw_fewfetches_k99_errors_stand_apart).prog) (w := w) KX G hmg c
    exact ⟨K, fd, K99.spLaw K, KX, hb, fun H a ns hl _ hS => ⟨a, ns, rfl, hS, fun _ => rfl⟩, hF⟩
#print axioms PySem.Challenge.cw_fewfetches_k99_errors_stand_apart_holds


