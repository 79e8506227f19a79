import PyProof.Rows.All
import Wide.All
import OpenK.AllK
import Wide.FinOn
import KE.KStateDown
import Lean
import PyProof.ReprRoads
import KE.KExcIs
import HandS.Base
import HandS.Call
import HandS.List
import HandS.Comp
import HandS.Ends
import HandS.Exc
import HandS.ExcOwn
import HandS.ExcInit
import HandS.ExcField
import HandS.ExcIs
import HandS.TryOnly
import HandS.Dict
import HandS.Iter
import HandS.Text
import HandS.More
import HandS.Words
import HandS.WordsList
import HandS.WordsDict
import HandS.WordsExc
import HandS.Defaults
import HandS.IsInst
import HandS.Wide
import HandS.Zip
import HandS.Conv
import HandS.Codes
import HandS.TupAny
import HandS.DeepEq
import HandS.Head0
import HandS.Head1
import HandS.Head2
import HandS.HeadEnd
import HandS.HeadHook1
import HandS.HeadHook2
import HandS.HeadNt
import KE.GoesMore
import KE.GoesEnum
import HandS.Rev
import HandS.Walk
import PyProof.CallFns
import PySem.Challenge.RW_fewfetches_k02_rows_by_their_numbers
import HandS.TupLe
set_option Elab.async false
set_option linter.all false
set_option maxRecDepth 100000
set_option maxHeartbeats 4000000
/-! What all our proofs share: how a caller takes a def, heaps, an exception's isinstance, repr of data. -/
namespace Q
open PySem PySem.Spec PyProof.Rows L2
/-! ### a def as its callers take it -/
structure Cal (P : Program) (w : World) (K : PySem.W.Frag) (mg : Str → Option Value) (base : Heap) (CX : CXT) (k : Nat) (x : Str) (ps : List Str) (dvs : List V) (sp : Sp) : Prop where
  ex : ∃ (f : Addr) (fd : FuncData) (ds : List Value), FnOk P w K mg base CX k f fd ps sp ∧ mg x = some (.ref f) ∧ PySem.W.keepIn K (.ref f) = true ∧ Binds K fd ps ds ∧ Vals dvs ds
section
variable {X : Cx} {CX : CXT} {k : Nat} {ps : List Str} {sp : Sp} {dvs : List V} {E : XK} {x : Str} {p pos : Pos} {e : Expr} {es : List Expr} {t : TA}
theorem pe_cal (C : Cal X.prog X.w X.K X.mg X.base CX k x ps dvs sp) (hr : Room k X.A) (hx : Passes CX X E) (ha : PA X (e :: es) t) (hg : Gl X x := by rfl) (hdb : (x == ("__debug__" : Str)) = false := by decide)
    (he : starEach (e :: es) X.env = (false, eval e X.env) :: starEach es X.env := by rfl) (hpl : (backTo pos (starEach es X.env)).any (·.1) = false := by rfl) :
    PE X (.Call (.Name x p) (e :: es) [] pos) (tCall sp dvs E t) := by
  obtain ⟨f, fd, ds, G, g, kp, b, v⟩ := C.ex
  exact pe_call G hr hg g kp b v hx ha hdb he hpl
theorem pe_cal0 (C : Cal X.prog X.w X.K X.mg X.base CX k x ps dvs sp) (hr : Room k X.A) (hx : Passes CX X E) (hg : Gl X x := by rfl) (hdb : (x == ("__debug__" : Str)) = false := by decide) :
    PE X (.Call (.Name x p) [] [] pos) (tCall sp dvs E tNil) := by
  obtain ⟨f, fd, ds, G, g, kp, b, v⟩ := C.ex
  exact pe_call0 G hr hg g kp b v hx hdb
end
section
variable {X : Cx} {CX : CXT} {k : Nat} {ps : List Str} {sp : Sp} {E : L2.St → XK} {x : Str} {p pos : Pos} {e : Expr} {es : List Expr} {t : TA}
theorem pe_calS (C : Cal X.prog X.w X.K X.mg X.base CX k x ps [] sp) (hr : Room k X.A) (hx : ∀ σ, PassesAt CX X σ (E σ)) (ha : PA X (e :: es) t) (hg : Gl X x := by rfl) (hdb : (x == ("__debug__" : Str)) = false := by decide)
    (he : starEach (e :: es) X.env = (false, eval e X.env) :: starEach es X.env := by rfl) (hpl : (backTo pos (starEach es X.env)).any (·.1) = false := by rfl) :
    PE X (.Call (.Name x p) (e :: es) [] pos) (tCallS sp E t) := by
  obtain ⟨f, fd, ds, G, g, kp, b, v⟩ := C.ex
  cases v
  exact pe_callS G hr hg g kp b hx ha hdb he hpl
end
/-! ### an instance made by an __init__ that may raise, in a try's body -/
section
variable {X : Cx} {CX : CXT} {k : Nat} {f C : Addr} {fd : FuncData} {ps : List Str} {sp : Sp} {E : L2.St → XK} {x : Str} {p pos : Pos} {e : Expr} {es : List Expr} {t : TA}
theorem run_newS {pins : List (Addr × Obj)} {σ : L2.St} {H : Hp} {s : Shared} {Q : VK} {us : List Value} {vs : List V} (M : Mk X.K C f) (F : FnOk X.prog X.w X.K X.mg X.base CX k f fd ps sp) (hr : Room (k + 1) X.A) (hb : Binds X.K fd ps [])
    (hx : PassesAt CX X σ (E σ)) (I : Inv X pins σ H s) (r : Vals vs us)
    (h : ∀ y dy, H y = none → H dy = none → dy ≠ y → sp (.ref y :: vs) (upd (upd H dy (.own y)) y (.ins C dy [])) (fun v H2 => v = .non ∧ Q (.ref y) H2) (E σ)) :
    wpAny (model X.prog X.w) X.A (call (.ref C) us) (EP X pins σ Q) X.xe s := by
  have n1 : H (s.heap.objs.size + 1) = none := I.hok.fresh (Nat.le_succ _)
  have n0 : H s.heap.objs.size = none := I.hok.fresh (Nat.le_refl _)
  have todo := h _ _ n1 n0 (Nat.ne_of_lt (Nat.lt_succ_self _))
  have J := Inv.made (C := C) I
  have rr : Vals (V.ref (s.heap.objs.size + 1) :: vs) (Value.ref (s.heap.objs.size + 1) :: us) := .cons rfl r
  have ln : (Value.ref (s.heap.objs.size + 1) :: us).length = ps.length := by
    have e1 := rr.length
    have e2 := F.len _ _ _ _ todo
    omega
  have bb := hb _ (Value.ref (s.heap.objs.size + 1) :: us) J.kIn (by rw [List.append_nil]; exact ln)
  rw [List.append_nil] at bb
  refine wpAny_call (make_map (f := f) I.kIn M.makes M.init (beq_iff_eq.mp M.fn) (codeAny_mono
    (F.run _ X.stack _ _ ⟨Value.ref (s.heap.objs.size + 1) :: us, []⟩ _ _ _ (E σ) (hr.make C us []) (J.env0.make C us []) bb rr todo) fun r s' z => ?_))
  cases r with
  | error er => exact hx pins _ _ er s' J z
  | ok fl =>
    cases fl with
    | ret u =>
      obtain ⟨v, H', I3, rv, ev, q3⟩ := J.after z
      subst ev
      exact ⟨rv, V.ref (s.heap.objs.size + 1), H', I3, rfl, q3⟩
    | next => exact z.elim
    | brk => exact z.elim
    | cont => exact z.elim
def tNewS (C : Addr) (sp : Sp) (E : L2.St → XK) (t : TA) : TE := fun σ H Q => t σ H fun vs H1 => ∀ y dy, H1 y = none → H1 dy = none → dy ≠ y →
  sp (.ref y :: vs) (upd (upd H1 dy (.own y)) y (.ins C dy [])) (fun v H2 => v = .non ∧ Q (.ref y) H2) (E σ)
theorem pe_newS (M : Mk X.K C f) (F : FnOk X.prog X.w X.K X.mg X.base CX k f fd ps sp) (hr : Room (k + 1) X.A) (hm : X.mg x = some (.ref C)) (hb : Binds X.K fd ps []) (hx : ∀ σ, PassesAt CX X σ (E σ))
    (ha : PA X (e :: es) t) (hg : Gl X x := by rfl) (hdb : (x == ("__debug__" : Str)) = false := by decide) (he : starEach (e :: es) X.env = (false, eval e X.env) :: starEach es X.env := by rfl)
    (hpl : (backTo pos (starEach es X.env)).any (·.1) = false := by rfl) : PE X (.Call (.Name x p) (e :: es) [] pos) (tNewS C sp E t) := by
  refine ⟨fun pins s σ H Q I h => wpAny_Call_Name_kw (ld_glob I hg hm ?_ hdb)⟩
  refine PySem.W.callWith_K (h₀ := X.base) I.ok.mod.kin M.kp (thn (ha.run pos pins s σ H _ I h) fun us s1 ⟨vs, H1, I1, r, q⟩ => ⟨I1.kIn, ?_⟩) he hpl
  exact run_newS M F hr hb (hx σ) I1 r q
end
/-! ### isinstance of a caught exception, its dict there or not -/
def rIsX (K : PySem.W.Frag) (D a : Addr) (cls : Value) (d : Option Addr) : List V → Hp → VK → Prop := fun xs H Q => cls = .ref D ∧ (∀ dd, d = some dd → ∃ o, H dd = some o) ∧ rIsE K D a xs H Q
theorem call_isX {X : Cx} {a D : Addr} {oe : Obj} {cls : Value} {d : Option Addr} {pn : List (Addr × Obj)} (T : ExcC X.K D) (hz : Zc cls d oe) (hf : ∃ vs, oe.data = .fields vs) : CallR (X.suite a ((a, oe) :: pn)) (.builtin "isinstance") (rIsX X.K D a cls d) := by
  intro pins s σ H xs us Q I r h
  obtain ⟨rfl, there, c, cv, b, rfl, hcv, e, q⟩ := h
  obtain ⟨u1, u2, rfl, r1, r2⟩ := vals2 r
  obtain rfl : u1 = Value.ref a := r1
  obtain rfl := hcv _ r2
  have got := (I.pin (a, oe) (List.mem_append_left _ List.mem_cons_self)).1
  obtain ⟨vs, hv⟩ := hf
  have nc : PySem.W.notCls oe := by
    unfold PySem.W.notCls
    rw [hv]
  obtain ⟨od, hod⟩ : ∃ od : Option Obj, PySem.W.InstAt s.heap a oe D od := by
    cases d with
    | none => exact ⟨none, got, hz.1, nc, by rw [hz.2]; trivial⟩
    | some dd =>
      obtain ⟨o, ho⟩ := there dd rfl
      obtain ⟨u, hu⟩ := objOk_get (I.hok dd o ho)
      exact ⟨some u, got, hz.1, nc, by rw [hz.2]; exact hu⟩
  exact PySem.W.kia_one (PySem.W.kitx_exc (od := od) (by obtain ⟨cd, hc, _⟩ := PySem.W.any_some T.hd; rw [hc]; rfl) T.hg T.hk T.hs T.ha T.hn T.ht T.hm) I.kIn hod e (fun z => nomatch z) fun tk => ⟨.bl b, H, I.kept (t' := tk) fun _ _ z => z, rfl, q⟩
/-! ### repr of data that stands in the heap: asked where no repr runs around -/
def rReprD (K : PySem.W.Frag) : List V → Hp → VK → Prop := fun xs H Q => ∃ (x : V) (d : PyData), xs = [x] ∧ Dp K H x d ∧ (∃ a, x = .ref a) ∧ d.showable = true ∧ d.hasDict = false ∧ d.depth ≤ 60 ∧ d.shown.length ≤ sizeLine ∧ Q (.str d.shown) H
theorem call_reprD {X : Cx} (hg : X.A.guards = some []) (hu : X.A.units + 64 < cLine) : CallR X (.builtin "repr") (rReprD X.K) := by
  intro pins s σ H xs us Q I r h
  obtain ⟨x, d, rfl, hD, ⟨a, rfl⟩, hs, hno, hdp, hl, q⟩ := h
  obtain ⟨u, rfl, r1⟩ := vals1 r
  obtain rfl : u = Value.ref a := r1
  obtain ⟨as, rd⟩ := Dp.reads I d _ _ hD rfl
  refine repr_of_reads' rd hs (fun z => by rw [hno] at z; cases z) hg (by omega) (fun _ _ e => e) (fun h' t tk hk => ⟨.str d.shown, H, I.kept (t' := tk) hk, ⟨t, rfl⟩, q⟩) hl
/-! ### defs that ask for this: their promise is kept where no repr runs around -/
structure FnG (P : Program) (w : World) (K : PySem.W.Frag) (mg : Str → Option Value) (base : Heap) (CX : CXT) (k : Nat) (f : Addr) (fd : FuncData) (ps : List Str) (sp : Sp) : Prop where
  len : ∀ vs H Q E, sp vs H Q E → vs.length = ps.length
  run : ∀ (A : Around) (outer : List Env) (s : Shared) (H : Hp) (args : Args) (us : List Value) (vs : List V) (Q : VK) (E : XK), A.guards = some [] → Room k A → Env0 P w K mg base A outer s H → BindsTo s fd args (ps.zip us) → Vals vs us →
    sp vs H Q E → codeAny (model P w) A (.call (.ref f) args) (CR CX outer P w H s Q E) s
theorem FnG.of {P : Program} {w : World} {K : PySem.W.Frag} {mg : Str → Option Value} {base : Heap} {CX : CXT} {k : Nat} {f : Addr} {fd : FuncData} {ps : List Str} {sp : Sp} (F : FnOk P w K mg base CX k f fd ps sp) : FnG P w K mg base CX k f fd ps sp :=
  ⟨F.len, fun A outer s H args us vs Q E _ => F.run A outer s H args us vs Q E⟩
section
variable {P : Program} {w : World} {K : PySem.W.Frag} {mg : Str → Option Value} {base : Heap} {x qual : Str} {params : Arguments} {body : List Stmt} {scope : Scope} {dvs : List V} {kws : List (Str × V)} {f : Addr} {fd : FuncData} {CX : CXT} {N ps : List Str} {k : Nat} {sp : Sp}
theorem funG (F : FunD K x qual params body scope dvs kws f fd) (S : FnScope N ps scope) (len : ∀ vs H Q E, sp vs H Q E → vs.length = ps.length)
    (hbody : ∀ (cdv : Value) (A : Around) (outer : List Env) (s : Shared) (H : Hp) (vs : List V) (Q : VK) (E : XK), A.guards = some [] → Room k (A.deeper (envOfC qual scope s.heap.objs.size f cdv)) → sp vs H Q E →
      ∃ t, PSs (cxOf CX P w K mg base N qual scope f cdv A outer s H E) body t ∧ t { nx := fun _ H' => Q .non H', rt := Q } (start N vs) H) : FnG P w K mg base CX (k + 1) f fd ps sp := by
  obtain ⟨oc, od, dV, kV, doc, pm, an, cdv, ct, osl, rfl, lk, hcd, -, -⟩ := F.ex
  refine ⟨len, fun A outer s H args us vs Q E gd hr e0 hb r todo => ?_⟩
  have hlen := len _ _ _ _ todo
  have inH : K.In s.heap := e0.mod.kin.keeps fun b o z => (e0.bs b o z).1
  have noLim : s.heap.NoLimit := e0.mod.nolimit.keeps fun b o z => (e0.bs b o z).1
  refine codeAny_call_function hr.depth (inH _ _ lk) rfl S.co S.gen rfl (PySem.W.codeRec_of inH hcd) (hb _ _ _ _ (wpAny_newFunctionEnv_cells S.kind (fun y hy => ?_) fun env he s1 entered => ?_))
  · rcases S.par y.1 (List.of_mem_zip (show (y.1, y.2) ∈ ps.zip us from hy)).1 with c | c
    · exact .inl c
    · exact .inr ⟨c, PySem.W.cellsFrom_some _ _ _ (.inl c)⟩
  · subst he
    obtain ⟨t, ht, hq⟩ := hbody cdv A outer s H vs Q E gd (hr.deeper _) todo
    have J : Inv (cxOf CX P w K mg base N qual scope f cdv A outer s H E) [] (start N vs) H s1 := inv_start S hr.hd e0 hlen r entered
    refine ⟨noLim.keeps entered.toInCall.keep, codeAny_func (wpAny_mono (ht.run [] s1 (start N vs) H _ J hq) (fun fl s' over => ?_) fun _ _ z => z)⟩
    cases fl with
    | ret u => exact let ⟨v, _, H', J', rv, qv⟩ := over; ⟨v, H', J'.os, J'.bare, J'.base, J'.hok, rv, qv⟩
    | next => exact let ⟨_, H', J', qv⟩ := over; ⟨V.non, H', J'.os, J'.bare, J'.base, J'.hok, rfl, qv⟩
    | brk => exact let ⟨_, _, _, z⟩ := over; False.elim z
    | cont => exact let ⟨_, _, _, z⟩ := over; False.elim z
end
structure CalG (P : Program) (w : World) (K : PySem.W.Frag) (mg : Str → Option Value) (base : Heap) (CX : CXT) (k : Nat) (x : Str) (ps : List Str) (dvs : List V) (sp : Sp) : Prop where
  ex : ∃ (f : Addr) (fd : FuncData) (ds : List Value), FnG P w K mg base CX k f fd ps sp ∧ mg x = some (.ref f) ∧ PySem.W.keepIn K (.ref f) = true ∧ Binds K fd ps ds ∧ Vals dvs ds
section
variable {X : Cx} {CX : CXT} {k : Nat} {ps : List Str} {sp : Sp} {dvs : List V} {E : XK} {x : Str} {p pos : Pos} {e : Expr} {es : List Expr} {t : TA}
theorem pe_calG (C : CalG X.prog X.w X.K X.mg X.base CX k x ps dvs sp) (gd : X.A.guards = some []) (hr : Room k X.A) (hx : Passes CX X E) (ha : PA X (e :: es) t) (hg : Gl X x := by rfl) (hdb : (x == ("__debug__" : Str)) = false := by decide)
    (he : starEach (e :: es) X.env = (false, eval e X.env) :: starEach es X.env := by rfl) (hpl : (backTo pos (starEach es X.env)).any (·.1) = false := by rfl) :
    PE X (.Call (.Name x p) (e :: es) [] pos) (tCall sp dvs E t) := by
  obtain ⟨f, fd, ds, G, g, kp, hb, hd⟩ := C.ex
  refine ⟨fun pins s σ H Q I h => wpAny_Call_Name_kw (ld_glob I hg g ?_ hdb)⟩
  refine PySem.W.callWith_K (h₀ := X.base) I.ok.mod.kin kp (thn (ha.run pos pins s σ H _ I h) fun us s1 ⟨vs, H1, I1, r, q⟩ => ⟨I1.kIn, ?_⟩) he hpl
  have rr : Vals (vs ++ dvs) (us ++ ds) := r.append hd
  have ln : (us ++ ds).length = ps.length := rr.length.symm.trans (G.len _ _ _ _ q)
  refine wpAny_call (codeAny_mono (G.run X.A X.stack s1 H1 ⟨us, []⟩ _ _ Q E gd hr I1.env0 (hb s1 us I1.kIn ln) rr q) fun res s' z => ?_)
  cases res with
  | error er => exact hx pins σ H1 s1 er s' I1 z
  | ok fl =>
    cases fl with
    | ret u => exact I1.after z
    | next => exact z.elim
    | brk => exact z.elim
    | cont => exact z.elim
end
/-! ### the law's end, its def's promise kept where no repr runs around -/
section
open PySem.W
/-- the heap in which the script alone is tracked (as the object that it is), or nothing -/
def scriptH (K : Frag) (a : Addr) (vs : List Value) (ns : List Int) : Hp := fun b => if b = a ∧ K.lookup a = none then some (.frz { cls := .type "list", data := .seq vs.toArray } (.lst (ns.map V.int))) else none
theorem scriptH_some {K : Frag} {a b : Addr} {vs : List Value} {ns : List Int} {u : HO} (h : scriptH K a vs ns b = some u) : b = a ∧ K.lookup a = none ∧ u = .frz { cls := .type "list", data := .seq vs.toArray } (.lst (ns.map V.int)) := by
  unfold scriptH at h
  split at h
  · rename_i c
    exact ⟨c.1, c.2, (Option.some.inj h).symm⟩
  · cases h
theorem law_callG {P : Program} {w : World} {K : Frag} {mg mb : Str → Option Value} {CX : CXT} {k : Nat} {fa a : Addr} {fd : FuncData} {x : Str} {sp : Sp} {s₁ : Shared} {vs : List Value} {ns : List Int}
    (KX : K.In s₁.heap) (hns : s₁.heap.Ns mainGlobals mg) (hb : s₁.heap.Ns builtinsNs mb) (hbb : ∀ x : Str, x ≠ "__name__" → mb x = bootBuiltins x) (hlim : s₁.heap.NoLimit) (hg : s₁.gens = #[])
    (ha : s₁.heap.get? a = some { cls := .type "list", data := .seq vs.toArray }) (hi : IntsAre vs ns) (hl : ns.length ≤ sizeLine) (hr : Room k callerA)
    (F : ∀ base : Heap, K.In base → base.Ns mainGlobals mg → FnG P w K mg base CX k fa fd [x] sp) (hbind : ∀ (s : Shared) (u : Value), BindsTo s fd ⟨[u], []⟩ [(x, u)])
    (hsp : ∀ H : Hp, Only H → SqL K H a (ns.map V.int) → sp [.ref a] H (fun v _ => v = .bl true) fun _ _ _ => False) (hCX : ∀ H e s', CX [] H s₁ (fun _ _ _ => False) e s' → False) :
    codeAny (model P w) callerA (.call (.ref fa) ⟨[.ref a], []⟩) (fun r s' => r = .ok (.ret (.bool true)) ∧ OldK s₁.heap s'.heap ∧ s'.os = s₁.os ∧ AllBare s'.gens) s₁ := by
  generalize hH : scriptH K a vs ns = H
  have only : Only H := fun b => by
    cases q : H b with
    | none => exact .inl rfl
    | some u =>
      rw [← hH] at q
      obtain ⟨-, -, rfl⟩ := scriptH_some q
      exact .inr ⟨_, _, rfl⟩
  have ok : HOk P w H s₁.heap := fun b u q => by
    rw [← hH] at q
    obtain ⟨rfl, -, rfl⟩ := scriptH_some q
    exact ⟨ha, by rw [List.length_map]; exact hl, vs, _, vals_ints hi, ha⟩
  have isA : ∀ b u, H b = some u → b = a ∧ K.lookup a = none := fun b u q => by
    rw [← hH] at q
    exact ⟨(scriptH_some q).1, (scriptH_some q).2.1⟩
  have seen : SqL K H a (ns.map V.int) := by
    cases hk : K.lookup a with
    | some o =>
      have z := KX a o hk
      rw [ha] at z
      cases z
      exact .inr ⟨_, vs.toArray, _, hk, rfl, rfl, rfl, by rw [List.size_toArray, hi.length]; exact hl, by simpa using vals_ints hi⟩
    | none => exact .inl (.inr ⟨{ cls := .type "list", data := .seq vs.toArray }, by rw [← hH]; unfold scriptH; rw [if_pos ⟨rfl, hk⟩]⟩)
  have dictFree : ∀ {b : Addr} {o : Obj} {es : Array DictEntry} {ep : Nat}, s₁.heap.get? b = some o → o.data = .dict es ep → H b = none := fun {b o es ep} e d => by
    cases q : H b with
    | none => rfl
    | some u =>
      obtain ⟨rfl, -⟩ := isA b u q
      rw [ha] at e
      cases e
      cases d
  have nsOn : ∀ {b : Addr} {m : Str → Option Value}, s₁.heap.Ns b m → (hidT s₁.heap H).Ns b m := fun {b m} ⟨o, es, ep, e, d, r⟩ => ⟨o, es, ep, hidT_get e (dictFree e d), d, r⟩
  have kinB : K.In (hidT s₁.heap H) := fun b o e => hidT_get (KX b o e) (by
    cases q : H b with
    | none => rfl
    | some u =>
      obtain ⟨rfl, z⟩ := isA b u q
      rw [z] at e
      cases e)
  have e0 : Env0 P w K mg (hidT s₁.heap H) callerA [] s₁ H :=
    ⟨rfl, ⟨kinB, nsOn hns, ⟨mb, nsOn hb, hbb⟩, let ⟨mc, h1, h2⟩ := hlim; ⟨mc, nsOn h1, h2⟩⟩, fun b o e => of_hidT e, Nat.le_of_eq (hidT_size _ _), trivial, fun b hb => absurd (show b ∈ ([] : List Addr) from hb) (by simp), ok, .of_eq hg⟩
  refine codeAny_mono ((F _ kinB (nsOn hns)).run callerA [] s₁ H ⟨[.ref a], []⟩ [.ref a] [.ref a] _ _ rfl hr e0 (hbind s₁ (.ref a)) (.cons rfl .nil) (hsp H only seen)) fun res s' z => ?_
  cases res with
  | error e => exact (hCX H e s' z).elim
  | ok fl =>
    cases fl with
    | ret u =>
      obtain ⟨v, H', os, bare, un, hok', rv, qv⟩ := z
      have ev : v = .bl true := qv
      subst ev
      obtain rfl : u = Value.bool true := rv
      refine ⟨rfl, OldK.of_keep fun b o e => ?_, os, bare⟩
      cases q : H b with
      | none => exact un.keep b o e q (fun z => absurd (show b ∈ ([] : List Addr) from z) (by simp)) (by simp)
      | some u =>
        rcases only b with z | ⟨ob, xs, z⟩
        · rw [z] at q
          cases q
        · have now := (hok' b _ (un.frzs b ob _ z)).1
          have old := (ok b _ z).1
          rw [e] at old
          cases old
          exact now
    | next => exact z.elim
    | brk => exact z.elim
    | cont => exact z.elim
theorem walk_ofG {l : PySem.W.OpenLaw} {n k : Nat} {q : Program} {loose : List Str} {XP : (Str → Option Value) → Heap → Prop} {YP : World → Heap → Prop} {d : DefRec} {CX : CXT} {x : Str}
    (hn : l.most = some n) (hn2 : n ≤ sizeLine) (hdf : d.params.defaults = []) (hr : Room k callerA)
    (F : ∀ (w : World) (mg : Str → Option Value) (fa : Addr) (h : Heap), YP w h → h.Ns mainGlobals mg → mg d.name = some (.ref fa) →
      ∃ (K : PySem.W.Frag) (fd : FuncData) (sp : Sp), K.In h ∧ (∀ (s : Shared) (u : Value), BindsTo s fd ⟨[u], []⟩ [(x, u)]) ∧
        (∀ (H : Hp) (a : Addr) (ns : List Int), ns.length ≤ n → Only H → SqL K H a (ns.map V.int) → sp [.ref a] H (fun v _ => v = .bl true) fun _ _ _ => False) ∧
        ∀ base : Heap, K.In base → base.Ns mainGlobals mg → FnG l.prog w K mg base CX k fa fd [x] sp)
    (hCX : ∀ (H : Hp) (s : Shared) (e : Value) (s' : Shared), CX [] H s (fun _ _ _ => False) e s' → False) : PySem.W.WalkO q loose XP YP l.row.toRowW d [] (fun f vs => PySem.call f vs) := by
  refine Att.attach_call hn hdf fun w s₀ s₁ mg mb fa o pm cd doc a vs ns G Y _ _ _ hmg hobj hints hlen hg => ?_
  obtain ⟨K, fd, sp, KX, hbd, hsp, hF⟩ := F w mg fa _ Y G.T.g hmg
  exact law_callG KX G.T.g G.T.b G.T.builtins G.T.nolimit hg hobj hints (Nat.le_trans hlen hn2) hr hF hbd (fun H hO hS => hsp H a ns hlen hO hS) fun H e s' => hCX H s₁ e s'
end
/-! ### facts of the top, told by one Bool -/
section
open PySem.W
def obsF (fb : Frag → Bool) (fn : List He.DefD) (K : Frag) : He.AlD := (fb K && fn.all fun d => d.ok K, fn.map fun d => He.fnW K d.at_)
def SaysF (fb : Frag → Bool) (fn : List He.DefD) (K : Frag) : Prop := obsF fb fn K = He.valD fn
def obsFG (n : Nat) (fb : Frag → Bool) (fn : List He.DefD) (g : Addr → Option Obj) : He.AlD := obsF fb fn (He.frG g (He5.asA g n))
def hookF (n : Nat) (fb : Frag → Bool) (fn : List He.DefD) : Hook where
  α := He.AlD
  obs := fun s => obsFG n fb fn s.heap.get?
  val := fun _ => He.valD fn
  says := fun _ h => ∃ K : Frag, K.In h ∧ SaysF fb fn K
  of := fun _ _ e => ⟨_, He.frG_in, e⟩
  keeps := fun _ _ _ ⟨K, inK, c⟩ k => ⟨K, Frag.In.keeps inK k, c⟩
theorem obsFG_eq {n : Nat} {fb : Frag → Bool} {fn : List He.DefD} {g : Addr → Option Obj} {s : Shared} (h : ∀ a, g a = s.heap.get? a) : obsFG n fb fn g = (hookF n fb fn).obs s := by
  obtain rfl : g = s.heap.get? := funext h
  rfl
theorem SaysF.all {fb : Frag → Bool} {fn : List He.DefD} {K : Frag} (c : SaysF fb fn K) : fb K = true ∧ ∀ d ∈ fn, d.ok K = true := by
  have z : (fb K && fn.all fun d => d.ok K) = true := congrArg (fun z : He.AlD => z.1) c
  exact ⟨(Bool.and_eq_true_iff.mp z).1, List.all_eq_true.mp (Bool.and_eq_true_iff.mp z).2⟩
theorem SaysF.def_ {fb : Frag → Bool} {fn : List He.DefD} {K : Frag} (c : SaysF fb fn K) {d : He.DefD} (h : d ∈ fn) : ∃ fd, FunD K d.name d.qual d.params d.body d.scope (d.dvs K) (d.kws K) (He.fAd K d.at_) fd := by
  have e : fn.map (fun d => He.fnW K d.at_) = fn.map He.DefD.val := congrArg (fun z : He.AlD => z.2) c
  exact He.DefD.funD (List.map_inj_left.mp e d h) (c.all.2 d h)
end
/-! ### an own exception class with an __init__ of its own, as one Bool -/
section
open PySem.W
def oexB (K : Frag) (C : Addr) : Bool := (match K.lookup C with
  | some ⟨.type "type", _, .cls cd, sl⟩ => (match cd.mro, sl.toList with
    | .ref C' :: bm, [_, _, _, _, some (.builtin n), _] => C' == C && (n == "ValueError.__new__" && (!cd.hasDel && (cd.hasDict && HandSPX.refsVE bm)))
    | _, _ => false)
  | _ => false) && (decide (findIn K (.ref C) "__setattr__" = some (some (.builtin "object.__setattr__"))) && (decide (subIn K (.ref C) (.type "BaseException") = some true) && (decide (typeIn K (.ref C) = some (.type "type")) && keepIn K (.ref C))))
theorem oexB_ok {K : Frag} {C : Addr} (h : oexB K C = true) : OexC K C := by
  obtain ⟨h1, h⟩ := He.ba h
  obtain ⟨h2, h⟩ := He.ba h
  obtain ⟨h3, h⟩ := He.ba h
  obtain ⟨h4, h5⟩ := He.ba h
  refine ⟨?_, of_decide_eq_true h2, of_decide_eq_true h3, of_decide_eq_true h4, h5⟩
  split at h1
  · rename_i dd cd sl found
    split at h1
    · rename_i C' bm k0 k1 k2 k3 n k5 isMro isSl
      obtain ⟨e1, h1⟩ := He.ba h1
      obtain ⟨e2, h1⟩ := He.ba h1
      obtain ⟨e3, h1⟩ := He.ba h1
      obtain ⟨e4, e5⟩ := He.ba h1
      obtain rfl := beq_iff_eq.mp e1
      obtain rfl := beq_iff_eq.mp e2
      obtain ⟨nm, bs, mro, ns, qn, hd, sn, sub, ab, col, del⟩ := cd
      obtain ⟨l⟩ := sl
      dsimp only at isMro isSl e3 e4
      subst isMro isSl e4
      obtain rfl : del = false := by simpa using e3
      exact ⟨nm, qn, ns, bs, bm, sn, sub, ab, col, dd, k0, k1, k2, k3, k5, found, e5⟩
    · cases h1
  · cases h1
def excB (K : Frag) (D : Addr) : Bool := decide (findIn K (.ref D) "__getattribute__" = some (some (.builtin "BaseException.__getattribute__"))) && (decide (findIn K (.ref D) "__getattr__" = some none) && (decide (subIn K (.ref D) (.type "BaseException") = some true) && (hasDictIn K D &&
  (decide (findIn K (.ref D) "__class__" = some (some (.builtin "object.__class__"))) && (decide (specialIn K (.builtin "object.__class__") "__get__" = some (some (.builtin "getset_descriptor.__get__"))) && (decide (takesIn K (.builtin "object.__class__") = some true) && decide (mroIn K D (.type "object") = some true)))))))
theorem excB_ok {K : Frag} {D : Addr} (h : excB K D = true) : ExcC K D := by
  obtain ⟨h1, h⟩ := He.ba h
  obtain ⟨h2, h⟩ := He.ba h
  obtain ⟨h3, h⟩ := He.ba h
  obtain ⟨h4, h⟩ := He.ba h
  obtain ⟨h5, h⟩ := He.ba h
  obtain ⟨h6, h⟩ := He.ba h
  obtain ⟨h7, h8⟩ := He.ba h
  exact ⟨of_decide_eq_true h1, of_decide_eq_true h2, of_decide_eq_true h3, h4, of_decide_eq_true h5, of_decide_eq_true h6, of_decide_eq_true h7, of_decide_eq_true h8⟩
theorem xfC_of {K : Frag} {D : Addr} (h : ExcC K D) : XfC K D := ⟨h.hg, h.hk, h.hs, h.hd⟩
end
/-! ### constants of the top; heaps that part at one address alone; the laws' bag of draws -/
section
variable {X : Cx} {x : Str} {pos : Pos}
theorem pe_gint {i : Int} (h : ∃ t, X.mg x = some (.int i t)) (hg : Gl X x := by rfl) (hd : (x == ("__debug__" : Str)) = false := by decide) : PE X (.Name x pos) (tC (.int i)) := by
  obtain ⟨t, e⟩ := h
  exact pe_glob hg e ⟨t, rfl⟩ hd
theorem pe_gstr {z : Str} (h : ∃ t, X.mg x = some (.str z t)) (hg : Gl X x := by rfl) (hd : (x == ("__debug__" : Str)) = false := by decide) : PE X (.Name x pos) (tC (.str z)) := by
  obtain ⟨t, e⟩ := h
  exact pe_glob hg e ⟨t, rfl⟩ hd
end
/-- H' is H but at b -/
def Off (b : Addr) (H H' : Hp) : Prop := ∀ a, a ≠ b → H' a = H a
theorem Off.refl (b : Addr) (H : Hp) : Off b H H := fun _ _ => rfl
theorem Off.trans {b : Addr} {H H1 H2 : Hp} (h : Off b H H1) (h' : Off b H1 H2) : Off b H H2 := fun a n => (h' a n).trans (h a n)
theorem Off.upd {b : Addr} {H : Hp} {o : HO} : Off b H (upd H b o) := fun _ n => upd_ne n
theorem Off.at {b a : Addr} {H H' : Hp} {o : HO} (h : Off b H H') (n : a ≠ b) (e : H a = some o) : H' a = some o := (h a n).trans e
theorem same_new {H : Hp} {p : Addr} {o : HO} (h : H p = none) : Same H (upd H p o) := fun b x e => by
  rw [upd_ne (ne_of_none e h)]
  exact e
/-- all that was tracked, but for the object at b, is as it was -/
def Kb (b : Addr) (H H' : Hp) : Prop := ∀ a o, a ≠ b → H a = some o → H' a = some o
theorem Kb.refl (b : Addr) (H : Hp) : Kb b H H := fun _ _ _ e => e
theorem Kb.trans {b : Addr} {H H1 H2 : Hp} (h : Kb b H H1) (h' : Kb b H1 H2) : Kb b H H2 := fun a o n e => h' a o n (h a o n e)
theorem Off.kb {b : Addr} {H H' : Hp} (h : Off b H H') : Kb b H H' := fun _ _ n e => h.at n e
theorem Kb.of_same {b : Addr} {H H' : Hp} (h : Same H H') : Kb b H H' := fun a o _ e => h a o e
theorem kb_new {b : Addr} {H : Hp} {p : Addr} {o : HO} (h : H p = none) : Kb b H (L2.upd H p o) := .of_same (same_new h)
abbrev bagO (c : Addr) (p r k m : Int) : HO := .lst [.ref c, .int p, .int r, .int k, .int m]
/-- a bag at b, its cells at c, of which at most n draws were made -/
def BagAt (H : Hp) (b c : Addr) (n : Int) : Prop := ∃ (ns : List Int) (p : Nat) (r k m : Int), H b = some (bagO c p r k m) ∧ H c = some (.lst (ns.map V.int)) ∧ 0 ≤ k ∧ k ≤ n ∧ 0 ≤ m ∧ m < 2147483647
theorem BagAt.mono {H : Hp} {b c : Addr} {n n' : Int} (h : BagAt H b c n) (l : n ≤ n') : BagAt H b c n' := by
  obtain ⟨ns, p, r, k, m, h1, h2, h3, h4, h5, h6⟩ := h
  exact ⟨ns, p, r, k, m, h1, h2, h3, Int.le_trans h4 l, h5, h6⟩
theorem BagAt.there {H : Hp} {b c : Addr} {n : Int} (h : BagAt H b c n) : (∃ o, H b = some o) ∧ ∃ o, H c = some o := by
  obtain ⟨ns, p, r, k, m, h1, h2, _⟩ := h
  exact ⟨⟨_, h1⟩, _, h2⟩
theorem BagAt.new {H : Hp} {a b c : Addr} {n : Int} (h : BagAt H b c n) (na : H a = none) : a ≠ b ∧ a ≠ c := by
  obtain ⟨⟨_, h1⟩, _, h2⟩ := h.there
  exact ⟨(ne_of_none h1 na).symm, (ne_of_none h2 na).symm⟩
theorem BagAt.two {H : Hp} {b c : Addr} {n : Int} (h : BagAt H b c n) : c ≠ b := fun z => by
  obtain ⟨ns, p, r, k, m, h1, h2, _⟩ := h
  rw [z, h1] at h2
  cases ns with
  | nil => cases h2
  | cons n ns => cases h2
/-- the bag stays where what was tracked stays -/
theorem BagAt.same {H H' : Hp} {b c : Addr} {n : Int} (h : BagAt H b c n) (e : Same H H') : BagAt H' b c n := by
  obtain ⟨ns, p, r, k, m, h1, h2, h3⟩ := h
  exact ⟨ns, p, r, k, m, e _ _ h1, e _ _ h2, h3⟩
theorem BagAt.upd {H : Hp} {a b c : Addr} {n : Int} {o : HO} (h : BagAt H b c n) (nb : a ≠ b) (nc : a ≠ c) : BagAt (L2.upd H a o) b c n := by
  obtain ⟨ns, p, r, k, m, h1, h2, h3⟩ := h
  exact ⟨ns, p, r, k, m, by rw [upd_ne nb.symm]; exact h1, by rw [upd_ne nc.symm]; exact h2, h3⟩
theorem BagAt.updNew {H : Hp} {a b c : Addr} {n : Int} {o : HO} (h : BagAt H b c n) (na : H a = none) : BagAt (L2.upd H a o) b c n := h.upd (h.new na).1 (h.new na).2
/-- _law_bag(script) -/
def spBag (K : PySem.W.Frag) : Sp := fun vs H Q _ => ∃ (a : Addr) (ns : List Int), vs = [.ref a] ∧ SqL K H a (ns.map V.int) ∧ ∀ b c H', H b = none → H c = none → Same H H' → BagAt H' b c 0 → Q (.ref b) H'
/-- _law_draw(bag, limit): a number from 0 to limit - 1, the bag turned -/
def spDraw : Sp := fun vs H Q _ => ∃ (b c : Addr) (lim n : Int), vs = [.ref b, .int lim] ∧ BagAt H b c n ∧ 0 < lim ∧ lim < 2 ^ 200 ∧ n < 2 ^ 60 ∧ ∀ (r : Int) (H' : Hp), 0 ≤ r → r < lim → Off b H H' → BagAt H' b c (n + 1) → Q (.int r) H'
theorem cut63 {ns : List Int} : cutV (ns.map V.int) none (some 63) = (ns.take 63).map V.int := by
  unfold cutV
  rw [show HT.sIx (ns.map V.int).length (ns.map V.int).length (some 63) = min 63 (ns.map V.int).length from HT.sIx_nat _ _ 63, HT.sIx_none, List.drop_zero, Nat.sub_zero, ← List.map_take]
  congr 1
  rw [List.length_map, Nat.min_comm]
  by_cases h : ns.length ≤ 63
  · rw [Nat.min_eq_left h, List.take_of_length_le (Nat.le_refl _), List.take_of_length_le h]
  · rw [Nat.min_eq_right (by omega)]
/-! ### own exceptions whose __init__ stores its arguments, one a field -/
/-- __init__(self, ..) of the class at C keeps this: the fields are fs of the arguments -/
def spXI (C : Addr) (n : Nat) (fs : List V → List (Str × V)) : Sp := fun vs H Q _ => ∃ (a : Addr) (ws : List V), vs = .ref a :: ws ∧ ws.length = n ∧ H a = some (exo a C none) ∧
  ∀ dx, H dx = none → dx ≠ a → Q .non (L2.upd (L2.upd H dx (exd dx (fs ws))) a (exo a C (some dx)))
/-- C(e, ..): for every new d the error, its dict at d -/
def tMkF (C : Addr) (n : Nat) (fs : List V → List (Str × V)) (ta : TA) : L2.St → Hp → XK → Prop := fun σ H Q => ta σ H fun vs H1 => vs.length = n ∧ ∀ d, H1 d = none → Q (.ref C) (some d) (L2.upd H1 d (.xd (fs vs)))
theorem pmk_fld {X : Cx} {CX : CXT} {x : Str} {C fI : Addr} {k n : Nat} {fd : FuncData} {ps : List Str} {fs : List V → List (Str × V)} {e : Expr} {es : List Expr} {ta : TA} {p pos : Pos} (T : OexC X.K C) (iC : PySem.W.findIn X.K (.ref C) "__init__" = some (some (.ref fI))) (tI : PySem.W.typeIn X.K (.ref fI) = some (.type "function"))
    (F1 : FnOk X.prog X.w X.K X.mg X.base CX k fI fd ps (spXI C n fs)) (hr : Room (k + 1) X.A) (hb : Binds X.K fd ps []) (hx : Passes CX X (fun _ _ _ => False)) (hm : X.mg x = some (.ref C)) (hn : n ≤ 1000) (ha : PA X (e :: es) ta)
    (mono : ∀ σ H (R R' : List V → Hp → Prop), (∀ vs H1, R vs H1 → R' vs H1) → ta σ H R → ta σ H R') (hg : Gl X x := by rfl)
    (hdb : (x == ("__debug__" : Str)) = false := by decide) (he : starEach (e :: es) X.env = (false, eval e X.env) :: starEach es X.env := by rfl) (hpl : (backTo pos (starEach es X.env)).any (·.1) = false := by rfl) :
    PMk X (.Call (.Name x p) (e :: es) [] pos) (tMkF C n fs ta) := by
  have base := pmk_oex (p := p) (pos := pos) (dvs := []) (ds := []) T iC tI F1 hr hb .nil hx hg hm ha hdb he hpl
  intro pins s σ H Q I h
  refine base pins s σ H Q I (mono σ H _ _ (fun vs H1 q => ?_) h)
  obtain ⟨hl, q⟩ := q
  refine ⟨by omega, fun a na => ⟨a, vs, by rw [List.append_nil], hl, upd_same, fun dx nd ne => ⟨rfl, dx, fs vs, upd_same, by rw [upd_ne ne, upd_same], ?_, ?_⟩⟩⟩
  · rw [upd_ne ne] at nd
    exact nd
  · have nd1 : H1 dx = none := by
      rw [upd_ne ne] at nd
      exact nd
    have e : L2.upd (L2.del (L2.upd (L2.upd (L2.upd H1 a (exo a C none)) dx (exd dx (fs vs))) a (exo a C (some dx))) a) dx (.xd (fs vs)) = L2.upd H1 dx (.xd (fs vs)) := by
      funext b
      by_cases h1 : b = dx
      · rw [h1, upd_same, upd_same]
      · rw [upd_ne h1, upd_ne h1]
        by_cases h2 : b = a
        · rw [h2, del_same, na]
        · rw [del_ne h2, upd_ne h2, upd_ne h1, upd_ne h2]
    rw [e]
    exact q dx nd1
theorem xi_two {H : Hp} {a dx C : Addr} {f1 f2 : Str} {y1 y2 : V} (ne : dx ≠ a) : L2.upd (L2.upd (L2.upd H dx (exd dx [(f1, y1)])) a (exo a C (some dx))) dx (exd dx [(f2, y2), (f1, y1)]) = L2.upd (L2.upd H dx (exd dx [(f2, y2), (f1, y1)])) a (exo a C (some dx)) := by
  funext b
  by_cases h1 : b = dx
  · rw [h1, upd_same, upd_ne ne, upd_same]
  · by_cases h2 : b = a
    · rw [h2, upd_ne ne.symm, upd_same, upd_same]
    · rw [upd_ne h1, upd_ne h2, upd_ne h1, upd_ne h2, upd_ne h1]
/-! ### what a value is, by its built-in class -/
inductive Kn (H : Hp) : V → String → Prop
  | non : Kn H .non "NoneType"
  | bl (b : Bool) : Kn H (.bl b) "bool"
  | int (i : Int) : Kn H (.int i) "int"
  | str (x : Str) : Kn H (.str x) "str"
  | lst {a : Addr} {xs : List V} (e : H a = some (.lst xs)) : Kn H (.ref a) "list"
  | tup {a : Addr} {xs : List V} (e : H a = some (.tup xs)) : Kn H (.ref a) "tuple"
  | dct {a : Addr} {kvs : List (Key × V)} (e : H a = some (.dK kvs)) : Kn H (.ref a) "dict"
theorem Kn.ty {K : PySem.W.Frag} {H : Hp} {v : V} {T : String} (h : Kn H v T) : TyX K H v (.type T) := by
  cases h with
  | non => exact .base .non
  | bl b => exact .base (.bl b)
  | int i => exact .base (.int i)
  | str x => exact .base (.str x)
  | lst e => exact .base (.lst e)
  | tup e => exact .base (.tup e)
  | dct e => exact .base (.dK e)
def wholeV (v : V) (lo hi : Int) : Bool := match v with
  | .int i => decide (lo ≤ i) && decide (i ≤ hi)
  | _ => false
/-- an int, a truth, or neither -/
theorem Kn.whole {K : PySem.W.Frag} {H : Hp} {v : V} {T : String} (h : Kn H v T) : (∃ i, v = .int i ∧ PySem.W.kitOne K (.type T) (.type "int") = some true ∧ PySem.W.kitOne K (.type T) (.type "bool") = some false) ∨
    (((PySem.W.kitOne K (.type T) (.type "int") = some true ∧ PySem.W.kitOne K (.type T) (.type "bool") = some true) ∨ PySem.W.kitOne K (.type T) (.type "int") = some false) ∧ (∀ i, v ≠ .int i) ∧ ∀ lo hi, wholeV v lo hi = false) := by
  cases h with
  | int i => exact .inl ⟨i, rfl, kit_ty (by decide +kernel), kit_ty (by decide +kernel)⟩
  | bl b => exact .inr ⟨.inl ⟨kit_ty (by decide +kernel), kit_ty (by decide +kernel)⟩, (fun _ z => nomatch z), fun _ _ => rfl⟩
  | non => exact .inr ⟨.inr (kit_ty (by decide +kernel)), (fun _ z => nomatch z), fun _ _ => rfl⟩
  | str x => exact .inr ⟨.inr (kit_ty (by decide +kernel)), (fun _ z => nomatch z), fun _ _ => rfl⟩
  | lst e => exact .inr ⟨.inr (kit_ty (by decide +kernel)), (fun _ z => nomatch z), fun _ _ => rfl⟩
  | tup e => exact .inr ⟨.inr (kit_ty (by decide +kernel)), (fun _ z => nomatch z), fun _ _ => rfl⟩
  | dct e => exact .inr ⟨.inr (kit_ty (by decide +kernel)), (fun _ z => nomatch z), fun _ _ => rfl⟩
/-- isinstance(v, (list, tuple)) -/
def seqT (T : String) : Bool := decide (T = "list") || decide (T = "tuple")
theorem Kn.seq {K : PySem.W.Frag} {H : Hp} {v : V} {T : String} (h : Kn H v T) : PySem.W.kitAny K (.type T) [.type "list", .type "tuple"] = some (seqT T) := by
  have two : ∀ {a b : Bool}, PySem.W.kitOne K (.type T) (.type "list") = some a → PySem.W.kitOne K (.type T) (.type "tuple") = some b → PySem.W.kitAny K (.type T) [.type "list", .type "tuple"] = some (a || b) := fun {a b} e1 e2 =>
    kitAny_cons e1 (fun ea => by rw [ea]; exact kitAny_cons e2 (fun eb => by rw [eb]; exact kitAny_nil) (fun eb => by rw [eb]; rfl)) (fun ea => by rw [ea]; rfl)
  cases h with
  | int i => exact two (a := false) (b := false) (kit_ty (by decide +kernel)) (kit_ty (by decide +kernel))
  | bl b => exact two (a := false) (b := false) (kit_ty (by decide +kernel)) (kit_ty (by decide +kernel))
  | non => exact two (a := false) (b := false) (kit_ty (by decide +kernel)) (kit_ty (by decide +kernel))
  | str x => exact two (a := false) (b := false) (kit_ty (by decide +kernel)) (kit_ty (by decide +kernel))
  | lst e => exact two (a := true) (b := false) (kit_ty (by decide +kernel)) (kit_ty (by decide +kernel))
  | tup e => exact two (a := false) (b := true) (kit_ty (by decide +kernel)) (kit_ty (by decide +kernel))
  | dct e => exact two (a := false) (b := false) (kit_ty (by decide +kernel)) (kit_ty (by decide +kernel))
/-- the items of a list or a tuple; none of another thing -/
def seqOf (H : Hp) : V → Option (List V)
  | .ref a => match H a with
    | some (.lst xs) => some xs
    | some (.tup xs) => some xs
    | _ => none
  | _ => none
theorem Kn.seqSome {H : Hp} {v : V} {T : String} (h : Kn H v T) : (seqT T = true ∧ ∃ a xs, v = .ref a ∧ seqOf H v = some xs ∧ ((H a = some (.lst xs)) ∨ H a = some (.tup xs))) ∨ (seqT T = false ∧ seqOf H v = none) := by
  cases h with
  | @lst a xs e => exact .inl ⟨rfl, a, xs, rfl, by simp only [seqOf, e], .inl e⟩
  | @tup a xs e => exact .inl ⟨rfl, a, xs, rfl, by simp only [seqOf, e], .inr e⟩
  | dct e => exact .inr ⟨rfl, by simp only [seqOf, e]⟩
  | int i => exact .inr ⟨rfl, rfl⟩
  | bl b => exact .inr ⟨rfl, rfl⟩
  | non => exact .inr ⟨rfl, rfl⟩
  | str x => exact .inr ⟨rfl, rfl⟩
theorem seqOf_lst {H : Hp} {a : Addr} {xs : List V} (h : H a = some (.lst xs)) : seqOf H (.ref a) = some xs := by simp only [seqOf, h]
theorem seqOf_tup {H : Hp} {a : Addr} {xs : List V} (h : H a = some (.tup xs)) : seqOf H (.ref a) = some xs := by simp only [seqOf, h]
theorem Kn.keep {H H' : Hp} {v : V} {T : String} (h : Kn H v T) (k : ∀ a o, v = .ref a → H a = some o → H' a = some o) : Kn H' v T := by
  cases h with
  | non => exact .non
  | bl b => exact .bl b
  | int i => exact .int i
  | str x => exact .str x
  | lst e => exact .lst (k _ _ rfl e)
  | tup e => exact .tup (k _ _ rfl e)
  | dct e => exact .dct (k _ _ rfl e)
theorem Kn.same {H H' : Hp} {v : V} {T : String} (h : Kn H v T) (k : Same H H') : Kn H' v T := h.keep fun a o _ e => k a o e
theorem Kn.seqOf {H H' : Hp} {v : V} {T : String} (h : Kn H v T) (k : Same H H') : seqOf H' v = Q.seqOf H v := by
  cases h with
  | lst e => simp only [Q.seqOf, k _ _ e, e]
  | tup e => simp only [Q.seqOf, k _ _ e, e]
  | dct e => simp only [Q.seqOf, k _ _ e, e]
  | _ => rfl
theorem seqOf_same {H H' : Hp} {v : V} {xs : List V} (h : seqOf H v = some xs) (k : Same H H') : seqOf H' v = some xs := by
  cases v with
  | ref a =>
    simp only [seqOf] at h ⊢
    cases e : H a with
    | none => rw [e] at h; cases h
    | some o =>
      rw [k _ _ e]
      rw [e] at h
      exact h
  | _ => cases h
/-- is_whole(thing, low, high), all three given -/
def spWhole : Sp := fun vs H Q _ => ∃ (v : V) (lo hi : Int) (T : String), vs = [v, .int lo, .int hi] ∧ Kn H v T ∧ Q (.bl (wholeV v lo hi)) H
/-! ### a list or a tuple, whichever -/
def Sq (K : PySem.W.Frag) (H : Hp) (a : Addr) (xs : List V) : Prop := SqL K H a xs ∨ SqT K H a xs
theorem sq_of {K : PySem.W.Frag} {H : Hp} {a : Addr} {xs : List V} (h : H a = some (.lst xs) ∨ H a = some (.tup xs)) : Sq K H a xs := h.elim (fun e => .inl (SqL.of e)) fun e => .inr (SqT.of e)
theorem sqT_same {K : PySem.W.Frag} {H H' : Hp} {a : Addr} {xs : List V} (e : Same H H') (h : SqT K H a xs) : SqT K H' a xs := by
  rcases h with (h | ⟨o, h⟩) | h
  · exact .inl (.inl (e _ _ h))
  · exact .inl (.inr ⟨o, e _ _ h⟩)
  · exact .inr h
theorem Sq.same {K : PySem.W.Frag} {H H' : Hp} {a : Addr} {xs : List V} (h : Sq K H a xs) (e : Same H H') : Sq K H' a xs := h.elim (fun z => .inl (e.seq z)) fun z => .inr (sqT_same e z)
theorem rix_of {K : PySem.W.Frag} {H : Hp} {a : Addr} {xs : List V} {i : Int} {v : V} {R : VK} (h : Sq K H a xs) (e : atI xs i = some v) (q : R v H) : rIx K (.ref a) (.int i) H R :=
  h.elim (fun z => .inl ⟨a, xs, i, v, rfl, rfl, z, e, q⟩) fun z => .inr (.inl ⟨a, xs, i, v, rfl, rfl, z, e, q⟩)
@[irreducible] def rTupOf (K : PySem.W.Frag) : List V → Hp → VK → Prop := fun xs H R => ∃ p ys, xs = [V.ref p] ∧ ((SqL K H p ys ∧ ∀ l, H l = none → R (.ref l) (L2.upd H l (.tup ys))) ∨ (SqT K H p ys ∧ R (.ref p) H))
theorem call_tupOf {X : Cx} : CallR X (.type "tuple") (rTupOf X.K) := by
  unfold rTupOf
  exact call_tuple_of
theorem tupOf_of {K : PySem.W.Frag} {H : Hp} {a : Addr} {xs : List V} {R : VK} (h : Sq K H a xs) (q : ∀ (l : Addr) (H' : Hp), SqT K H' l xs → Same H H' → (∀ b, H b = none → b ≠ l → H' b = none) → R (.ref l) H') : rTupOf K [.ref a] H R := by
  unfold rTupOf
  exact ⟨a, xs, rfl, h.elim (fun z => .inl ⟨z, fun l hl => q l _ (SqT.of upd_same) (same_new hl) fun b e n => by rw [upd_ne n]; exact e⟩) fun z => .inr ⟨z, q a H z (Same.refl H) fun b e _ => e⟩⟩
/-! ### rows of whole numbers as data -/
theorem dpAll_ints {K : PySem.W.Frag} {H : Hp} : ∀ ns : List Int, DpAll K H (ns.map V.int) (ns.map PyData.int)
  | [] => .nil
  | n :: ns => .cons (.int n) (dpAll_ints ns)
theorem lay_ints : ∀ ns : List Int, PyData.canLayAll0 (ns.map PyData.int) = true
  | [] => rfl
  | n :: ns => by
    show (true && PyData.canLayAll0 (ns.map PyData.int)) = true
    rw [lay_ints ns]
    rfl
theorem depth_ints : ∀ ns : List Int, PyData.depthAll (ns.map PyData.int) = 0
  | [] => rfl
  | n :: ns => by
    show max 0 (PyData.depthAll (ns.map PyData.int)) = 0
    rw [depth_ints ns]
    rfl
theorem shaped_ints (ns : List Int) : SeqAt.shaped (.tuple (ns.map PyData.int)) = true := by
  show (PyData.canLayAll0 (ns.map PyData.int) && decide (PyData.depthAll (ns.map PyData.int) + 1 ≤ 64)) = true
  rw [lay_ints, depth_ints]
  rfl
theorem eqvAll_ints : ∀ ns ms : List Int, PyData.eqvAll (ns.map PyData.int) (ms.map PyData.int) = decide (ns = ms)
  | [], [] => rfl
  | [], _ :: _ => rfl
  | _ :: _, [] => rfl
  | n :: ns, m :: ms => by
    show ((n == m) && PyData.eqvAll (ns.map PyData.int) (ms.map PyData.int)) = _
    rw [eqvAll_ints ns ms]
    by_cases h : n = m
    · subst h
      rw [beq_self_eq_true, Bool.true_and]
      by_cases h2 : ns = ms
      · rw [decide_eq_true h2, h2]
        exact (decide_eq_true rfl).symm
      · rw [decide_eq_false h2]
        exact (decide_eq_false fun z => h2 (List.cons.inj z).2).symm
    · rw [beq_eq_false_iff_ne.mpr h, Bool.false_and]
      exact (decide_eq_false fun z => h (List.cons.inj z).1).symm
theorem eqv_ints (ns ms : List Int) : PyData.eqv (.tuple (ns.map PyData.int)) (.tuple (ms.map PyData.int)) = decide (ns = ms) := eqvAll_ints ns ms
theorem dp_ints {K : PySem.W.Frag} {H : Hp} {p : Addr} {ns : List Int} (h : SqT K H p (ns.map V.int)) : Dp K H (.ref p) (.tuple (ns.map PyData.int)) := .tup h (dpAll_ints ns)
theorem ix_nat {n j : Nat} (h : j < n) : ixN n (j : Int) = some j := by
  unfold ixN
  rw [if_pos (by omega), if_pos (by omega), Int.toNat_natCast]
/-- tuple(a list that stands) is new -/
theorem tupL_of {K : PySem.W.Frag} {H : Hp} {a : Addr} {xs : List V} {R : VK} (h : SqL K H a xs) (q : ∀ l : Addr, H l = none → R (.ref l) (L2.upd H l (.tup xs))) : rTupOf K [.ref a] H R := by
  unfold rTupOf
  exact ⟨a, xs, rfl, .inl ⟨h, q⟩⟩
/-! ### data stand where what was tracked stands -/
mutual
theorem dp_same {K : PySem.W.Frag} {H H' : Hp} (e : Same H H') : ∀ (d : PyData) (v : V), Dp K H v d → Dp K H' v d
  | .none, _, h => by
    cases h
    exact .non
  | .bool b, _, h => by
    cases h
    exact .bl b
  | .int i, _, h => by
    cases h
    exact .int i
  | .str x, _, h => by
    cases h
    exact .str x
  | .list ds, _, h => by
    cases h with
    | lst s a => exact .lst (e.seq s) (dpAll_same e ds _ a)
  | .tuple ds, _, h => by
    cases h with
    | tup s a => exact .tup (sqT_same e s) (dpAll_same e ds _ a)
  | .dict _, _, h => by cases h
theorem dpAll_same {K : PySem.W.Frag} {H H' : Hp} (e : Same H H') : ∀ (ds : List PyData) (vs : List V), DpAll K H vs ds → DpAll K H' vs ds
  | [], _, h => by
    cases h
    exact .nil
  | d :: ds, _, h => by
    cases h with
    | cons a b => exact .cons (dp_same e d _ a) (dpAll_same e ds _ b)
end
end Q

set_option maxRecDepth 100000
set_option maxHeartbeats 4000000
/-! Loops and zips over a list or a tuple, whichever it is. -/
namespace Q
open PySem PySem.Spec PyProof.Rows L2
/-- a list (true), a tuple (false) -/
def SqB (k : Bool) (K : PySem.W.Frag) (H : Hp) (a : Addr) (xs : List V) : Prop := match k with
  | true => SqL K H a xs
  | false => SqT K H a xs
theorem Sq.b {K : PySem.W.Frag} {H : Hp} {a : Addr} {xs : List V} (h : Sq K H a xs) : ∃ k, SqB k K H a xs := h.elim (fun z => ⟨true, z⟩) fun z => ⟨false, z⟩
theorem SqB.sq {k : Bool} {K : PySem.W.Frag} {H : Hp} {a : Addr} {xs : List V} (h : SqB k K H a xs) : Sq K H a xs := match k, h with
  | true, h => .inl h
  | false, h => .inr h
theorem SqB.same {k : Bool} {K : PySem.W.Frag} {H H' : Hp} {a : Addr} {xs : List V} (h : SqB k K H a xs) (e : Same H H') : SqB k K H' a xs := match k, h with
  | true, h => e.seq h
  | false, h => sqT_same e h
def ItS (k : Bool) (K : PySem.W.Frag) (a : Addr) : It := match k with
  | true => Itl K a
  | false => Itt K a
def iSeq (K : PySem.W.Frag) (tl : TE) : TI := fun σ H R => tl σ H fun x H1 => ∃ a xs k, x = .ref a ∧ SqB k K H1 a xs ∧ R (ItS k K a) H1
section
variable {X : Cx} {tg : Expr}
theorem pi_seq {l : Expr} {tl : TE} (hl : PE X l tl) : PI X tg l (iSeq X.K tl) := by
  refine ⟨fun pins s σ H R I h => ?_⟩
  refine thn (hl.run pins s σ H _ I h) fun v s1 ⟨x, H1, I1, r1, q1⟩ => ?_
  obtain ⟨a, xs, k, e, hq, q⟩ := q1
  subst e
  cases r1
  have new : ∀ b ∈ [s1.heap.objs.size], FpOk X pins H1 b := fun b hb => by
    have e : b = s1.heap.objs.size := by simpa using hb
    subst e
    exact I1.fpOk (Nat.le_refl _) (I1.hok.fresh (Nat.le_refl _))
  cases k with
  | true =>
    obtain ⟨its, rv, p, hz⟩ := I1.list hq
    refine wpAny_pyIter_list p.isList ?_
    exact ⟨s1.heap.objs.size, [s1.heap.objs.size], _, _, H1, rfl, I1.kept (t' := s1.toks) fun b o e => Heap.get?_push_of_some _ e, turn_list a _, ⟨_, Heap.get?_push_size _ rfl, rfl, rfl⟩, new, q⟩
  | false =>
    obtain ⟨its, rv, p, hz⟩ := I1.tuple hq
    refine wpAny_pyIter_tuple (show s1.heap.IsTuple a its.toArray from p) ?_
    exact ⟨s1.heap.objs.size, [s1.heap.objs.size], _, _, H1, rfl, I1.kept (t' := s1.toks) fun b o e => Heap.get?_push_of_some _ e, turn_tuple a _, ⟨_, Heap.get?_push_size _ rfl, rfl, rfl⟩, new, q⟩
end
theorem for_seq {K : PySem.W.Frag} {k : Bool} {a : Addr} {xs : List V} {g : TG} {tb : TS} {D : Ends} {σ : L2.St} {H : Hp} (Pv : Nat → L2.St → Hp → Prop) (h0 : Pv 0 σ H) (hl : ∀ i σ H, i ≤ xs.length → Pv i σ H → SqB k K H a xs)
    (hs : ∀ i x σ H, xs[i]? = some x → Pv i σ H → g x σ H fun σ2 H2 => tb { D with nx := Pv (i + 1), ct := Pv (i + 1), bk := D.nx } σ2 H2) (hd : ∀ σ H, Pv xs.length σ H → D.nx σ H) :
    ∃ W : Nat → Nat → L2.St → Hp → Prop, (∃ m, W 0 m σ H) ∧ ∀ i m σ H, W i m σ H →
      ((ItS k K a).stop i H ∧ D.nx σ H) ∨ ((ItS k K a).go i H ∧ ∃ N : L2.St → Hp → Prop, (∀ σ' H', N σ' H' → ∃ m', m' < m ∧ W (i + 1) m' σ' H') ∧ ∀ x H', (ItS k K a).yld i H x H' → g x σ H' fun σ2 H2 => tb { D with nx := N, ct := N, bk := D.nx } σ2 H2) := by
  cases k with
  | true => exact for_list Pv h0 hl hs hd
  | false => exact for_tup Pv h0 hl hs hd
/-! ### zip -/
def itB (k : Bool) (h : Heap) (it l : Addr) (i : Nat) : Prop := match k with
  | true => h.IsListIter it l i
  | false => h.IsTupleIter it l i
def isB (k : Bool) (h : Heap) (l : Addr) (its : List Value) : Prop := match k with
  | true => h.IsList l its.toArray
  | false => h.IsTuple l its.toArray
theorem drawsB {P : Program} {w : World} {A : Around} {k : Bool} {it l : Addr} {its : List Value} (hh : A.handled = none) (ne : l ≠ it) :
    Draws P w A it [it, l] its.length (fun i v => its[i]? = some v) (fun i h => itB k h it l i ∧ isB k h l its) := by
  cases k with
  | true =>
    have D := Draws.list (prog := P) (w := w) hh it l ne its.toArray
    simp only [List.size_toArray, List.getElem?_toArray] at D
    exact D
  | false =>
    have D := Draws.tuple (prog := P) (w := w) hh it l ne its.toArray
    simp only [List.size_toArray, List.getElem?_toArray] at D
    exact D
theorem seqB {X : Cx} {pins : List (Addr × Obj)} {σ : L2.St} {H : Hp} {s : Shared} {k : Bool} {a : Addr} {xs : List V} (I : Inv X pins σ H s) (h : SqB k X.K H a xs) : ∃ its, Vals xs its ∧ isB k s.heap a its ∧ a < s.heap.objs.size := by
  cases k with
  | true =>
    obtain ⟨its, rv, p, _⟩ := I.list h
    exact ⟨its, rv, p.isList, p.lt⟩
  | false =>
    obtain ⟨its, rv, p, _⟩ := I.tuple h
    obtain ⟨o, ho, _⟩ := id p
    exact ⟨its, rv, p, Heap.lt_size ho⟩
theorem seqB_inj {X : Cx} {pins : List (Addr × Obj)} {σ : L2.St} {H : Hp} {s : Shared} {k : Bool} {a : Addr} {xs ys : List V} (I : Inv X pins σ H s) (h : SqB k X.K H a xs) (h' : SqB k X.K H a ys) : ys = xs := by
  cases k with
  | true => exact I.list_inj h' h
  | false => exact I.tuple_inj h' h
/-- the two as they stand at each turn, the items in new pairs -/
def ItzS (k1 k2 : Bool) (K : PySem.W.Frag) (a b : Addr) : It :=
  ⟨fun i H => ∃ (xs ys : List V) (x y : V), SqB k1 K H a xs ∧ SqB k2 K H b ys ∧ xs[i]? = some x ∧ ys[i]? = some y,
    fun i H v H' => ∃ T x y, v = .ref T ∧ H T = none ∧ H' = upd H T (.tup [x, y]) ∧ (∀ xs, SqB k1 K H a xs → xs[i]? = some x) ∧ ∀ ys, SqB k2 K H b ys → ys[i]? = some y,
    fun i H => ∃ xs ys : List V, SqB k1 K H a xs ∧ SqB k2 K H b ys ∧ xs.length = i ∧ ys.length = i⟩
theorem itB_at {k : Bool} {h h' : Heap} {it l : Addr} {i : Nat} (st : itB k h it l i) (q : ∀ o, h.get? it = some o → h'.get? it = some o) : itB k h' it l i := by
  cases k with
  | true => exact Heap.IsListIter.at st q
  | false => exact Heap.IsTupleIter.at st q
theorem itB_ob {k : Bool} {h : Heap} {it l : Addr} {i : Nat} (st : itB k h it l i) : ∃ o, h.get? it = some o ∧ ∀ v, o.data ≠ .cell v := by
  cases k with
  | true =>
    obtain ⟨o, e, _, d⟩ := st
    exact ⟨o, e, fun v q => by rw [d] at q; cases q⟩
  | false =>
    obtain ⟨o, e, _, d⟩ := st
    exact ⟨o, e, fun v q => by rw [d] at q; cases q⟩
theorem turn_zipS {P : Program} {w : World} {K : PySem.W.Frag} {elts : List Expr} {kk : Nat} {tpos : Pos} {k1 k2 : Bool} {a b z TI TO i1 i2 : Addr} (S : ZipSep2 z TI TO i1 i2 [i1, a] [i2, b]) (n1 : a ≠ i1) (n2 : b ≠ i2) :
    Turn P w K (.Tuple elts kk tpos) (ItzS k1 k2 K a b) [z, TI, TO, i1, i2] z (fun i h => IsZip h z TI TO .none ∧ IsTupOf2 h TI (.ref i1) (.ref i2) ∧ (∃ x y, IsTupOf2 h TO x y) ∧ itB k1 h i1 a i ∧ itB k2 h i2 b i) where
  mem := by simp
  obj := fun i h st c hc => by
    obtain ⟨hz, hTI, ⟨x, y, hTO⟩, t1, t2⟩ := st
    have e' : c = z ∨ c = TI ∨ c = TO ∨ c = i1 ∨ c = i2 := by simpa using hc
    rcases e' with rfl | rfl | rfl | rfl | rfl
    · exact ⟨_, hz, fun v q => nomatch q⟩
    · exact ⟨_, hTI, fun v q => nomatch q⟩
    · exact ⟨_, hTO, fun v q => nomatch q⟩
    · exact itB_ob t1
    · exact itB_ob t2
  keep := fun i h h' st k => by
    obtain ⟨hz, hTI, ⟨x, y, hTO⟩, h1, h2⟩ := st
    exact ⟨k z (by simp) _ hz, k TI (by simp) _ hTI, ⟨x, y, k TO (by simp) _ hTO⟩, itB_at h1 fun o q => k i1 (by simp) o q, itB_at h2 fun o q => k i2 (by simp) o q⟩
  item := by
    intro X hP hw hK hc i pins s σ H E I hf st hg
    subst hP hw hK
    obtain ⟨hz, hTI, ⟨x0, y0, hTO⟩, h1, h2⟩ := st
    obtain ⟨xs, ys, x, y, hqx, hqy, hx, hy⟩ := hg
    obtain ⟨its, rv, p, _⟩ := seqB I hqx
    obtain ⟨its2, rv2, p2, _⟩ := seqB I hqy
    obtain ⟨u, hu, ru⟩ := rv.get hx
    obtain ⟨u2, hu2, ru2⟩ := rv2.get hy
    have hzl : z < s.heap.objs.size := Heap.lt_size hz
    have hh : X.A.in1.handled = none := I.ok.hd hc
    refine wpAny_pyNext_zipD2_item S (drawsB (k := k1) (its := its) hh n1) (drawsB (k := k2) (its := its2) hh n2) hz hTI hTO ⟨h1, p⟩ ⟨h2, p2⟩ (List.getElem?_eq_some_iff.mp hu).1 (List.getElem?_eq_some_iff.mp hu2).1
      fun v1 v2 h' tk e1 e2 z' TO' st1 st2 hT hsz hk => ?_
    obtain rfl : u = v1 := Option.some.inj (hu.symm.trans e1)
    obtain rfl : u2 = v2 := Option.some.inj (hu2.symm.trans e2)
    refine ⟨_, rfl, wpAny_letOwnedTupleGo_zip (s := { s with heap := h', toks := tk }) z' fun h'' z'' sb => ?_⟩
    have hT2 : h''.get? s.heap.objs.size = some { cls := .type "tuple", data := .seq #[u, u2] } := (sb.2 _ (Nat.ne_of_gt hzl)).trans hT
    have new : ObjOk X.prog X.w (upd H s.heap.objs.size (.tup [x, y])) h'' s.heap.objs.size (.tup [x, y]) :=
      ⟨by show 2 ≤ sizeLine; decide, [u, u2], .cons ru (.cons ru2 .nil), ⟨_, hT2, rfl, _, rfl⟩⟩
    have I1 : Inv X pins σ (upd H s.heap.objs.size (.tup [x, y])) { s with heap := h'', toks := tk } :=
      I.turnedNew (t' := tk) (ch := [z, TI, TO, i1, i2]) (fun c o hb q => (sb.2 c (fun q' => hb (by simp [q']))).trans (hk c o (fun q' => hb (by simp [q'])) (fun q' => hb (by simp [q'])) (fun q' => hb (by simp [q'])) (fun q' => hb (by simp [q'])) q)) hf (Nat.le_refl _) new
    refine ⟨.ref s.heap.objs.size, _, I1, rfl, ⟨_, x, y, rfl, I.hok.fresh (Nat.le_refl _), rfl, fun l hl => by rw [seqB_inj I hqx hl]; exact hx, fun l hl => by rw [seqB_inj I hqy hl]; exact hy⟩, ⟨z'', ?_, ⟨u, u2, ?_⟩, ?_, ?_⟩, fun c hcm => ?_⟩
    · exact (sb.2 _ S.TIz).trans (hk _ _ S.TIz S.TITO S.TIi1 S.TIi2 hTI)
    · exact (sb.2 _ S.TOz).trans TO'
    · exact itB_at st1.1 fun o q => (sb.2 _ S.zi1.symm).trans q
    · exact itB_at st2.1 fun o q => (sb.2 _ S.zi2.symm).trans q
    · have hlt : c < s.heap.objs.size := by
        have e' : c = z ∨ c = TI ∨ c = TO ∨ c = i1 ∨ c = i2 := by simpa using hcm
        rcases e' with rfl | rfl | rfl | rfl | rfl
        · exact hzl
        · exact Heap.lt_size hTI
        · exact Heap.lt_size hTO
        · obtain ⟨_, e1, _⟩ := itB_ob h1; exact Heap.lt_size e1
        · obtain ⟨_, e1, _⟩ := itB_ob h2; exact Heap.lt_size e1
      rw [upd_ne (Nat.ne_of_lt hlt)]
      exact (hf c hcm).1
  done := by
    intro X hP hw hK hc i pins s σ H E I hf st hg
    subst hP hw hK
    obtain ⟨hz, hTI, ⟨x0, y0, hTO⟩, h1, h2⟩ := st
    obtain ⟨xs, ys, hqx, hqy, e1, e2⟩ := hg
    obtain ⟨its, rv, p, _⟩ := seqB I hqx
    obtain ⟨its2, rv2, p2, _⟩ := seqB I hqy
    have l1 := rv.length
    have l2 := rv2.length
    have hh : X.A.in1.handled = none := I.ok.hd hc
    exact wpAny_pyNext_zipD2_end S (drawsB (k := k1) (its := its) hh n1) (drawsB (k := k2) (its := its2) hh n2) hz hTI hTO ⟨h1, p⟩ ⟨h2, p2⟩ (by omega) (by omega) (.inl (by omega)) fun h' tk hk => ⟨rfl, I.turnedL (t' := tk) (ch := [z, TI, TO, i1, i2]) (fun c o hb q =>
      hk c o (fun q' => hb (by simp [q'])) (fun q' => hb (by simp [q'])) (fun q' => hb (by simp [q'])) (fun q' => hb (by simp [q'])) q) hf⟩
  self := fun A i s Q E st h => wpAny_pyIter_zip st.1 h
def obB (k : Bool) (l : Addr) : Obj := match k with
  | true => { cls := .type "list_iterator", data := .fields #[.ref l, .int 0 0] }
  | false => { cls := .type "tuple_iterator", data := .fields #[.ref l, .int 0 0] }
theorem beginsB {k : Bool} {l : Addr} {its : List Value} : Begins (.ref l) (obB k l) fun h => isB k h l its := by
  cases k with
  | true => exact begins_list l its.toArray
  | false => exact begins_tuple l its.toArray
theorem itB_new {k : Bool} {h : Heap} {it l : Addr} (e : h.get? it = some (obB k l)) : itB k h it l 0 := by
  cases k with
  | true => exact ⟨_, e, rfl, rfl⟩
  | false => exact ⟨_, e, rfl, rfl⟩
def iZipS (K : PySem.W.Frag) (ta : TA) : TI := fun σ H R => ta σ H fun vs H1 => ∃ a b xs ys k1 k2, vs = [.ref a, .ref b] ∧ SqB k1 K H1 a xs ∧ SqB k2 K H1 b ys ∧ R (ItzS k1 k2 K a b) H1
theorem pi_zipS {X : Cx} {e e2 : Expr} {ta : TA} {p pos tpos : Pos} {elts : List Expr} {kk : Nat} (hg : Gl X "zip") (hm : X.mg "zip" = none) (ha : PA X [e, e2] ta)
    (hs : starEach [e, e2] X.env = (false, eval e X.env) :: starEach [e2] X.env := by rfl) (hpl : (backTo pos (starEach [e2] X.env)).any (·.1) = false := by rfl) :
    PI X (.Tuple elts kk tpos) (.Call (.Name "zip" p) [e, e2] [] pos) (iZipS X.K ta) := by
  refine ⟨fun pins s σ H R I h => ?_⟩
  refine Call_ (ld_blt I hg hm PyProof.Rows.boot_zip (PyProof.Rows.callWith_type1 (thn (ha.run pos pins s σ H _ I h) fun us s1 ⟨vs, H1, I1, r1, q1⟩ => ?_) hs hpl))
  obtain ⟨a, b, xs, ys, k1, k2, rfl, hqx, hqy, q⟩ := q1
  obtain ⟨u1, u2, rfl, rr1, rr2⟩ := vals2 r1
  obtain rfl : u1 = Value.ref a := rr1
  obtain rfl : u2 = Value.ref b := rr2
  obtain ⟨its, rv, p1, la⟩ := seqB I1 hqx
  obtain ⟨its2, rv2, p2, lb⟩ := seqB I1 hqy
  refine zip_begins2 (beginsB (k := k1)) (beginsB (k := k2)) p1 p2 fun h' hz hTI hTO g1 g2 hsz hk => wpAny_pyIter_zip hz ?_
  have I2 : Inv X pins σ H1 { s1 with heap := h' } := I1.kept (t' := s1.toks) hk
  refine ⟨s1.heap.objs.size + 4, [s1.heap.objs.size + 4, s1.heap.objs.size + 2, s1.heap.objs.size + 3, s1.heap.objs.size, s1.heap.objs.size + 1], _, _, H1, rfl, I2,
    turn_zipS (zip_sep2 (fp1 := [a]) (fp2 := [b]) (fun c hc => by obtain rfl := List.mem_singleton.mp hc; exact la) (fun c hc => by obtain rfl := List.mem_singleton.mp hc; exact lb)) (Nat.ne_of_lt la) (Nat.ne_of_lt (Nat.lt_succ_of_lt lb)), ⟨hz, hTI, ⟨_, _, hTO⟩, itB_new g1, itB_new g2⟩, fun c hcm => ?_, q⟩
  have e' : c = s1.heap.objs.size + 4 ∨ c = s1.heap.objs.size + 2 ∨ c = s1.heap.objs.size + 3 ∨ c = s1.heap.objs.size ∨ c = s1.heap.objs.size + 1 := by simpa using hcm
  have hle : s1.heap.objs.size ≤ c := by
    rcases e' with z | z | z | z | z
    · rw [z]; exact Nat.le_add_right _ _
    · rw [z]; exact Nat.le_add_right _ _
    · rw [z]; exact Nat.le_add_right _ _
    · rw [z]; exact Nat.le_refl _
    · rw [z]; exact Nat.le_add_right _ _
  exact I1.fpOk hle (I1.hok.fresh hle)
/-- a loop over zip of two of one length -/
theorem for_zipS {K : PySem.W.Frag} {k1 k2 : Bool} {a b : Addr} {xs ys : List V} {g : TG} {tb : TS} {D : Ends} {σ : L2.St} {H : Hp} (hl : xs.length = ys.length) (Pv : Nat → L2.St → Hp → Prop) (h0 : Pv 0 σ H) (hq : ∀ i σ H, Pv i σ H → SqB k1 K H a xs ∧ SqB k2 K H b ys)
    (hs : ∀ (i : Nat) (x y : V) (T : Addr) (σ : L2.St) (H : Hp), xs[i]? = some x → ys[i]? = some y → Pv i σ H → H T = none → g (.ref T) σ (upd H T (.tup [x, y])) fun σ2 H2 => tb { D with nx := Pv (i + 1), ct := Pv (i + 1), bk := D.nx } σ2 H2) (hd : ∀ σ H, Pv xs.length σ H → D.nx σ H) :
    ∃ W : Nat → Nat → L2.St → Hp → Prop, (∃ m, W 0 m σ H) ∧ ∀ i m σ H, W i m σ H →
      ((ItzS k1 k2 K a b).stop i H ∧ D.nx σ H) ∨ ((ItzS k1 k2 K a b).go i H ∧ ∃ N : L2.St → Hp → Prop, (∀ σ' H', N σ' H' → ∃ m', m' < m ∧ W (i + 1) m' σ' H') ∧ ∀ v H', (ItzS k1 k2 K a b).yld i H v H' → g v σ H' fun σ2 H2 => tb { D with nx := N, ct := N, bk := D.nx } σ2 H2) := by
  refine ⟨fun i m σ H => m = xs.length - i ∧ i ≤ xs.length ∧ Pv i σ H, ⟨xs.length, rfl, Nat.zero_le _, h0⟩, ?_⟩
  rintro i m σ H ⟨rfl, hi, p⟩
  obtain ⟨qx, qy⟩ := hq i σ H p
  by_cases hlt : i < xs.length
  · have hx : xs[i]? = some xs[i] := List.getElem?_eq_getElem hlt
    have hlt2 : i < ys.length := by omega
    have hy : ys[i]? = some ys[i] := List.getElem?_eq_getElem hlt2
    refine .inr ⟨⟨xs, ys, _, _, qx, qy, hx, hy⟩, Pv (i + 1), fun σ' H' p' => ⟨xs.length - (i + 1), by omega, rfl, hlt, p'⟩, fun v H' y => ?_⟩
    obtain ⟨T, x', y', rfl, hT, rfl, f1, f2⟩ := y
    exact hs i x' y' T σ H (f1 xs qx) (f2 ys qy) p hT
  · obtain rfl : i = xs.length := by omega
    exact .inl ⟨⟨xs, ys, qx, qy, rfl, by omega⟩, hd σ H p⟩
end Q

set_option maxRecDepth 100000
set_option maxHeartbeats 4000000
/-! More that the laws share: own errors without arguments, repr of any data, small data, whole numbers in rows. -/
namespace Q
open PySem PySem.Spec PyProof.Rows L2
/-- X(), X an own exception class without own __init__ -/
theorem pmk_own0 {X : Cx} {C : Addr} {x : Str} {p pos : Pos} (q : PySem.W.excIn X.K C He.veBase "ValueError.__new__" = true) (gC : X.mg x = some (.ref C)) (kC : PySem.W.keepIn X.K (.ref C) = true) (r : Raises X (.ref C)) (hg : Gl X x := by rfl)
    (hdb : (x == ("__debug__" : Str)) = false := by decide) : PMk X (.Call (.Name x p) [] [] pos) (fun _ H Q => Q (.ref C) none H) := by
  intro pins s σ H Q I h
  refine wpAny_Call_Name_kw (ld_glob I hg gC ?_ hdb)
  refine PySem.W.callWith_K0 I.kIn kC ?_
  show wpAny _ _ (call (.ref C) []) _ _ _
  obtain ⟨bm, N, nm, qn, bs, hdct, sn, sub, ab, col, dd, k0, k1, k2, k3, k5, mN, hC, hN, hni, T⟩ := exc_obj I.kIn q
  refine wpAny_call_exc_subT PySem.F.excBase_ValueError T hC hN hni (fun h' e hm => ?_) (by show 0 ≤ sizeLine; exact Nat.zero_le _)
  exact mk_of I hm r h (I.hok.gone hm.new)
/-- repr of data: asked where no repr runs around -/
def rReprV (K : PySem.W.Frag) : List V → Hp → VK → Prop := fun xs H Q => ∃ (x : V) (d : PyData), xs = [x] ∧ Dp K H x d ∧ d.showable = true ∧ d.hasDict = false ∧ d.depth ≤ 60 ∧ d.shown.length ≤ sizeLine ∧ Q (.str d.shown) H
theorem call_reprV {X : Cx} (hg : X.A.guards = some []) (hu : X.A.units + 64 < cLine) : CallR X (.builtin "repr") (rReprV X.K) := by
  intro pins s σ H xs us Q I r h
  obtain ⟨x, d, rfl, hD, hs, hno, hdp, hl, q⟩ := h
  obtain ⟨u, rfl, r1⟩ := vals1 r
  have D := hD
  cases hD with
  | non =>
    obtain rfl : u = Value.none := r1
    exact PySem.P.repr_of_none ⟨.str _, H, I.tok _, ⟨_, rfl⟩, q⟩
  | bl b =>
    obtain rfl : u = Value.bool b := r1
    exact PySem.P.repr_of_bool ⟨.str _, H, I.tok _, ⟨_, by cases b <;> rfl⟩, q⟩
  | int i =>
    obtain ⟨t, rfl⟩ := r1
    exact PySem.P.repr_of_int (of_decide_eq_true hs) ⟨.str _, H, I.tok _, ⟨_, rfl⟩, q⟩
  | str z =>
    obtain ⟨t, rfl⟩ := r1
    exact PySem.P.repr_of_str ⟨.str _, H, I.tok _, ⟨_, rfl⟩, q⟩ hl
  | lst hq da =>
    exact call_reprD hg hu pins s σ H _ _ Q I r ⟨_, _, rfl, D, ⟨_, rfl⟩, hs, hno, hdp, hl, q⟩
  | tup hq da =>
    exact call_reprD hg hu pins s σ H _ _ Q I r ⟨_, _, rfl, D, ⟨_, rfl⟩, hs, hno, hdp, hl, q⟩
theorem call_reprVS {X : Cx} {a : Addr} {pn : List (Addr × Obj)} (hg : X.A.guards = some []) (hu : X.A.units + 64 < cLine) : CallR (X.suite a pn) (.builtin "repr") (rReprV X.K) := call_reprV (X := X.suite a pn) hg hu
/-! ### whole numbers, with bounds or without -/
def loB (lo : V) (i : Int) : Bool := match lo with
  | .int l => decide (l ≤ i)
  | _ => true
def hiB (hi : V) (i : Int) : Bool := match hi with
  | .int h => decide (i ≤ h)
  | _ => true
def wholeG (v lo hi : V) : Bool := match v with
  | .int i => loB lo i && hiB hi i
  | _ => false
def Bnd (v : V) : Prop := v = .non ∨ ∃ i, v = .int i
theorem wholeG_int {v : V} {lo hi : Int} : wholeG v (.int lo) (.int hi) = wholeV v lo hi := by cases v <;> rfl
theorem wholeG_no {v lo hi : V} (h : ∀ i, v ≠ .int i) : wholeG v lo hi = false := by
  cases v with
  | int i => exact absurd rfl (h i)
  | _ => rfl
def spWholeG : Sp := fun vs H Q _ => ∃ (v lo hi : V) (T : String), vs = [v, lo, hi] ∧ Kn H v T ∧ Bnd lo ∧ Bnd hi ∧ Q (.bl (wholeG v lo hi)) H
/-! ### rows and their numbers; both read from the back -/
def prodR : List Int → Int
  | [] => 1
  | w :: ws => prodR ws * w
def numR : List Int → List Int → Int
  | w :: ws, v :: vs => numR ws vs * w + v
  | _, _ => 0
def digs : List Int → Int → List Int
  | [], _ => []
  | w :: ws, n => n % w :: digs ws (n / w)
def quoR : List Int → Int → Int
  | [], n => n
  | w :: ws, n => quoR ws (n / w)
/-- each in its width -/
def InR : List Int → List Int → Prop
  | [], [] => True
  | w :: ws, v :: vs => 0 ≤ v ∧ v < w ∧ InR ws vs
  | _, _ => False
theorem InR.len : ∀ {ws vs : List Int}, InR ws vs → vs.length = ws.length
  | [], [], _ => rfl
  | [], _ :: _, h => h.elim
  | _ :: _, [], h => h.elim
  | _ :: ws, _ :: vs, h => by
    have := InR.len (ws := ws) (vs := vs) h.2.2
    simp [this]
theorem InR.get : ∀ {ws vs : List Int} {i : Nat} {w v : Int}, InR ws vs → ws[i]? = some w → vs[i]? = some v → 0 ≤ v ∧ v < w
  | [], _, _, _, _, _, h, _ => by simp at h
  | _ :: _, [], _, _, _, h, _, _ => h.elim
  | a :: ws, b :: vs, 0, w, v, h, h1, h2 => by
    simp at h1 h2
    subst h1 h2
    exact ⟨h.1, h.2.1⟩
  | a :: ws, b :: vs, i + 1, w, v, h, h1, h2 => InR.get (ws := ws) (vs := vs) (i := i) h.2.2 (by simpa using h1) (by simpa using h2)
theorem InR.of_get : ∀ {ws vs : List Int}, vs.length = ws.length → (∀ (i : Nat) (w v : Int), ws[i]? = some w → vs[i]? = some v → 0 ≤ v ∧ v < w) → InR ws vs
  | [], [], _, _ => trivial
  | [], _ :: _, h, _ => by simp at h
  | _ :: _, [], h, _ => by simp at h
  | a :: ws, b :: vs, h, k => by
    have z := k 0 a b rfl rfl
    exact ⟨z.1, z.2, InR.of_get (by simpa using h) fun i w v h1 h2 => k (i + 1) w v (by simpa using h1) (by simpa using h2)⟩
theorem InR.rev {ws vs : List Int} (h : InR ws vs) : InR ws.reverse vs.reverse := by
  have hl := h.len
  refine InR.of_get (by rw [List.length_reverse, List.length_reverse, hl]) fun i w v h1 h2 => ?_
  have hi : i < ws.length := by
    have := (List.getElem?_eq_some_iff.mp h1).1
    rwa [List.length_reverse] at this
  rw [List.getElem?_reverse hi] at h1
  rw [List.getElem?_reverse (by omega), hl] at h2
  exact h.get h1 h2
theorem num_bounds : ∀ {ws vs : List Int}, InR ws vs → 0 ≤ numR ws vs ∧ numR ws vs < prodR ws
  | [], [], _ => ⟨Int.le_refl _, by decide⟩
  | [], _ :: _, h => h.elim
  | _ :: _, [], h => h.elim
  | w :: ws, v :: vs, ⟨h0, h1, h⟩ => by
    obtain ⟨a, b⟩ := num_bounds (ws := ws) (vs := vs) h
    show 0 ≤ numR ws vs * w + v ∧ numR ws vs * w + v < prodR ws * w
    have w0 : 0 < w := by omega
    have e1 : 0 ≤ numR ws vs * w := Int.mul_nonneg a (Int.le_of_lt w0)
    have e2 : (numR ws vs + 1) * w ≤ prodR ws * w := Int.mul_le_mul_of_nonneg_right (by omega) (Int.le_of_lt w0)
    rw [Int.add_mul, Int.one_mul] at e2
    constructor <;> omega
theorem digs_num : ∀ {ws vs : List Int}, InR ws vs → digs ws (numR ws vs) = vs
  | [], [], _ => rfl
  | [], _ :: _, h => h.elim
  | _ :: _, [], h => h.elim
  | w :: ws, v :: vs, ⟨h0, h1, h⟩ => by
    have e1 : (numR ws vs * w + v) % w = v := by
      rw [Int.add_comm, Int.add_mul_emod_self_right]
      exact Int.emod_eq_of_lt h0 h1
    have e2 : (numR ws vs * w + v) / w = numR ws vs := by
      rw [Int.add_comm, Int.add_mul_ediv_right _ _ (by omega), Int.ediv_eq_zero_of_lt h0 h1, Int.zero_add]
    show (numR ws vs * w + v) % w :: digs ws ((numR ws vs * w + v) / w) = v :: vs
    rw [e1, e2, digs_num h]
theorem digs_len : ∀ (ws : List Int) (n : Int), (digs ws n).length = ws.length
  | [], _ => rfl
  | w :: ws, n => by
    show (digs ws (n / w)).length + 1 = ws.length + 1
    rw [digs_len]
theorem digs_in : ∀ {ws : List Int} {n : Int}, (∀ w ∈ ws, 0 < w) → 0 ≤ n → n < prodR ws → InR ws (digs ws n) ∧ numR ws (digs ws n) = n
  | [], n, _, h0, h1 => ⟨trivial, by
    have : n < 1 := h1
    show (0 : Int) = n
    omega⟩
  | w :: ws, n, hw, h0, h1 => by
    have w0 : 0 < w := hw w List.mem_cons_self
    have q0 : 0 ≤ n / w := Int.ediv_nonneg h0 (Int.le_of_lt w0)
    have q1 : n / w < prodR ws := Int.ediv_lt_of_lt_mul w0 h1
    obtain ⟨a, b⟩ := digs_in (ws := ws) (n := n / w) (fun x m => hw x (List.mem_cons_of_mem _ m)) q0 q1
    refine ⟨⟨Int.emod_nonneg _ (by omega), Int.emod_lt_of_pos _ w0, a⟩, ?_⟩
    show numR ws (digs ws (n / w)) * w + n % w = n
    rw [b, Int.mul_comm]
    exact Int.mul_ediv_add_emod n w
theorem digs_snoc : ∀ (ws : List Int) (w n : Int), digs (ws ++ [w]) n = digs ws n ++ [quoR ws n % w] ∧ quoR (ws ++ [w]) n = quoR ws n / w
  | [], w, n => ⟨rfl, rfl⟩
  | a :: ws, w, n => by
    obtain ⟨e1, e2⟩ := digs_snoc ws w (n / a)
    exact ⟨by show n % a :: digs (ws ++ [w]) (n / a) = n % a :: (digs ws (n / a) ++ [quoR ws (n / a) % w]); rw [e1], e2⟩
theorem prodR_pos : ∀ {ws : List Int}, (∀ w ∈ ws, 0 < w) → 0 < prodR ws
  | [], _ => by decide
  | w :: ws, h => Int.mul_pos (prodR_pos fun x m => h x (List.mem_cons_of_mem _ m)) (h w List.mem_cons_self)
theorem take_rev {α : Type} {l : List α} {i : Nat} {x : α} (h : l[i]? = some x) : (l.take (i + 1)).reverse = x :: (l.take i).reverse := by
  rw [List.take_add_one, h, List.reverse_append]
  rfl
theorem getMap {ws : List Int} {i : Nat} {x : V} (h : (ws.map V.int)[i]? = some x) : ∃ w, ws[i]? = some w ∧ x = .int w := by
  rw [List.getElem?_map] at h
  cases e : ws[i]? with
  | none => rw [e] at h; cases h
  | some w => rw [e] at h; exact ⟨w, rfl, (Option.some.inj h).symm⟩
/-! ### what check_widths and check_row look at -/
def unI : V → Int
  | .int i => i
  | _ => 0
def widthsOk (o : Option (List V)) : Bool := match o with
  | some xs => (decide (1 ≤ xs.length) && decide (xs.length ≤ 3)) && (xs.all (fun v => wholeV v 1 64) && decide (prodR (xs.map unI).reverse ≤ 4096))
  | none => false
def allIn : List Int → List V → Bool
  | w :: ws, x :: xs => wholeV x 0 (w - 1) && allIn ws xs
  | _, _ => true
def rowOk (ws : List Int) (o : Option (List V)) : Bool := match o with
  | some xs => decide (xs.length = ws.length) && allIn ws xs
  | none => false
theorem whole_is {v : V} {lo hi : Int} (h : wholeV v lo hi = true) : ∃ i, v = .int i ∧ lo ≤ i ∧ i ≤ hi := by
  cases v with
  | int i =>
    have z : (decide (lo ≤ i) && decide (i ≤ hi)) = true := h
    rw [Bool.and_eq_true] at z
    exact ⟨i, rfl, of_decide_eq_true z.1, of_decide_eq_true z.2⟩
  | _ => cases h
theorem all_whole {lo hi : Int} : ∀ {xs : List V}, xs.all (fun v => wholeV v lo hi) = true → xs = (xs.map unI).map V.int ∧ ∀ w ∈ xs.map unI, lo ≤ w ∧ w ≤ hi
  | [], _ => ⟨rfl, fun _ m => by cases m⟩
  | x :: xs, h => by
    rw [List.all_cons, Bool.and_eq_true] at h
    obtain ⟨i, rfl, h1, h2⟩ := whole_is h.1
    obtain ⟨e, k⟩ := all_whole h.2
    refine ⟨by rw [List.map_cons, List.map_cons, ← e]; rfl, fun w m => ?_⟩
    rcases List.mem_cons.mp (show w ∈ i :: xs.map unI from m) with rfl | m
    · exact ⟨h1, h2⟩
    · exact k w m
theorem unI_int (ns : List Int) : (ns.map V.int).map unI = ns := by
  rw [List.map_map]
  exact List.map_id'' (fun _ => rfl) ns
theorem allIn_is : ∀ {ws : List Int} {xs : List V}, xs.length = ws.length → allIn ws xs = true → xs = (xs.map unI).map V.int ∧ InR ws (xs.map unI)
  | [], [], _, _ => ⟨rfl, trivial⟩
  | [], _ :: _, h, _ => by simp at h
  | _ :: _, [], h, _ => by simp at h
  | w :: ws, x :: xs, hl, h => by
    have h' : (wholeV x 0 (w - 1) && allIn ws xs) = true := h
    rw [Bool.and_eq_true] at h'
    obtain ⟨i, rfl, h1, h2⟩ := whole_is h'.1
    obtain ⟨e, k⟩ := allIn_is (ws := ws) (xs := xs) (by simpa using hl) h'.2
    exact ⟨by rw [List.map_cons, List.map_cons, ← e]; rfl, h1, by show i < w; omega, k⟩
theorem allIn_of : ∀ {ws rs : List Int}, InR ws rs → allIn ws (rs.map V.int) = true
  | [], [], _ => rfl
  | [], _ :: _, h => h.elim
  | _ :: _, [], h => h.elim
  | w :: ws, r :: rs, ⟨h0, h1, h⟩ => by
    show ((decide (0 ≤ r) && decide (r ≤ w - 1)) && allIn ws (rs.map V.int)) = true
    rw [decide_eq_true h0, decide_eq_true (show r ≤ w - 1 by omega), allIn_of h]
    rfl
theorem rowOk_of {ws rs : List Int} (h : InR ws rs) : rowOk ws (some (rs.map V.int)) = true := by
  show (decide ((rs.map V.int).length = ws.length) && allIn ws (rs.map V.int)) = true
  rw [List.length_map, h.len, decide_eq_true rfl, allIn_of h]
  rfl
/-- the items of a list or a tuple are of known kinds -/
def Itm (H : Hp) (v : V) : Prop := ∀ xs, seqOf H v = some xs → ∀ x ∈ xs, ∃ T, Kn H x T
theorem Itm.ints {H : Hp} {v : V} {ns : List Int} (h : seqOf H v = some (ns.map V.int)) : Itm H v := fun xs hx x m => by
  rw [h] at hx
  cases hx
  obtain ⟨n, -, rfl⟩ := List.mem_map.mp m
  exact ⟨_, .int n⟩
theorem Itm.none {H : Hp} {v : V} (h : seqOf H v = none) : Itm H v := fun xs hx => by
  rw [h] at hx
  cases hx
theorem Itm.same {H H' : Hp} {v : V} {T : String} (h : Itm H v) (k : Kn H v T) (e : Same H H') : Itm H' v := fun xs hx x m => by
  rw [k.seqOf e] at hx
  obtain ⟨U, u⟩ := h xs hx x m
  exact ⟨U, u.same e⟩
/-! ### names -/
def lettersT : Str := "abcdefghijklmnopqrstuvwxyz"
def inLetters (c : Nat) : Bool := decide (c ∈ lettersT.cps.toList)
def nameV (v : V) : Bool := match v with
  | .str x => (decide (1 ≤ x.length) && decide (x.length ≤ 12)) && x.cps.toList.all inLetters
  | _ => false
theorem Kn.isStr {K : PySem.W.Frag} {H : Hp} {v : V} {T : String} (h : Kn H v T) : (∃ x, v = .str x ∧ PySem.W.kitOne K (.type T) (.type "str") = some true) ∨ (PySem.W.kitOne K (.type T) (.type "str") = some false ∧ nameV v = false) := by
  cases h with
  | str x => exact .inl ⟨x, rfl, kit_ty (by decide +kernel)⟩
  | int i => exact .inr ⟨kit_ty (by decide +kernel), rfl⟩
  | bl b => exact .inr ⟨kit_ty (by decide +kernel), rfl⟩
  | non => exact .inr ⟨kit_ty (by decide +kernel), rfl⟩
  | lst e => exact .inr ⟨kit_ty (by decide +kernel), rfl⟩
  | tup e => exact .inr ⟨kit_ty (by decide +kernel), rfl⟩
  | dct e => exact .inr ⟨kit_ty (by decide +kernel), rfl⟩
def spName : Sp := fun vs H Q _ => ∃ (v : V) (T : String), vs = [v] ∧ Kn H v T ∧ (∀ x, v = .str x → x.length ≤ 1000) ∧ ∀ H', Same H H' → Q (.bl (nameV v)) H'
end Q

set_option maxRecDepth 100000
set_option maxHeartbeats 4000000
/-! Small things that may stand in rows and lists, and what repr shows of them. -/
namespace Q
open PySem PySem.Spec PyProof.Rows L2
/-- data that repr shows in little room -/
structure Sm (d : PyData) (w : Nat) : Prop where
  sh : d.showable = true
  nd : d.hasDict = false
  dp : d.depth ≤ 1
  ls : d.leavesShort 60 = true
  wt : d.weight ≤ w
/-- data that repr shows -/
structure Shw (d : PyData) : Prop where
  sh : d.showable = true
  nd : d.hasDict = false
  dp : d.depth ≤ 60
  ln : d.shown.length ≤ sizeLine
theorem Sm.shw {d : PyData} {w : Nat} (h : Sm d w) (hw : w ≤ 100000) : Shw d := by
  have e := PyData.shown_le 60 (by decide) _ h.ls
  have := h.wt
  have := h.dp
  exact ⟨h.sh, h.nd, by omega, by rw [sizeLine_eq]; omega⟩
def smB (x : Str) : Bool := (PyData.str x).showable && ((PyData.str x).leavesShort 60 && decide ((PyData.str x).weight ≤ 200))
theorem sm_str {x : Str} (h : smB x = true) : Sm (.str x) 200 := by
  have z : ((PyData.str x).showable && ((PyData.str x).leavesShort 60 && decide ((PyData.str x).weight ≤ 200))) = true := h
  rw [Bool.and_eq_true, Bool.and_eq_true] at z
  exact ⟨z.1, rfl, Nat.zero_le _, z.2.1, of_decide_eq_true z.2.2⟩
theorem sm_int {i : Int} (h : i.natAbs < 10 ^ 40) : Sm (.int i) 200 := by
  have h1 : i.natAbs.log2 < 134 := PySem.Flt.log2_lt_of (by decide) (Nat.lt_of_lt_of_le h (by decide))
  refine ⟨?_, rfl, Nat.zero_le _, ?_, ?_⟩
  · show decide (i.natAbs.log2 < 1920) = true
    exact decide_eq_true (by omega)
  · have e := int_text_length_le10 (a := i) (k := 40) (by decide) h
    have e2 : (PyData.shown (.int i)).length = (toString i).length := PySem.ofString_length _
    exact decide_eq_true (by omega)
  · show (if i == 0 then 0 else i.natAbs.log2 + 1) ≤ 200
    split <;> omega
/-- what may stand in a row -/
inductive Odd (H : Hp) : V → Prop
  | non : Odd H .non
  | bl (b : Bool) : Odd H (.bl b)
  | str (x : Str) (h : smB x = true) : Odd H (.str x)
  | int (i : Int) (h : i.natAbs < 10 ^ 40) : Odd H (.int i)
  | tup {t : Addr} (n : Int) (h : n.natAbs < 10 ^ 40) (e : H t = some (.tup [.int n])) : Odd H (.ref t)
theorem Odd.kn {H : Hp} {v : V} (h : Odd H v) : ∃ T, Kn H v T := by
  cases h with
  | non => exact ⟨_, .non⟩
  | bl b => exact ⟨_, .bl b⟩
  | str x _ => exact ⟨_, .str _⟩
  | int i _ => exact ⟨_, .int i⟩
  | tup _ _ e => exact ⟨_, .tup e⟩
theorem Odd.keep {H H' : Hp} {v : V} (h : Odd H v) (k : ∀ t xs, H t = some (.tup xs) → H' t = some (.tup xs)) : Odd H' v := by
  cases h with
  | non => exact .non
  | bl b => exact .bl b
  | str x h => exact .str x h
  | int i h => exact .int i h
  | tup n h e => exact .tup n h (k _ _ e)
theorem Odd.same {H H' : Hp} {v : V} (h : Odd H v) (k : Same H H') : Odd H' v := h.keep fun t xs e => k _ _ e
theorem Odd.kb {H H' : Hp} {b c : Addr} {n : Int} {v : V} (h : Odd H v) (B : BagAt H b c n) (k : Kb b H H') : Odd H' v := h.keep fun t xs e => k t _ (fun z => by
  obtain ⟨ns, p, r, kk, m, h1, _⟩ := B
  rw [z, h1] at e
  cases e) e
theorem Odd.dat {K : PySem.W.Frag} {H : Hp} {v : V} (h : Odd H v) : ∃ d, Dp K H v d ∧ Sm d 200 := by
  cases h with
  | non => exact ⟨_, .non, by decide, by decide, by decide, by decide, by decide⟩
  | bl b => exact ⟨_, .bl b, by cases b <;> decide, by cases b <;> decide, by cases b <;> decide, by cases b <;> decide, by cases b <;> decide⟩
  | str x h => exact ⟨_, .str _, sm_str h⟩
  | int i h => exact ⟨_, .int i, sm_int h⟩
  | tup n h e =>
    have s := sm_int h
    refine ⟨.tuple [.int n], .tup (SqT.of e) (.cons (.int n) .nil), ?_, rfl, Nat.le_refl _, ?_, ?_⟩
    · show ((PyData.int n).showable && true) = true
      rw [s.sh]
      rfl
    · show ((PyData.int n).leavesShort 60 && true) = true
      rw [s.ls]
      rfl
    · show PyData.weightAll [.int n] ≤ 200
      have e1 : PyData.weightAll [.int n] = (PyData.int n).weight + 1 + 0 := rfl
      have h1 : n.natAbs.log2 < 134 := PySem.Flt.log2_lt_of (by decide) (Nat.lt_of_lt_of_le h (by decide))
      have e2 : (PyData.int n).weight ≤ 135 := by
        show (if n == 0 then 0 else n.natAbs.log2 + 1) ≤ 135
        split <;> omega
      omega
theorem odds_dat {K : PySem.W.Frag} {H : Hp} : ∀ {xs : List V}, (∀ x ∈ xs, Odd H x) → ∃ ds, DpAll K H xs ds ∧ PyData.showableAll ds = true ∧ PyData.hasDictAll ds = false ∧ PyData.depthAll ds ≤ 1 ∧ PyData.leavesShortAll 60 ds = true ∧ PyData.weightAll ds ≤ 201 * xs.length
  | [], _ => ⟨[], .nil, rfl, rfl, Nat.zero_le _, rfl, Nat.zero_le _⟩
  | x :: xs, h => by
    obtain ⟨d, D, S⟩ := (h x List.mem_cons_self).dat (K := K)
    obtain ⟨ds, E, e1, e2, e3, e4, e5⟩ := odds_dat (K := K) fun y hy => h y (List.mem_cons_of_mem _ hy)
    refine ⟨d :: ds, .cons D E, ?_, ?_, ?_, ?_, ?_⟩
    · show (d.showable && PyData.showableAll ds) = true
      rw [S.sh, e1]
      rfl
    · show (d.hasDict || PyData.hasDictAll ds) = false
      rw [S.nd, e2]
      rfl
    · exact Nat.max_le.mpr ⟨S.dp, e3⟩
    · show (d.leavesShort 60 && PyData.leavesShortAll 60 ds) = true
      rw [S.ls, e4]
      rfl
    · show d.weight + 1 + PyData.weightAll ds ≤ 201 * (xs.length + 1)
      have := S.wt
      omega
/-- a list or a tuple of such things, or one of them: what a caller hands in -/
inductive Arg (H : Hp) : V → Prop
  | one {v : V} (h : Odd H v) : Arg H v
  | lst {a : Addr} {xs : List V} (e : H a = some (.lst xs)) (h : ∀ x ∈ xs, Odd H x) (n : xs.length ≤ 100) : Arg H (.ref a)
  | tup {a : Addr} {xs : List V} (e : H a = some (.tup xs)) (h : ∀ x ∈ xs, Odd H x) (n : xs.length ≤ 100) : Arg H (.ref a)
theorem Arg.kn {H : Hp} {v : V} (h : Arg H v) : (∃ T, Kn H v T) ∧ Itm H v := by
  have io : ∀ {a : Addr} {xs : List V}, seqOf H (.ref a) = some xs → (∀ x ∈ xs, Odd H x) → Itm H (.ref a) := fun e h ys hy x m => by
    rw [e] at hy
    cases hy
    exact (h x m).kn
  cases h with
  | one h =>
    refine ⟨h.kn, ?_⟩
    cases h with
    | tup n hn e =>
      refine io (xs := [.int n]) (seqOf_tup e) fun x m => ?_
      obtain rfl := List.mem_singleton.mp m
      exact .int n hn
    | _ => exact Itm.none rfl
  | lst e h _ => exact ⟨⟨_, .lst e⟩, io (seqOf_lst e) h⟩
  | tup e h _ => exact ⟨⟨_, .tup e⟩, io (seqOf_tup e) h⟩
theorem Arg.dat {K : PySem.W.Frag} {H : Hp} {v : V} (h : Arg H v) : ∃ d, Dp K H v d ∧ Shw d := by
  have sq : ∀ {xs : List V} {ds : List PyData} {d : PyData}, xs.length ≤ 100 → (d = .list ds ∨ d = .tuple ds) → PyData.showableAll ds = true → PyData.hasDictAll ds = false → PyData.depthAll ds ≤ 1 → PyData.leavesShortAll 60 ds = true → PyData.weightAll ds ≤ 201 * xs.length → Shw d := fun {xs ds d} n e e1 e2 e3 e4 e5 => by
    have ls : d.leavesShort 60 = true := by rcases e with rfl | rfl <;> exact e4
    have w : d.weight = PyData.weightAll ds := by rcases e with rfl | rfl <;> rfl
    have dp : d.depth = PyData.depthAll ds + 1 := by rcases e with rfl | rfl <;> rfl
    have l := PyData.shown_le 60 (by decide) _ ls
    exact ⟨by rcases e with rfl | rfl <;> exact e1, by rcases e with rfl | rfl <;> exact e2, by omega, by rw [sizeLine_eq]; omega⟩
  cases h with
  | one h =>
    obtain ⟨d, D, s⟩ := h.dat (K := K)
    exact ⟨d, D, s.shw (by decide)⟩
  | lst e h n =>
    obtain ⟨ds, D, e1, e2, e3, e4, e5⟩ := odds_dat (K := K) h
    exact ⟨_, .lst (SqL.of e) D, sq n (.inl rfl) e1 e2 e3 e4 e5⟩
  | tup e h n =>
    obtain ⟨ds, D, e1, e2, e3, e4, e5⟩ := odds_dat (K := K) h
    exact ⟨_, .tup (SqT.of e) D, sq n (.inr rfl) e1 e2 e3 e4 e5⟩
theorem Arg.same {H H' : Hp} {v : V} (h : Arg H v) (k : Same H H') : Arg H' v := by
  cases h with
  | one h => exact .one (h.same k)
  | lst e h n => exact .lst (k _ _ e) (fun x m => (h x m).same k) n
  | tup e h n => exact .tup (k _ _ e) (fun x m => (h x m).same k) n
theorem ty_sqT {K : PySem.W.Frag} {H : Hp} {a : Addr} {xs : List V} (h : SqT K H a xs) : TyX K H (.ref a) (.type "tuple") := by
  rcases h with (h | ⟨o, h⟩) | ⟨o, its, n, h1, h2, _⟩
  · exact .base (.tup h)
  · exact .fTuple h
  · exact .kTuple h1 h2
end Q

set_option maxRecDepth 100000
set_option maxHeartbeats 4000000
/-! The rules whose relation names the written part, inside one comprehension (B) and inside two (BB).  Printed by mkblk.py. -/
namespace Q
open PySem PySem.Spec PyProof.Rows L2
section
variable {X : Cx} {s s2 : Shared} {H H2 : Hp} {sc sc2 : Scope} {ce ce2 : Env} {fp fp2 : List Addr}
theorem op_catAB : OpR (X.blk s H sc ce fp) (binaryOp .Add) (rCatA X.K) := op_catA (X := (X.blk s H sc ce fp))
theorem op_catABB : OpR ((X.blk s H sc ce fp).blk s2 H2 sc2 ce2 fp2) (binaryOp .Add) (rCatA X.K) := op_catA (X := ((X.blk s H sc ce fp).blk s2 H2 sc2 ce2 fp2))
theorem op_catTB : OpR (X.blk s H sc ce fp) (binaryOp .Add) (rCatT X.K) := op_catT (X := (X.blk s H sc ce fp))
theorem op_catTBB : OpR ((X.blk s H sc ce fp).blk s2 H2 sc2 ce2 fp2) (binaryOp .Add) (rCatT X.K) := op_catT (X := ((X.blk s H sc ce fp).blk s2 H2 sc2 ce2 fp2))
theorem ix_listB : IxR (X.blk s H sc ce fp)  (rIxL X.K) := ix_list (X := (X.blk s H sc ce fp))
theorem ix_listBB : IxR ((X.blk s H sc ce fp).blk s2 H2 sc2 ce2 fp2)  (rIxL X.K) := ix_list (X := ((X.blk s H sc ce fp).blk s2 H2 sc2 ce2 fp2))
theorem ix_tupB : IxR (X.blk s H sc ce fp)  (rIxT X.K) := ix_tup (X := (X.blk s H sc ce fp))
theorem ix_tupBB : IxR ((X.blk s H sc ce fp).blk s2 H2 sc2 ce2 fp2)  (rIxT X.K) := ix_tup (X := ((X.blk s H sc ce fp).blk s2 H2 sc2 ce2 fp2))
theorem ix_seqB : IxR (X.blk s H sc ce fp)  (rIx X.K) := ix_seq (X := (X.blk s H sc ce fp))
theorem ix_seqBB : IxR ((X.blk s H sc ce fp).blk s2 H2 sc2 ce2 fp2)  (rIx X.K) := ix_seq (X := ((X.blk s H sc ce fp).blk s2 H2 sc2 ce2 fp2))
theorem call_len_seqB : CallR (X.blk s H sc ce fp) (.builtin "len") (fun xs H Q => ∃ p ys, xs = [.ref p] ∧ (SqL X.K H p ys ∨ SqT X.K H p ys) ∧ Q (.int ys.length) H) := call_len_seq (X := (X.blk s H sc ce fp))
theorem call_len_seqBB : CallR ((X.blk s H sc ce fp).blk s2 H2 sc2 ce2 fp2) (.builtin "len") (fun xs H Q => ∃ p ys, xs = [.ref p] ∧ (SqL X.K H p ys ∨ SqT X.K H p ys) ∧ Q (.int ys.length) H) := call_len_seq (X := ((X.blk s H sc ce fp).blk s2 H2 sc2 ce2 fp2))
theorem call_tupOfB : CallR (X.blk s H sc ce fp) (.type "tuple") (rTupOf X.K) := call_tupOf (X := (X.blk s H sc ce fp))
theorem call_tupOfBB : CallR ((X.blk s H sc ce fp).blk s2 H2 sc2 ce2 fp2) (.type "tuple") (rTupOf X.K) := call_tupOf (X := ((X.blk s H sc ce fp).blk s2 H2 sc2 ce2 fp2))
theorem call_list_ofB : CallR (X.blk s H sc ce fp) (.type "list") (fun xs H Q => ∃ p ys, xs = [.ref p] ∧ (SqL X.K H p ys ∨ SqT X.K H p ys) ∧ ∀ l, H l = none → Q (.ref l) (upd H l (.lst ys))) := call_list_of (X := (X.blk s H sc ce fp))
theorem call_list_ofBB : CallR ((X.blk s H sc ce fp).blk s2 H2 sc2 ce2 fp2) (.type "list") (fun xs H Q => ∃ p ys, xs = [.ref p] ∧ (SqL X.K H p ys ∨ SqT X.K H p ys) ∧ ∀ l, H l = none → Q (.ref l) (upd H l (.lst ys))) := call_list_of (X := ((X.blk s H sc ce fp).blk s2 H2 sc2 ce2 fp2))
theorem call_isiB : CallR (X.blk s H sc ce fp) (.builtin "isinstance") (rIsi X.K) := call_isi (X := (X.blk s H sc ce fp))
theorem call_isiBB : CallR ((X.blk s H sc ce fp).blk s2 H2 sc2 ce2 fp2) (.builtin "isinstance") (rIsi X.K) := call_isi (X := ((X.blk s H sc ce fp).blk s2 H2 sc2 ce2 fp2))
theorem call_isiTB : CallR (X.blk s H sc ce fp) (.builtin "isinstance") (rIsiT X.K) := call_isiT (X := (X.blk s H sc ce fp))
theorem call_isiTBB : CallR ((X.blk s H sc ce fp).blk s2 H2 sc2 ce2 fp2) (.builtin "isinstance") (rIsiT X.K) := call_isiT (X := ((X.blk s H sc ce fp).blk s2 H2 sc2 ce2 fp2))
theorem pi_listB {tg l : Expr} {tl : TE} (hl : PE (X.blk s H sc ce fp) l tl) : PI (X.blk s H sc ce fp) tg l (iList X.K tl) := pi_list hl
theorem pi_listBB {tg l : Expr} {tl : TE} (hl : PE ((X.blk s H sc ce fp).blk s2 H2 sc2 ce2 fp2) l tl) : PI ((X.blk s H sc ce fp).blk s2 H2 sc2 ce2 fp2) tg l (iList X.K tl) := pi_list hl
theorem pi_tupB {tg l : Expr} {tl : TE} (hl : PE (X.blk s H sc ce fp) l tl) : PI (X.blk s H sc ce fp) tg l (iTup X.K tl) := pi_tup hl
theorem pi_tupBB {tg l : Expr} {tl : TE} (hl : PE ((X.blk s H sc ce fp).blk s2 H2 sc2 ce2 fp2) l tl) : PI ((X.blk s H sc ce fp).blk s2 H2 sc2 ce2 fp2) tg l (iTup X.K tl) := pi_tup hl
theorem pi_seqB {tg l : Expr} {tl : TE} (hl : PE (X.blk s H sc ce fp) l tl) : PI (X.blk s H sc ce fp) tg l (iSeq X.K tl) := pi_seq hl
theorem pi_seqBB {tg l : Expr} {tl : TE} (hl : PE ((X.blk s H sc ce fp).blk s2 H2 sc2 ce2 fp2) l tl) : PI ((X.blk s H sc ce fp).blk s2 H2 sc2 ce2 fp2) tg l (iSeq X.K tl) := pi_seq hl
end
end Q

set_option maxRecDepth 100000
set_option maxHeartbeats 4000000
/-! Lists of rows as data. -/
namespace Q
open PySem PySem.Spec PyProof.Rows L2
theorem shapedL_ints (ns : List Int) : SeqAt.shaped (.list (ns.map PyData.int)) = true := by
  show (PyData.canLayAll0 (ns.map PyData.int) && decide (PyData.depthAll (ns.map PyData.int) + 1 ≤ 64)) = true
  rw [lay_ints, depth_ints]
  rfl
theorem eqvL_ints (ns ms : List Int) : PyData.eqv (.list (ns.map PyData.int)) (.list (ms.map PyData.int)) = decide (ns = ms) := eqvAll_ints ns ms
theorem dpl_ints {K : PySem.W.Frag} {H : Hp} {p : Addr} {ns : List Int} (h : SqL K H p (ns.map V.int)) : Dp K H (.ref p) (.list (ns.map PyData.int)) := .lst h (dpAll_ints ns)
/-- rows of whole numbers, in a list -/
def rowsD (xss : List (List Int)) : List PyData := xss.map fun xs => .tuple (xs.map PyData.int)
theorem layRows : ∀ xss : List (List Int), PyData.canLayAll0 (rowsD xss) = true
  | [] => rfl
  | x :: xss => by
    show (PyData.canLayAll0 (x.map PyData.int) && PyData.canLayAll0 (rowsD xss)) = true
    rw [lay_ints, layRows xss]
    rfl
theorem depthRows : ∀ xss : List (List Int), PyData.depthAll (rowsD xss) ≤ 1
  | [] => Nat.zero_le _
  | x :: xss => by
    show max (PyData.depthAll (x.map PyData.int) + 1) (PyData.depthAll (rowsD xss)) ≤ 1
    rw [depth_ints]
    exact Nat.max_le.mpr ⟨Nat.le_refl _, depthRows xss⟩
theorem shapedRows (xss : List (List Int)) : SeqAt.shaped (.list (rowsD xss)) = true := by
  show (PyData.canLayAll0 (rowsD xss) && decide (PyData.depthAll (rowsD xss) + 1 ≤ 64)) = true
  have := depthRows xss
  rw [layRows, decide_eq_true (by omega)]
  rfl
theorem eqvRows : ∀ xss : List (List Int), PyData.eqvAll (rowsD xss) (rowsD xss) = true
  | [] => rfl
  | x :: xss => by
    show (PyData.eqv (.tuple (x.map PyData.int)) (.tuple (x.map PyData.int)) && PyData.eqvAll (rowsD xss) (rowsD xss)) = true
    rw [eqv_ints, decide_eq_true rfl, eqvRows xss]
    rfl
theorem dpRows {K : PySem.W.Frag} {H : Hp} : ∀ {ps : List Addr} {xss : List (List Int)}, ps.length = xss.length → (∀ (k : Nat) (p : Addr) (xs : List Int), ps[k]? = some p → xss[k]? = some xs → H p = some (.tup (xs.map V.int))) → DpAll K H (ps.map V.ref) (rowsD xss)
  | [], [], _, _ => .nil
  | [], _ :: _, h, _ => by simp at h
  | _ :: _, [], h, _ => by simp at h
  | p :: ps, xs :: xss, h, k => .cons (dp_ints (SqT.of (k 0 p xs rfl rfl))) (dpRows (by simpa using h) fun j q ys h1 h2 => k (j + 1) q ys (by simpa using h1) (by simpa using h2))
def upI (n : Nat) : List Int := (List.range n).map fun k : Nat => (k : Int)
theorem rgV_ints (n : Nat) : rgV 0 (n : Int) = (upI n).map V.int := by
  unfold rgV upI
  rw [List.map_map, Int.sub_zero, Int.toNat_natCast]
  refine List.map_congr_left fun i _ => ?_
  show V.int (0 + (i : Int)) = V.int (i : Int)
  rw [Int.zero_add]
theorem upI_succ (n : Nat) : upI (n + 1) = upI n ++ [(n : Int)] := by
  unfold upI
  rw [List.range_succ, List.map_append]
  rfl
theorem upI_len (n : Nat) : (upI n).length = n := by
  unfold upI
  rw [List.length_map, List.length_range]
theorem prod_le3 : ∀ {ws : List Int}, (∀ w ∈ ws, 1 ≤ w ∧ w ≤ 3) → ws.length ≤ 5 → prodR ws ≤ 243 := by
  have : ∀ (n : Nat) (ws : List Int), ws.length = n → (∀ w ∈ ws, 1 ≤ w ∧ w ≤ 3) → prodR ws ≤ 3 ^ n := by
    intro n
    induction n with
    | zero =>
      intro ws h _
      match ws, h with
      | [], _ => decide
    | succ n ih =>
      intro ws h k
      match ws, h with
      | w :: ws, h =>
        have h1 := ih ws (by simpa using h) fun x m => k x (List.mem_cons_of_mem _ m)
        obtain ⟨a, b⟩ := k w List.mem_cons_self
        show prodR ws * w ≤ 3 ^ (n + 1)
        have p := prodR_pos (ws := ws) fun x m => by have := k x (List.mem_cons_of_mem _ m); omega
        rw [Int.pow_succ]
        exact Int.le_trans (Int.mul_le_mul_of_nonneg_left b (by omega)) (Int.mul_le_mul_of_nonneg_right h1 (by decide))
  intro ws h hl
  have h1 := this ws.length ws rfl h
  refine Int.le_trans h1 ?_
  match ws.length, hl with
  | 0, _ => decide
  | 1, _ => decide
  | 2, _ => decide
  | 3, _ => decide
  | 4, _ => decide
  | 5, _ => decide
end Q

set_option maxRecDepth 100000
set_option maxHeartbeats 4000000
namespace K02
open PySem PySem.Spec PyProof.Rows L2 Q
def topS (i : Nat) : Stmt := PySem.Challenge.pw_fewfetches_k02_rows_by_their_numbers.main.body.getD i (.Pass ⟨0, 0, 0, 0⟩)
abbrev FnP (K : PySem.W.Frag) (x qual : Str) (st : Stmt) (dvs : List V) (f : Addr) (fd : FuncData) : Prop := FunD K x qual (defArgs st) (defBody st) (defScope st) dvs [] f fd
abbrev s_BadRow___init__ : Stmt := inClass (topS 3) 0
theorem sc_BadRow___init__ : FnScope ["self", "row"] ["self", "row"] (defScope s_BadRow___init__) := ⟨rfl, rfl, rfl, by decide +kernel, rfl, by decide +kernel, by decide +kernel⟩
abbrev s_is_whole : Stmt := topS 10
theorem sc_is_whole : FnScope ["thing", "low", "high"] ["thing", "low", "high"] (defScope s_is_whole) := ⟨rfl, rfl, rfl, by decide +kernel, rfl, by decide +kernel, by decide +kernel⟩
abbrev s_is_name : Stmt := topS 11
theorem sc_is_name : FnScope ["thing", "sign"] ["thing"] (defScope s_is_name) := ⟨rfl, rfl, rfl, by decide +kernel, rfl, by decide +kernel, by decide +kernel⟩
abbrev s_row_count : Stmt := topS 12
theorem sc_row_count : FnScope ["widths", "many", "width"] ["widths"] (defScope s_row_count) := ⟨rfl, rfl, rfl, by decide +kernel, rfl, by decide +kernel, by decide +kernel⟩
abbrev s_check_widths : Stmt := topS 13
theorem sc_check_widths : FnScope ["widths", "width"] ["widths"] (defScope s_check_widths) := ⟨rfl, rfl, rfl, by decide +kernel, rfl, by decide +kernel, by decide +kernel⟩
abbrev s_check_row : Stmt := topS 14
theorem sc_check_row : FnScope ["widths", "row", "value", "width"] ["widths", "row"] (defScope s_check_row) := ⟨rfl, rfl, rfl, by decide +kernel, rfl, by decide +kernel, by decide +kernel⟩
abbrev s_row_number : Stmt := topS 15
theorem sc_row_number : FnScope ["widths", "row", "number", "value", "width"] ["widths", "row"] (defScope s_row_number) := ⟨rfl, rfl, rfl, by decide +kernel, rfl, by decide +kernel, by decide +kernel⟩
abbrev s_row_at : Stmt := topS 16
theorem sc_row_at : FnScope ["widths", "number", "values_back", "width", "value"] ["widths", "number"] (defScope s_row_at) := ⟨rfl, rfl, rfl, by decide +kernel, rfl, by decide +kernel, by decide +kernel⟩
abbrev s__law_bag : Stmt := topS 18
theorem sc__law_bag : FnScope ["script", "cell"] ["script"] (defScope s__law_bag) := ⟨rfl, rfl, rfl, by decide +kernel, rfl, by decide +kernel, by decide +kernel⟩
abbrev s__law_draw : Stmt := topS 19
theorem sc__law_draw : FnScope ["bag", "limit", "digit", "cell", "mixed", "twice"] ["bag", "limit"] (defScope s__law_draw) := ⟨rfl, rfl, rfl, by decide +kernel, rfl, by decide +kernel, by decide +kernel⟩
abbrev s__law_good : Stmt := topS 20
theorem sc__law_good : FnScope ["widths", "many", "width"] ["widths"] (defScope s__law_good) := ⟨rfl, rfl, rfl, by decide +kernel, rfl, by decide +kernel, by decide +kernel⟩
abbrev s__law_widths_told : Stmt := topS 21
theorem sc__law_widths_told : FnScope ["widths", "made"] ["widths"] (defScope s__law_widths_told) := ⟨rfl, rfl, rfl, by decide +kernel, rfl, by decide +kernel, by decide +kernel⟩
abbrev s__law_row_right : Stmt := topS 22
theorem sc__law_row_right : FnScope ["widths", "row", "due", "made", "e"] ["widths", "row", "due"] (defScope s__law_row_right) := ⟨rfl, rfl, rfl, by decide +kernel, rfl, by decide +kernel, by decide +kernel⟩
abbrev s__law_widths : Stmt := topS 23
theorem sc__law_widths : FnScope ["bag", "way"] ["bag"] (defScope s__law_widths) := ⟨rfl, rfl, rfl, by decide +kernel, rfl, by decide +kernel, by decide +kernel⟩
abbrev s__law_all : Stmt := topS 24
theorem sc__law_all : FnScope ["widths", "rows", "width", "longer", "row", "value"] ["widths"] (defScope s__law_all) := ⟨rfl, rfl, rfl, by decide +kernel, rfl, by decide +kernel, by decide +kernel⟩
abbrev s__law_is : Stmt := topS 25
theorem sc__law_is : FnScope ["thing", "due"] ["thing", "due"] (defScope s__law_is) := ⟨rfl, rfl, rfl, by decide +kernel, rfl, by decide +kernel, by decide +kernel⟩
abbrev s__law_words_right : Stmt := topS 26
theorem sc__law_words_right : FnScope ["bag", "k", "word", "at", "odd", "number", "low"] ["bag"] (defScope s__law_words_right) := ⟨rfl, rfl, rfl, by decide +kernel, rfl, by decide +kernel, by decide +kernel⟩
abbrev s__law_far_right : Stmt := topS 27
theorem sc__law_far_right : FnScope ["bag", "widths", "at", "width", "row", "many", "ahead", "k"] ["bag"] (defScope s__law_far_right) := ⟨rfl, rfl, rfl, by decide +kernel, rfl, by decide +kernel, by decide +kernel⟩
abbrev s_law : Stmt := topS 28
theorem sc_law : FnScope ["script", "bag", "widths", "good", "bad", "odd", "made", "many", "width", "k", "rows", "row", "number", "ahead", "wide", "every", "spot", "at", "wrong"] ["script"] (defScope s_law) := ⟨rfl, rfl, rfl, by decide +kernel, rfl, by decide +kernel, by decide +kernel⟩
/-! ### what the top has written -/
structure Tx (K : PySem.W.Frag) (mg : Str → Option Value) : Prop where
  n_ValueError : mg "ValueError" = none
  n_abs : mg "abs" = none
  n_all : mg "all" = none
  n_bool : mg "bool" = none
  n_divmod : mg "divmod" = none
  n_int : mg "int" = none
  n_isinstance : mg "isinstance" = none
  n_len : mg "len" = none
  n_list : mg "list" = none
  n_range : mg "range" = none
  n_repr : mg "repr" = none
  n_reversed : mg "reversed" = none
  n_str : mg "str" = none
  n_tuple : mg "tuple" = none
  n_zip : mg "zip" = none
  c_LETTERS : ∃ t, mg "LETTERS" = some (.str "abcdefghijklmnopqrstuvwxyz" t)
  c_LONGEST_NAME : ∃ t, mg "LONGEST_NAME" = some (.int (12) t)
  c_MOST_COLUMNS : ∃ t, mg "MOST_COLUMNS" = some (.int (3) t)
  c_MOST_VALUES : ∃ t, mg "MOST_VALUES" = some (.int (64) t)
  c_MOST_ROWS : ∃ t, mg "MOST_ROWS" = some (.int (4096) t)
  g_FetchError : mg "FetchError" = some (.ref (He.ga K "FetchError"))
  x_FetchError : ExcC K (He.ga K "FetchError")
  e_FetchError : PySem.W.exmOne K (.ref (He.ga K "FetchError")) (.ref (He.ga K "FetchError")) = some true
  b_FetchError : PySem.W.excIn K (He.ga K "FetchError") He.veBase "ValueError.__new__" = true
  k_FetchError : PySem.W.keepIn K (.ref (He.ga K "FetchError")) = true
  ty_FetchError : PySem.W.typeIn K (.ref (He.ga K "FetchError")) = some (.type "type")
  g_BadWidths : mg "BadWidths" = some (.ref (He.ga K "BadWidths"))
  x_BadWidths : ExcC K (He.ga K "BadWidths")
  e_BadWidths : PySem.W.exmOne K (.ref (He.ga K "BadWidths")) (.ref (He.ga K "BadWidths")) = some true
  b_BadWidths : PySem.W.excIn K (He.ga K "BadWidths") He.veBase "ValueError.__new__" = true
  k_BadWidths : PySem.W.keepIn K (.ref (He.ga K "BadWidths")) = true
  ty_BadWidths : PySem.W.typeIn K (.ref (He.ga K "BadWidths")) = some (.type "type")
  g_BadRow : mg "BadRow" = some (.ref (He.ga K "BadRow"))
  x_BadRow : ExcC K (He.ga K "BadRow")
  e_BadRow : PySem.W.exmOne K (.ref (He.ga K "BadRow")) (.ref (He.ga K "BadRow")) = some true
  o_BadRow : OexC K (He.ga K "BadRow")
  i_BadRow : PySem.W.findIn K (.ref (He.ga K "BadRow")) "__init__" = some (some (.ref (He.ma K (He.ga K "BadRow") "__init__")))
  t_BadRow : PySem.W.typeIn K (.ref (He.ma K (He.ga K "BadRow") "__init__")) = some (.type "function")
  noat_BadRow_row : PySem.W.findIn K (.ref (He.ga K "BadRow")) "row" = some none
  d_BadRow___init__ : ∃ fd, FnP K "__init__" "BadRow.__init__" s_BadRow___init__ [] (He.ma K (He.ga K "BadRow") "__init__") fd
  g_is_whole : mg "is_whole" = some (.ref (He.ga K "is_whole"))
  d_is_whole : ∃ fd, FnP K "is_whole" "is_whole" s_is_whole [.non, .non] (He.ga K "is_whole") fd
  g_is_name : mg "is_name" = some (.ref (He.ga K "is_name"))
  d_is_name : ∃ fd, FnP K "is_name" "is_name" s_is_name [] (He.ga K "is_name") fd
  g_row_count : mg "row_count" = some (.ref (He.ga K "row_count"))
  d_row_count : ∃ fd, FnP K "row_count" "row_count" s_row_count [] (He.ga K "row_count") fd
  g_check_widths : mg "check_widths" = some (.ref (He.ga K "check_widths"))
  d_check_widths : ∃ fd, FnP K "check_widths" "check_widths" s_check_widths [] (He.ga K "check_widths") fd
  g_check_row : mg "check_row" = some (.ref (He.ga K "check_row"))
  d_check_row : ∃ fd, FnP K "check_row" "check_row" s_check_row [] (He.ga K "check_row") fd
  g_row_number : mg "row_number" = some (.ref (He.ga K "row_number"))
  d_row_number : ∃ fd, FnP K "row_number" "row_number" s_row_number [] (He.ga K "row_number") fd
  g_row_at : mg "row_at" = some (.ref (He.ga K "row_at"))
  d_row_at : ∃ fd, FnP K "row_at" "row_at" s_row_at [] (He.ga K "row_at") fd
  g__law_bag : mg "_law_bag" = some (.ref (He.ga K "_law_bag"))
  d__law_bag : ∃ fd, FnP K "_law_bag" "_law_bag" s__law_bag [] (He.ga K "_law_bag") fd
  g__law_draw : mg "_law_draw" = some (.ref (He.ga K "_law_draw"))
  d__law_draw : ∃ fd, FnP K "_law_draw" "_law_draw" s__law_draw [] (He.ga K "_law_draw") fd
  g__law_good : mg "_law_good" = some (.ref (He.ga K "_law_good"))
  d__law_good : ∃ fd, FnP K "_law_good" "_law_good" s__law_good [] (He.ga K "_law_good") fd
  g__law_widths_told : mg "_law_widths_told" = some (.ref (He.ga K "_law_widths_told"))
  d__law_widths_told : ∃ fd, FnP K "_law_widths_told" "_law_widths_told" s__law_widths_told [] (He.ga K "_law_widths_told") fd
  g__law_row_right : mg "_law_row_right" = some (.ref (He.ga K "_law_row_right"))
  d__law_row_right : ∃ fd, FnP K "_law_row_right" "_law_row_right" s__law_row_right [] (He.ga K "_law_row_right") fd
  g__law_widths : mg "_law_widths" = some (.ref (He.ga K "_law_widths"))
  d__law_widths : ∃ fd, FnP K "_law_widths" "_law_widths" s__law_widths [] (He.ga K "_law_widths") fd
  g__law_all : mg "_law_all" = some (.ref (He.ga K "_law_all"))
  d__law_all : ∃ fd, FnP K "_law_all" "_law_all" s__law_all [] (He.ga K "_law_all") fd
  g__law_is : mg "_law_is" = some (.ref (He.ga K "_law_is"))
  d__law_is : ∃ fd, FnP K "_law_is" "_law_is" s__law_is [] (He.ga K "_law_is") fd
  g__law_words_right : mg "_law_words_right" = some (.ref (He.ga K "_law_words_right"))
  d__law_words_right : ∃ fd, FnP K "_law_words_right" "_law_words_right" s__law_words_right [] (He.ga K "_law_words_right") fd
  g__law_far_right : mg "_law_far_right" = some (.ref (He.ga K "_law_far_right"))
  d__law_far_right : ∃ fd, FnP K "_law_far_right" "_law_far_right" s__law_far_right [] (He.ga K "_law_far_right") fd
  g_law : mg "law" = some (.ref (He.ga K "law"))
  d_law : ∃ fd, FnP K "law" "law" s_law [] (He.ga K "law") fd
def fb0 (K : PySem.W.Frag) : Bool := (He.Fa.free "ValueError").ok K && ((He.Fa.free "abs").ok K && ((He.Fa.free "all").ok K && ((He.Fa.free "bool").ok K && ((He.Fa.free "divmod").ok K && ((He.Fa.free "int").ok K && ((He.Fa.free "isinstance").ok K && ((He.Fa.free "len").ok K && ((He.Fa.free "list").ok K && ((He.Fa.free "range").ok K && ((He.Fa.free "repr").ok K && ((He.Fa.free "reversed").ok K)))))))))))
def fb1 (K : PySem.W.Frag) : Bool := (He.Fa.free "str").ok K && ((He.Fa.free "tuple").ok K && ((He.Fa.free "zip").ok K && ((He.Fa.str "LETTERS" "abcdefghijklmnopqrstuvwxyz").ok K && ((He.Fa.int "LONGEST_NAME" (12)).ok K && ((He.Fa.int "MOST_COLUMNS" (3)).ok K && ((He.Fa.int "MOST_VALUES" (64)).ok K && ((He.Fa.int "MOST_ROWS" (4096)).ok K && ((He.Fa.glo "FetchError").ok K && (excB K (He.ga K "FetchError") && (decide (PySem.W.exmOne K (.ref (He.ga K "FetchError")) (.ref (He.ga K "FetchError")) = some true) && (PySem.W.excIn K (He.ga K "FetchError") He.veBase "ValueError.__new__")))))))))))
def fb2 (K : PySem.W.Frag) : Bool := PySem.W.keepIn K (.ref (He.ga K "FetchError")) && (decide (PySem.W.typeIn K (.ref (He.ga K "FetchError")) = some (.type "type")) && ((He.Fa.glo "BadWidths").ok K && (excB K (He.ga K "BadWidths") && (decide (PySem.W.exmOne K (.ref (He.ga K "BadWidths")) (.ref (He.ga K "BadWidths")) = some true) && (PySem.W.excIn K (He.ga K "BadWidths") He.veBase "ValueError.__new__" && (PySem.W.keepIn K (.ref (He.ga K "BadWidths")) && (decide (PySem.W.typeIn K (.ref (He.ga K "BadWidths")) = some (.type "type")) && ((He.Fa.glo "BadRow").ok K && (excB K (He.ga K "BadRow") && (decide (PySem.W.exmOne K (.ref (He.ga K "BadRow")) (.ref (He.ga K "BadRow")) = some true) && (oexB K (He.ga K "BadRow"))))))))))))
def fb3 (K : PySem.W.Frag) : Bool := decide (PySem.W.findIn K (.ref (He.ga K "BadRow")) "__init__" = some (some (.ref (He.ma K (He.ga K "BadRow") "__init__")))) && (decide (PySem.W.typeIn K (.ref (He.ma K (He.ga K "BadRow") "__init__")) = some (.type "function")) && (decide (PySem.W.findIn K (.ref (He.ga K "BadRow")) "row" = some none) && ((He.Fa.glo "is_whole").ok K && ((He.Fa.glo "is_name").ok K && ((He.Fa.glo "row_count").ok K && ((He.Fa.glo "check_widths").ok K && ((He.Fa.glo "check_row").ok K && ((He.Fa.glo "row_number").ok K && ((He.Fa.glo "row_at").ok K && ((He.Fa.glo "_law_bag").ok K && ((He.Fa.glo "_law_draw").ok K)))))))))))
def fb4 (K : PySem.W.Frag) : Bool := (He.Fa.glo "_law_good").ok K && ((He.Fa.glo "_law_widths_told").ok K && ((He.Fa.glo "_law_row_right").ok K && ((He.Fa.glo "_law_widths").ok K && ((He.Fa.glo "_law_all").ok K && ((He.Fa.glo "_law_is").ok K && ((He.Fa.glo "_law_words_right").ok K && ((He.Fa.glo "_law_far_right").ok K && ((He.Fa.glo "law").ok K))))))))
def fb (K : PySem.W.Frag) : Bool := fb0 K && (fb1 K && (fb2 K && (fb3 K && (fb4 K))))
def dd_BadRow___init__ : He.DefD := ⟨("BadRow", some "__init__"), "__init__", "BadRow.__init__", defArgs s_BadRow___init__, defBody s_BadRow___init__, defScope s_BadRow___init__, [], []⟩
def dd_is_whole : He.DefD := ⟨("is_whole", none), "is_whole", "is_whole", defArgs s_is_whole, defBody s_is_whole, defScope s_is_whole, [.non, .non], []⟩
def dd_is_name : He.DefD := ⟨("is_name", none), "is_name", "is_name", defArgs s_is_name, defBody s_is_name, defScope s_is_name, [], []⟩
def dd_row_count : He.DefD := ⟨("row_count", none), "row_count", "row_count", defArgs s_row_count, defBody s_row_count, defScope s_row_count, [], []⟩
def dd_check_widths : He.DefD := ⟨("check_widths", none), "check_widths", "check_widths", defArgs s_check_widths, defBody s_check_widths, defScope s_check_widths, [], []⟩
def dd_check_row : He.DefD := ⟨("check_row", none), "check_row", "check_row", defArgs s_check_row, defBody s_check_row, defScope s_check_row, [], []⟩
def dd_row_number : He.DefD := ⟨("row_number", none), "row_number", "row_number", defArgs s_row_number, defBody s_row_number, defScope s_row_number, [], []⟩
def dd_row_at : He.DefD := ⟨("row_at", none), "row_at", "row_at", defArgs s_row_at, defBody s_row_at, defScope s_row_at, [], []⟩
def dd__law_bag : He.DefD := ⟨("_law_bag", none), "_law_bag", "_law_bag", defArgs s__law_bag, defBody s__law_bag, defScope s__law_bag, [], []⟩
def dd__law_draw : He.DefD := ⟨("_law_draw", none), "_law_draw", "_law_draw", defArgs s__law_draw, defBody s__law_draw, defScope s__law_draw, [], []⟩
def dd__law_good : He.DefD := ⟨("_law_good", none), "_law_good", "_law_good", defArgs s__law_good, defBody s__law_good, defScope s__law_good, [], []⟩
def dd__law_widths_told : He.DefD := ⟨("_law_widths_told", none), "_law_widths_told", "_law_widths_told", defArgs s__law_widths_told, defBody s__law_widths_told, defScope s__law_widths_told, [], []⟩
def dd__law_row_right : He.DefD := ⟨("_law_row_right", none), "_law_row_right", "_law_row_right", defArgs s__law_row_right, defBody s__law_row_right, defScope s__law_row_right, [], []⟩
def dd__law_widths : He.DefD := ⟨("_law_widths", none), "_law_widths", "_law_widths", defArgs s__law_widths, defBody s__law_widths, defScope s__law_widths, [], []⟩
def dd__law_all : He.DefD := ⟨("_law_all", none), "_law_all", "_law_all", defArgs s__law_all, defBody s__law_all, defScope s__law_all, [], []⟩
def dd__law_is : He.DefD := ⟨("_law_is", none), "_law_is", "_law_is", defArgs s__law_is, defBody s__law_is, defScope s__law_is, [], []⟩
def dd__law_words_right : He.DefD := ⟨("_law_words_right", none), "_law_words_right", "_law_words_right", defArgs s__law_words_right, defBody s__law_words_right, defScope s__law_words_right, [], []⟩
def dd__law_far_right : He.DefD := ⟨("_law_far_right", none), "_law_far_right", "_law_far_right", defArgs s__law_far_right, defBody s__law_far_right, defScope s__law_far_right, [], []⟩
def dd_law : He.DefD := ⟨("law", none), "law", "law", defArgs s_law, defBody s_law, defScope s_law, [], []⟩
def fn : List He.DefD := [dd_BadRow___init__, dd_is_whole, dd_is_name, dd_row_count, dd_check_widths, dd_check_row, dd_row_number, dd_row_at, dd__law_bag, dd__law_draw, dd__law_good, dd__law_widths_told, dd__law_row_right, dd__law_widths, dd__law_all, dd__law_is, dd__law_words_right, dd__law_far_right, dd_law]
theorem tx_of {K : PySem.W.Frag} {h : Heap} {mg : Str → Option Value} (X : K.In h) (G : h.Ns mainGlobals mg) (c : SaysF fb fn K) : Tx K mg := by
  have top := c.all.1
  obtain ⟨z0, top⟩ := He.ba top
  obtain ⟨z1, top⟩ := He.ba top
  obtain ⟨z2, top⟩ := He.ba top
  obtain ⟨z3, top⟩ := He.ba top
  have z4 := top
  obtain ⟨q0_0, z0⟩ := He.ba z0
  obtain ⟨q0_1, z0⟩ := He.ba z0
  obtain ⟨q0_2, z0⟩ := He.ba z0
  obtain ⟨q0_3, z0⟩ := He.ba z0
  obtain ⟨q0_4, z0⟩ := He.ba z0
  obtain ⟨q0_5, z0⟩ := He.ba z0
  obtain ⟨q0_6, z0⟩ := He.ba z0
  obtain ⟨q0_7, z0⟩ := He.ba z0
  obtain ⟨q0_8, z0⟩ := He.ba z0
  obtain ⟨q0_9, z0⟩ := He.ba z0
  obtain ⟨q0_10, z0⟩ := He.ba z0
  have q0_11 := z0
  obtain ⟨q1_0, z1⟩ := He.ba z1
  obtain ⟨q1_1, z1⟩ := He.ba z1
  obtain ⟨q1_2, z1⟩ := He.ba z1
  obtain ⟨q1_3, z1⟩ := He.ba z1
  obtain ⟨q1_4, z1⟩ := He.ba z1
  obtain ⟨q1_5, z1⟩ := He.ba z1
  obtain ⟨q1_6, z1⟩ := He.ba z1
  obtain ⟨q1_7, z1⟩ := He.ba z1
  obtain ⟨q1_8, z1⟩ := He.ba z1
  obtain ⟨q1_9, z1⟩ := He.ba z1
  obtain ⟨q1_10, z1⟩ := He.ba z1
  have q1_11 := z1
  obtain ⟨q2_0, z2⟩ := He.ba z2
  obtain ⟨q2_1, z2⟩ := He.ba z2
  obtain ⟨q2_2, z2⟩ := He.ba z2
  obtain ⟨q2_3, z2⟩ := He.ba z2
  obtain ⟨q2_4, z2⟩ := He.ba z2
  obtain ⟨q2_5, z2⟩ := He.ba z2
  obtain ⟨q2_6, z2⟩ := He.ba z2
  obtain ⟨q2_7, z2⟩ := He.ba z2
  obtain ⟨q2_8, z2⟩ := He.ba z2
  obtain ⟨q2_9, z2⟩ := He.ba z2
  obtain ⟨q2_10, z2⟩ := He.ba z2
  have q2_11 := z2
  obtain ⟨q3_0, z3⟩ := He.ba z3
  obtain ⟨q3_1, z3⟩ := He.ba z3
  obtain ⟨q3_2, z3⟩ := He.ba z3
  obtain ⟨q3_3, z3⟩ := He.ba z3
  obtain ⟨q3_4, z3⟩ := He.ba z3
  obtain ⟨q3_5, z3⟩ := He.ba z3
  obtain ⟨q3_6, z3⟩ := He.ba z3
  obtain ⟨q3_7, z3⟩ := He.ba z3
  obtain ⟨q3_8, z3⟩ := He.ba z3
  obtain ⟨q3_9, z3⟩ := He.ba z3
  obtain ⟨q3_10, z3⟩ := He.ba z3
  have q3_11 := z3
  obtain ⟨q4_0, z4⟩ := He.ba z4
  obtain ⟨q4_1, z4⟩ := He.ba z4
  obtain ⟨q4_2, z4⟩ := He.ba z4
  obtain ⟨q4_3, z4⟩ := He.ba z4
  obtain ⟨q4_4, z4⟩ := He.ba z4
  obtain ⟨q4_5, z4⟩ := He.ba z4
  obtain ⟨q4_6, z4⟩ := He.ba z4
  obtain ⟨q4_7, z4⟩ := He.ba z4
  have q4_8 := z4
  exact ⟨He.free_ok X G q0_0,
    He.free_ok X G q0_1,
    He.free_ok X G q0_2,
    He.free_ok X G q0_3,
    He.free_ok X G q0_4,
    He.free_ok X G q0_5,
    He.free_ok X G q0_6,
    He.free_ok X G q0_7,
    He.free_ok X G q0_8,
    He.free_ok X G q0_9,
    He.free_ok X G q0_10,
    He.free_ok X G q0_11,
    He.free_ok X G q1_0,
    He.free_ok X G q1_1,
    He.free_ok X G q1_2,
    He.str_ok X G q1_3,
    He.int_ok X G q1_4,
    He.int_ok X G q1_5,
    He.int_ok X G q1_6,
    He.int_ok X G q1_7,
    He.glo_ok X G q1_8,
    excB_ok q1_9,
    of_decide_eq_true q1_10,
    q1_11,
    q2_0,
    of_decide_eq_true q2_1,
    He.glo_ok X G q2_2,
    excB_ok q2_3,
    of_decide_eq_true q2_4,
    q2_5,
    q2_6,
    of_decide_eq_true q2_7,
    He.glo_ok X G q2_8,
    excB_ok q2_9,
    of_decide_eq_true q2_10,
    oexB_ok q2_11,
    of_decide_eq_true q3_0,
    of_decide_eq_true q3_1,
    of_decide_eq_true q3_2,
    c.def_ (d := dd_BadRow___init__) (by simp only [fn, List.mem_cons, true_or, or_true]),
    He.glo_ok X G q3_3,
    c.def_ (d := dd_is_whole) (by simp only [fn, List.mem_cons, true_or, or_true]),
    He.glo_ok X G q3_4,
    c.def_ (d := dd_is_name) (by simp only [fn, List.mem_cons, true_or, or_true]),
    He.glo_ok X G q3_5,
    c.def_ (d := dd_row_count) (by simp only [fn, List.mem_cons, true_or, or_true]),
    He.glo_ok X G q3_6,
    c.def_ (d := dd_check_widths) (by simp only [fn, List.mem_cons, true_or, or_true]),
    He.glo_ok X G q3_7,
    c.def_ (d := dd_check_row) (by simp only [fn, List.mem_cons, true_or, or_true]),
    He.glo_ok X G q3_8,
    c.def_ (d := dd_row_number) (by simp only [fn, List.mem_cons, true_or, or_true]),
    He.glo_ok X G q3_9,
    c.def_ (d := dd_row_at) (by simp only [fn, List.mem_cons, true_or, or_true]),
    He.glo_ok X G q3_10,
    c.def_ (d := dd__law_bag) (by simp only [fn, List.mem_cons, true_or, or_true]),
    He.glo_ok X G q3_11,
    c.def_ (d := dd__law_draw) (by simp only [fn, List.mem_cons, true_or, or_true]),
    He.glo_ok X G q4_0,
    c.def_ (d := dd__law_good) (by simp only [fn, List.mem_cons, true_or, or_true]),
    He.glo_ok X G q4_1,
    c.def_ (d := dd__law_widths_told) (by simp only [fn, List.mem_cons, true_or, or_true]),
    He.glo_ok X G q4_2,
    c.def_ (d := dd__law_row_right) (by simp only [fn, List.mem_cons, true_or, or_true]),
    He.glo_ok X G q4_3,
    c.def_ (d := dd__law_widths) (by simp only [fn, List.mem_cons, true_or, or_true]),
    He.glo_ok X G q4_4,
    c.def_ (d := dd__law_all) (by simp only [fn, List.mem_cons, true_or, or_true]),
    He.glo_ok X G q4_5,
    c.def_ (d := dd__law_is) (by simp only [fn, List.mem_cons, true_or, or_true]),
    He.glo_ok X G q4_6,
    c.def_ (d := dd__law_words_right) (by simp only [fn, List.mem_cons, true_or, or_true]),
    He.glo_ok X G q4_7,
    c.def_ (d := dd__law_far_right) (by simp only [fn, List.mem_cons, true_or, or_true]),
    He.glo_ok X G q4_8,
    c.def_ (d := dd_law) (by simp only [fn, List.mem_cons, true_or, or_true])⟩
section
variable {P : Program} {w : World} {K : PySem.W.Frag} {mg : Str → Option Value} {base : Heap} {f : Addr} {fd : FuncData}
/-! ### the law's bag of draws -/
theorem ok_bag (T : Tx K mg) : ∃ fd, FnOk P w K mg base CX0 1 (He.ga K "_law_bag") fd ["script"] (spBag K) ∧ FnP K "_law_bag" "_law_bag" s__law_bag [] (He.ga K "_law_bag") fd := by
  obtain ⟨fd, F⟩ := T.d__law_bag
  refine ⟨fd, F.ok sc__law_bag (fun vs H Q E h => ?_) (fun cdv A outer s H vs Q E hr h => ?_), F⟩
  · obtain ⟨a, ns, rfl, _⟩ := h
    rfl
  · obtain ⟨a, ns, rfl, hS, k⟩ := h
    refine ⟨_, PSs.nox (pss_one (ps_ret (pe_lst (pa_cons (pe_lc (own := [("cell", 1)]) (g := gName 1) (tt := tYes) (by rfl) sc__law_bag.nd (pi_list (pe_slice sl_list (pv 0) po_none (po_some pe_int))) (blkOk_by (N := ["script", "cell"]) (sc := defScope s__law_bag) (by decide +kernel)) (fun _ _ _ _ _ => (pg_name (i := 1) sc__law_bag.nd rfl (Or.inl rfl))) (fun _ _ _ _ _ => pts_nil) (fun _ _ _ _ _ => (pe_callTy call_int1 (by rfl) T.n_int (by decide +kernel) (pa_cons (pv 1) pa_nil)))) (pa_cons pe_int (pa_cons pe_int (pa_cons pe_int (pa_cons pe_int pa_nil)))))))), ?_⟩
    refine ⟨_, rfl, 63, rfl, a, _, rfl, hS, fun q nq => ?_⟩
    rw [cut63]
    obtain ⟨l, hl, hl63⟩ : ∃ l, l = ns.take 63 ∧ l.length ≤ 63 := ⟨_, rfl, by rw [List.length_take]; omega⟩
    rw [← hl]
    have s1 : Same H (upd H q (.lst (l.map V.int))) := same_new nq
    refine ⟨q, rfl, ⟨_, .inl (.inl upd_same)⟩, fun D nD => ?_⟩
    have nDq : D ≠ q := fun z => by
      rw [z, upd_same] at nD
      cases nD
    have nDH : H D = none := by
      rw [upd_ne nDq] at nD
      exact nD
    refine lc_list (K := K) (a := q) (xs := l.map V.int) (fun i H' => Same H H' ∧ H' q = some (.lst (l.map V.int)) ∧ H' D = some (.lst ((l.take i).map V.int))) ⟨?_, ?_, ?_⟩ (fun i H' _ h => .inl (.inl h.2.1)) ?_ ?_
    · exact s1.trans (same_new nD)
    · rw [upd_ne nDq.symm, upd_same]
    · rw [upd_same]
      rfl
    · rintro i x H' hx ⟨e1, e2, e3⟩
      obtain ⟨z, hz, rfl⟩ : ∃ z, l[i]? = some z ∧ x = V.int z := by
        rw [List.getElem?_map] at hx
        cases e : l[i]? with
        | none =>
          rw [e] at hx
          cases hx
        | some z =>
          rw [e] at hx
          exact ⟨z, rfl, (Option.some.inj hx).symm⟩
      have hi : i < 63 := by
        have h1 := (List.getElem?_eq_some_iff.mp hz).1
        omega
      refine ⟨rfl, ⟨_, rfl, .inl ⟨z, rfl, _, e3, ?_, ?_, ?_, ?_⟩⟩⟩
      · rw [List.length_map, List.length_take]
        exact small1000 (by omega)
      · exact fun b o h => by
          rw [upd_ne (ne_of_none h nDH)]
          exact e1 b o h
      · rw [upd_ne nDq.symm]
        exact e2
      · rw [upd_same, List.take_add_one, hz, List.map_append]
        rfl
    · rintro H' ⟨e1, e2, e3⟩
      rw [List.length_map, List.take_length] at e3
      refine ⟨by show 5 ≤ sizeLine; decide, fun b nb => ?_⟩
      have nbD : b ≠ D := (ne_of_none e3 nb).symm
      refine k b D _ (e1.free nb) nDH (e1.trans (same_new nb)) ⟨l, 0, 0, 0, 20021, upd_same, by rw [upd_ne nbD.symm]; exact e3, by decide, by decide, by decide, by decide⟩
theorem C_bag (T : Tx K mg) : Cal P w K mg base CX0 1 "_law_bag" ["script"] [] (spBag K) := by
  obtain ⟨fd, G, F⟩ := ok_bag (P := P) (w := w) (base := base) T
  exact ⟨_, fd, [], G, T.g__law_bag, F.kp, F.bindsN fun _ _ _ _ _ _ us hl => match us, hl with | [_], _ => rfl, .nil⟩
theorem ok_draw (T : Tx K mg) : ∃ fd, FnOk P w K mg base CX0 1 (He.ga K "_law_draw") fd ["bag", "limit"] spDraw ∧ FnP K "_law_draw" "_law_draw" s__law_draw [] (He.ga K "_law_draw") fd := by
  obtain ⟨fd, F⟩ := T.d__law_draw
  refine ⟨fd, F.ok sc__law_draw (fun vs H Q E h => ?_) (fun cdv A outer s H vs Q E hr h => ?_), F⟩
  · obtain ⟨b, c, lim, n, rfl, _⟩ := h
    rfl
  · obtain ⟨b, c, lim, n, rfl, B, h0, h200, hn, k⟩ := h
    have wd : ∀ i : Int, CDivW i lim := fun i => wide_div h0 (b := 200) (by have := h200; omega) (by decide) (by decide)
    have hcb := B.two
    obtain ⟨ns, p, r, kk, m, hb, hc, k0, kn, m0, m1⟩ := B
    have md : ∀ i : Int, 0 ≤ i % lim ∧ i % lim < lim := fun i => ⟨Int.emod_nonneg i (by omega), Int.emod_lt_of_pos i h0⟩
    refine ⟨_, PSs.nox (pss_cons (ps_asg (pe_op op_add (pe_ix ix_list (pv 0) pe_int (fun _ _ => rfl)) pe_int) (pg_sub (pv 0) pe_int set_list))
      (pss_cons (ps_if (pt_cmpR op_gt (pe_ix ix_list (pv 0) pe_int (fun _ _ => rfl)) pe_int (nomark _))
        (pss_cons (ps_set (i := 2) sc__law_draw.nd rfl (Or.inl rfl) (pe_op op_mod (pe_callTy call_int1 (by rfl) T.n_int (by decide +kernel) (pa_cons (pe_ix ix_list (pv 0) pe_int (fun _ _ => rfl)) pa_nil)) (pv 1)))
        (pss_cons (ps_asg (pe_op op_fdivW (pe_ix ix_list (pv 0) pe_int (fun _ _ => rfl)) (pv 1)) (pg_sub (pv 0) pe_int set_list))
        (pss_one (ps_ret (pv 2)))))
        pss_nil)
      (pss_cons (ps_set (i := 3) sc__law_draw.nd rfl (Or.inl rfl) (pe_ix ix_list (pv 0) pe_int (fun _ _ => rfl)))
      (pss_cons (ps_if (pt_cmpR op_lt (pe_ix ix_list (pv 0) pe_int (fun _ _ => rfl)) (pe_callB call_len_seq (by rfl) T.n_len (by decide +kernel) (pa_cons (pe_ix ix_list (pv 0) pe_int (fun _ _ => rfl)) pa_nil)) (nomark _))
        (pss_cons (ps_set (i := 3) sc__law_draw.nd rfl (Or.inl rfl) (pe_ix ix_list (pe_ix ix_list (pv 0) pe_int (fun _ _ => rfl)) (pe_ix ix_list (pv 0) pe_int (fun _ _ => rfl)) (fun _ _ => rfl)))
        (pss_cons (ps_asg (pe_op op_add (pe_ix ix_list (pv 0) pe_int (fun _ _ => rfl)) pe_int) (pg_sub (pv 0) pe_int set_list))
        (pss_one (ps_if (pt_cmpR op_ge (pe_callB call_abs (by rfl) T.n_abs (by decide +kernel) (pa_cons (pv 3) pa_nil)) (pe_op op_pow pe_int pe_int) (nomark _))
          (pss_cons (ps_asg (pe_op op_fdivW (pe_callB call_abs (by rfl) T.n_abs (by decide +kernel) (pa_cons (pv 3) pa_nil)) (pv 1)) (pg_sub (pv 0) pe_int set_list))
          (pss_one (ps_ret (pe_op op_mod (pe_callTy call_int1 (by rfl) T.n_int (by decide +kernel) (pa_cons (pe_callB call_abs (by rfl) T.n_abs (by decide +kernel) (pa_cons (pv 3) pa_nil)) pa_nil)) (pv 1)))))
          pss_nil))))
        pss_nil)
      (pss_cons (ps_set (i := 4) sc__law_draw.nd rfl (Or.inl rfl) (pe_op op_mod (pe_callTy call_int1 (by rfl) T.n_int (by decide +kernel) (pa_cons (pe_op op_add (pe_op op_add (pe_op op_add (pe_op op_mul (pe_ix ix_list (pv 0) pe_int (fun _ _ => rfl)) pe_int) (pe_op op_mul (pe_op op_mod (pe_callTy call_int1 (by rfl) T.n_int (by decide +kernel) (pa_cons (pv 3) pa_nil)) pe_int) pe_int)) (pe_op op_mul (pe_ix ix_list (pv 0) pe_int (fun _ _ => rfl)) pe_int)) pe_int) pa_nil)) pe_int))
      (pss_cons (ps_asg (pv 4) (pg_sub (pv 0) pe_int set_list))
      (pss_cons (ps_set (i := 5) sc__law_draw.nd rfl (Or.inl rfl) (pe_op op_mod (pe_callTy call_int1 (by rfl) T.n_int (by decide +kernel) (pa_cons (pe_op op_add (pe_op op_add (pe_op op_mul (pv 4) pe_int) (pe_op op_mul (pe_op op_mul (pe_ix ix_list (pv 0) pe_int (fun _ _ => rfl)) (pe_ix ix_list (pv 0) pe_int (fun _ _ => rfl))) pe_int)) (pe_op op_fdiv (pv 4) pe_int)) pa_nil)) pe_int))
      (pss_one (ps_ret (pe_op op_mod (pe_callTy call_int1 (by rfl) T.n_int (by decide +kernel) (pa_cons (pe_op op_fdiv (pv 5) pe_int) pa_nil)) (pv 1))))))))))), ?_⟩
    -- bag[3] = bag[3] + 1
    refine ⟨_, rfl, b, _, 3, _, rfl, rfl, SqL.of hb, rfl, _, _, rfl, rfl, _, rfl, b, _, 3, 3, rfl, rfl, hb, rfl, ?_⟩
    -- the end, from any cell and any state that the branch between has left
    have fin : ∀ (σ2 σ3 σ5 : Option V) (cell : Int) (p' : Nat) (H1 : Hp), Off b H H1 → H1 b = some (bagO c p' r (kk + 1) m) →
        tSeq (tAsg (tOp (rI (fun _ j => 0 < j) fun i j => .int (i % j)) (tCB (fun xs H Q => (∃ i, xs = [.int i] ∧ Q (.int i) H) ∨ ∃ k, xs = [.bl k] ∧ Q (.int (if k then 1 else 0)) H) (tCons (tOp (rI0 fun i j => .int (i + j)) (tOp (rI0 fun i j => .int (i + j)) (tOp (rI0 fun i j => .int (i + j))
          (tOp (rI CMul fun i j => .int (i * j)) (tOp (rIxL K) (tVar 0) (tC (.int 4))) (tC (.int 48271)))
          (tOp (rI CMul fun i j => .int (i * j)) (tOp (rI (fun _ j => 0 < j) fun i j => .int (i % j)) (tCB (fun xs H Q => (∃ i, xs = [.int i] ∧ Q (.int i) H) ∨ ∃ k, xs = [.bl k] ∧ Q (.int (if k then 1 else 0)) H) (tCons (tVar 3) tNil)) (tC (.int 2147483629))) (tC (.int 69621))))
          (tOp (rI CMul fun i j => .int (i * j)) (tOp (rIxL K) (tVar 0) (tC (.int 3))) (tC (.int 7919)))) (tC (.int 11))) tNil)) (tC (.int 2147483647))) (gName 4))
        (tSeq (tAsg (tVar 4) (gSub (tVar 0) (tC (.int 4)) rSetL))
        (tSeq (tAsg (tOp (rI (fun _ j => 0 < j) fun i j => .int (i % j)) (tCB (fun xs H Q => (∃ i, xs = [.int i] ∧ Q (.int i) H) ∨ ∃ k, xs = [.bl k] ∧ Q (.int (if k then 1 else 0)) H) (tCons (tOp (rI0 fun i j => .int (i + j)) (tOp (rI0 fun i j => .int (i + j))
          (tOp (rI CMul fun i j => .int (i * j)) (tVar 4) (tC (.int 16807)))
          (tOp (rI CMul fun i j => .int (i * j)) (tOp (rI CMul fun i j => .int (i * j)) (tOp (rIxL K) (tVar 0) (tC (.int 3))) (tOp (rIxL K) (tVar 0) (tC (.int 3)))) (tC (.int 104729))))
          (tOp (rI CDiv fun i j => .int (i / j)) (tVar 4) (tC (.int 65536)))) tNil)) (tC (.int 998244353))) (gName 5))
        (tRet (tOp (rI (fun _ j => 0 < j) fun i j => .int (i % j)) (tCB (fun xs H Q => (∃ i, xs = [.int i] ∧ Q (.int i) H) ∨ ∃ k, xs = [.bl k] ∧ Q (.int (if k then 1 else 0)) H) (tCons (tOp (rI CDiv fun i j => .int (i / j)) (tVar 5) (tC (.int 7))) tNil)) (tVar 1))))) { nx := fun _ H' => Q .non H', rt := Q }
          [some (.ref b), some (.int lim), σ2, some (.int cell), σ3, σ5] H1 := fun σ2 σ3 σ5 cell p' H1 off e1 => by
      refine ⟨_, rfl, b, _, 4, _, rfl, rfl, SqL.of e1, rfl, _, _, rfl, rfl, .inr ⟨by decide, by decide⟩, ?_⟩
      refine ⟨_, rfl, .inl ⟨_, rfl, _, _, rfl, rfl, (by show (0 : Int) < 2147483629; decide), _, _, rfl, rfl, .inr ⟨by decide, by decide⟩, _, _, rfl, rfl, ?_⟩⟩
      refine ⟨_, rfl, b, _, 3, _, rfl, rfl, SqL.of e1, rfl, _, _, rfl, rfl, .inr ⟨by decide, by decide⟩, _, _, rfl, rfl, _, _, rfl, rfl, .inl ⟨_, rfl, _, _, rfl, rfl, (by show (0 : Int) < 2147483647; decide), ?_⟩⟩
      generalize hm : (m * 48271 + cell % 2147483629 * 69621 + (kk + 1) * 7919 + 11) % 2147483647 = mm
      have mm0 : 0 ≤ mm := by rw [← hm]; exact Int.emod_nonneg _ (by decide)
      have mm1 : mm < 2147483647 := by rw [← hm]; exact Int.emod_lt_of_pos _ (by decide)
      refine ⟨_, rfl, _, rfl, b, _, 4, 4, rfl, rfl, e1, rfl, ?_⟩
      have c1 : CMul (kk + 1) (kk + 1) := .inl ⟨by omega, by omega⟩
      refine ⟨_, rfl, _, _, rfl, rfl, .inr ⟨by decide, by decide⟩, _, rfl, b, _, 3, _, rfl, rfl, SqL.of upd_same, rfl, _, rfl, b, _, 3, _, rfl, rfl, SqL.of upd_same, rfl, _, _, rfl, rfl, c1, _, _, rfl, rfl, .inr ⟨by decide, by decide⟩, _, _, rfl, rfl,
        _, rfl, _, _, rfl, rfl, ⟨by decide, by decide⟩, _, _, rfl, rfl, .inl ⟨_, rfl, _, _, rfl, rfl, (by show (0 : Int) < 998244353; decide), ?_⟩⟩
      refine ⟨_, rfl, _, _, rfl, rfl, ⟨by decide, by decide⟩, .inl ⟨_, rfl, _, rfl, _, _, rfl, rfl, h0, ?_⟩⟩
      exact k _ _ (md _).1 (md _).2 (off.trans Off.upd) ⟨ns, p', r, kk + 1, mm, by rw [← hm]; exact upd_same, by rw [upd_ne hcb]; exact off.at hcb hc, by omega, by omega, mm0, mm1⟩
    -- if bag[2] > 0
    refine ⟨_, rfl, b, _, 2, _, rfl, rfl, SqL.of upd_same, rfl, _, _, rfl, rfl, _, rfl, ite2 (fun c2 => ?_) (fun c2 => ?_)⟩
    · refine ⟨_, rfl, b, _, 2, _, rfl, rfl, SqL.of upd_same, rfl, .inl ⟨_, rfl, _, rfl, _, _, rfl, rfl, h0, ?_⟩⟩
      refine ⟨_, rfl, b, _, 2, _, rfl, rfl, SqL.of upd_same, rfl, _, rfl, _, _, rfl, rfl, wd _, _, rfl, b, _, 2, 2, rfl, rfl, upd_same, rfl, ?_⟩
      rw [upd_upd]
      exact ⟨_, rfl, k _ _ (md r).1 (md r).2 Off.upd ⟨ns, p, r / lim, kk + 1, m, upd_same, by rw [upd_ne hcb]; exact hc, by omega, by omega, m0, m1⟩⟩
    -- cell = bag[3]; if bag[1] < len(bag[0])
    refine ⟨_, rfl, b, _, 3, _, rfl, rfl, SqL.of upd_same, rfl, ?_⟩
    have hc1 : (upd H b (bagO c p r (kk + 1) m)) c = some (.lst (ns.map V.int)) := by rw [upd_ne hcb]; exact hc
    refine ⟨_, rfl, b, _, 1, _, rfl, rfl, SqL.of upd_same, rfl, _, rfl, b, _, 0, _, rfl, rfl, SqL.of upd_same, rfl, c, _, rfl, .inl (SqL.of hc1), _, _, rfl, rfl, _, rfl, ite2 (fun c3 => ?_) (fun c3 => ?_)⟩
    · have hp : p < ns.length := by
        have z := of_decide_eq_true c3
        rw [List.length_map] at z
        omega
      have at_ : atI (ns.map V.int) ((p : Nat) : Int) = some (.int ns[p]) := atI_nat (by rw [List.getElem?_map, List.getElem?_eq_getElem hp]; rfl)
      refine ⟨_, rfl, b, _, 0, _, rfl, rfl, SqL.of upd_same, rfl, _, rfl, b, _, 1, _, rfl, rfl, SqL.of upd_same, rfl, c, _, _, _, rfl, rfl, SqL.of hc1, at_, ?_⟩
      refine ⟨_, rfl, b, _, 1, _, rfl, rfl, SqL.of upd_same, rfl, _, _, rfl, rfl, _, rfl, b, _, 1, 1, rfl, rfl, upd_same, rfl, ?_⟩
      rw [upd_upd]
      refine ⟨_, rfl, _, rfl, _, _, rfl, rfl, ⟨by decide, by decide, by decide⟩, _, _, rfl, rfl, _, rfl, ite2 (fun c4 => ?_) (fun c4 => ?_)⟩
      · refine ⟨_, rfl, _, rfl, _, rfl, _, _, rfl, rfl, wd _, _, rfl, b, _, 2, 2, rfl, rfl, upd_same, rfl, ?_⟩
        rw [upd_upd]
        refine ⟨_, rfl, _, rfl, .inl ⟨_, rfl, _, rfl, _, _, rfl, rfl, h0, ?_⟩⟩
        exact k _ _ (md _).1 (md _).2 Off.upd ⟨ns, p + 1, _, kk + 1, m, upd_same, by rw [upd_ne hcb]; exact hc, by omega, by omega, m0, m1⟩
      · exact fin _ _ _ _ (p + 1) _ Off.upd upd_same
    · exact fin _ _ _ _ p _ Off.upd upd_same
theorem C_draw (T : Tx K mg) : Cal P w K mg base CX0 1 "_law_draw" ["bag", "limit"] [] spDraw := by
  obtain ⟨fd, G, F⟩ := ok_draw (P := P) (w := w) (base := base) T
  exact ⟨_, fd, [], G, T.g__law_draw, F.kp, F.bindsN fun _ _ _ _ _ _ us hl => match us, hl with | [_, _], _ => rfl, .nil⟩

end
end K02

set_option maxRecDepth 100000
set_option maxHeartbeats 4000000
namespace K02
open PySem PySem.Spec PyProof.Rows L2 Q
section
variable {P : Program} {w : World} {K : PySem.W.Frag} {mg : Str → Option Value} {base : Heap} {f : Addr} {fd : FuncData}
/-! ### is_whole, its bounds given or not -/
theorem ok_wholeG (T : Tx K mg) : ∃ fd, FnOk P w K mg base CX0 1 (He.ga K "is_whole") fd ["thing", "low", "high"] spWholeG ∧ FnP K "is_whole" "is_whole" s_is_whole [.non, .non] (He.ga K "is_whole") fd := by
  obtain ⟨fd, F⟩ := T.d_is_whole
  refine ⟨fd, F.ok sc_is_whole (fun vs H Q E h => ?_) (fun cdv A outer s H vs Q E hr h => ?_), F⟩
  · obtain ⟨v, lo, hi, t, rfl, _⟩ := h
    rfl
  · obtain ⟨v, lo, hi, t, rfl, kn, bl, bh, q⟩ := h
    refine ⟨_, PSs.nox (pss_cons (ps_if (PW.pt (pw_or (pt_not (pt_val (pe_callB call_isi (by rfl) T.n_isinstance (by decide +kernel) (pa_cons (pv 0) (pa_cons (pe_bltn (v := .ty "int") (u := .type "int") (by rfl) T.n_int (by decide +kernel) rfl) pa_nil))))) (pw_or1 (pt_val (pe_callB call_isi (by rfl) T.n_isinstance (by decide +kernel) (pa_cons (pv 0) (pa_cons (pe_bltn (v := .ty "bool") (u := .type "bool") (by rfl) T.n_bool (by decide +kernel) rfl) pa_nil)))))))
        (pss_one (ps_ret pe_bl))
        pss_nil)
      (pss_cons (ps_if (PW.pt (pw_and (pt_cmpR op_notN (pv 1) pe_non (nomark _)) (pw_and1 (pt_cmpR op_lt (pv 0) (pv 1) (nomark _)))))
        (pss_one (ps_ret pe_bl))
        pss_nil)
      (pss_one (ps_ret (pe_or (pe_cmpR op_isN (pv 2) pe_non (nomark _)) (pe_one (pe_cmpR op_le (pv 0) (pv 2) (nomark _)))))))), ?_⟩
    rcases kn.whole (K := K) with ⟨i, rfl, a1, a2⟩ | ⟨a, nv, no⟩
    · refine ⟨_, rfl, _, _, _, _, _, rfl, .ty _, kn.ty, a1, _, rfl, iteF ⟨_, rfl, _, _, _, _, _, rfl, .ty _, kn.ty, a2, _, rfl, iteF ?_⟩⟩
      have q' : Q (.bl (loB lo i && hiB hi i)) H := q
      rcases bl with rfl | ⟨l, rfl⟩
      · refine ⟨_, rfl, rfl, _, rfl, iteF ?_⟩
        rcases bh with rfl | ⟨h, rfl⟩
        · exact ⟨_, rfl, rfl, _, rfl, iteT q'⟩
        · exact ⟨_, rfl, rfl, _, rfl, iteF ⟨_, rfl, _, rfl, _, _, rfl, rfl, q'⟩⟩
      · refine ⟨_, rfl, rfl, _, rfl, iteT ⟨_, rfl, _, rfl, _, _, rfl, rfl, _, rfl, ite2 (fun c => ?_) (fun c => ?_)⟩⟩
        · have z := of_decide_eq_true c
          have e : loB (.int l) i = false := decide_eq_false (by omega)
          rw [e, Bool.false_and] at q'
          exact q'
        · have z : ¬ i < l := fun z => c (decide_eq_true z)
          have e : loB (.int l) i = true := decide_eq_true (by omega)
          rw [e, Bool.true_and] at q'
          rcases bh with rfl | ⟨h, rfl⟩
          · exact ⟨_, rfl, rfl, _, rfl, iteT q'⟩
          · exact ⟨_, rfl, rfl, _, rfl, iteF ⟨_, rfl, _, rfl, _, _, rfl, rfl, q'⟩⟩
    · rw [wholeG_no nv] at q
      rcases a with ⟨a1, a2⟩ | a1
      · exact ⟨_, rfl, _, _, _, _, _, rfl, .ty _, kn.ty, a1, _, rfl, iteF ⟨_, rfl, _, _, _, _, _, rfl, .ty _, kn.ty, a2, _, rfl, iteT q⟩⟩
      · exact ⟨_, rfl, _, _, _, _, _, rfl, .ty _, kn.ty, a1, _, rfl, iteT (iteT q)⟩
theorem C_is_wholeG (T : Tx K mg) : Cal P w K mg base CX0 1 "is_whole" ["thing", "low", "high"] [] spWholeG := by
  obtain ⟨fd, G, F⟩ := ok_wholeG (P := P) (w := w) (base := base) T
  obtain ⟨ds, v, b⟩ := F.binds1 (ps := ["thing", "low", "high"]) 3 2 (List.cons_ne_nil _ _) rfl fun _ _ _ _ _ _ _ us its hu hi => match us, hu, its, hi with | [_, _, _], _, [_, _], _ => ⟨_, rfl, rfl⟩
  exact ⟨_, fd, ds, G, T.g_is_whole, F.kp, b, v⟩
theorem C_is_whole2 (T : Tx K mg) : Cal P w K mg base CX0 1 "is_whole" ["thing", "low", "high"] [.non] spWholeG := by
  obtain ⟨fd, G, F⟩ := ok_wholeG (P := P) (w := w) (base := base) T
  obtain ⟨ds, v, b⟩ := F.binds1 (ps := ["thing", "low", "high"]) 2 1 (List.cons_ne_nil _ _) rfl fun _ _ _ _ _ _ _ us its hu hi => match us, hu, its, hi with | [_, _], _, [_, _], _ => ⟨_, rfl, rfl⟩
  exact ⟨_, fd, ds, G, T.g_is_whole, F.kp, b, v⟩
theorem C_is_whole1 (T : Tx K mg) : Cal P w K mg base CX0 1 "is_whole" ["thing", "low", "high"] [.non, .non] spWholeG := by
  obtain ⟨fd, G, F⟩ := ok_wholeG (P := P) (w := w) (base := base) T
  obtain ⟨ds, v, b⟩ := F.binds1 (ps := ["thing", "low", "high"]) 1 0 (List.cons_ne_nil _ _) rfl fun _ _ _ _ _ _ _ us its hu hi => match us, hu, its, hi with | [_], _, [_, _], _ => ⟨_, rfl, rfl⟩
  exact ⟨_, fd, ds, G, T.g_is_whole, F.kp, b, v⟩
theorem C_is_whole (T : Tx K mg) : Cal P w K mg base CX0 1 "is_whole" ["thing", "low", "high"] [] spWhole := by
  obtain ⟨f, fd, ds, G, g, kp, b, v⟩ := (C_is_wholeG (P := P) (w := w) (base := base) T).ex
  exact ⟨f, fd, ds, FnOk.imp G fun vs H Q E ⟨x, lo, hi, t, e, kn, q⟩ => ⟨x, .int lo, .int hi, t, e, kn, .inr ⟨_, rfl⟩, .inr ⟨_, rfl⟩, by rw [wholeG_int]; exact q⟩, g, kp, b, v⟩

end
end K02

set_option maxRecDepth 100000
set_option maxHeartbeats 4000000
namespace K02
open PySem PySem.Spec PyProof.Rows L2 Q RZ RT
section
variable {P : Program} {w : World} {K : PySem.W.Frag} {mg : Str → Option Value} {base : Heap} {f : Addr} {fd : FuncData}
/-! ### row_count, row_number, row_at -/
def spCount (K : PySem.W.Frag) : Sp := fun vs H Q _ => ∃ (a : Addr) (ws : List Int), vs = [.ref a] ∧ Sq K H a (ws.map V.int) ∧ (∀ w ∈ ws, w.natAbs < 2 ^ 60) ∧ Q (.int (prodR ws.reverse)) H
theorem C_row_count (T : Tx K mg) : Cal P w K mg base CX0 1 "row_count" ["widths"] [] (spCount K) := by
  obtain ⟨fd, F⟩ := T.d_row_count
  refine ⟨_, fd, [], F.ok sc_row_count (fun vs H Q E h => ?_) (fun cdv A outer s H vs Q E hr h => ?_), T.g_row_count, F.kp, F.bindsN fun _ _ _ _ _ _ us hl => match us, hl with | [_], _ => rfl, .nil⟩
  · obtain ⟨a, ws, rfl, _⟩ := h
    rfl
  · obtain ⟨a, ws, rfl, hS, hw, q⟩ := h
    obtain ⟨k, hk⟩ := hS.b
    refine ⟨_, PSs.nox (pss_cons (ps_set (i := 1) sc_row_count.nd rfl (Or.inl rfl) pe_int)
      (pss_cons (ps_for PassesOwn.never rfl (pi_seq (pv 0)) (pg_name (i := 2) sc_row_count.nd rfl (Or.inl rfl))
        (pss_one (ps_set (i := 1) sc_row_count.nd rfl (Or.inl rfl) (pe_op op_mul (pv 1) (pv 2)))))
      (pss_one (ps_ret (pv 1))))), ?_⟩
    refine ⟨_, rfl, a, _, k, rfl, hk, for_seq (fun i σ H' => H' = H ∧ ∃ v, σ = [some (.ref a), some (.int (prodR (ws.take i).reverse)), v]) ⟨rfl, _, rfl⟩ (fun i σ H' _ h => by rw [h.1]; exact hk) ?_ ?_⟩
    · rintro i x σ H' hx ⟨rfl, v, rfl⟩
      obtain ⟨w, hw', rfl⟩ := getMap hx
      have hm := hw w (List.mem_of_getElem? hw')
      refine ⟨_, rfl, _, rfl, _, _, rfl, rfl, .inr ⟨by omega, by omega⟩, rfl, some (.int w), ?_⟩
      rw [take_rev hw']
      rfl
    · rintro σ H' ⟨rfl, v, rfl⟩
      rw [List.length_map, List.take_length]
      exact ⟨_, rfl, q⟩
def spNumber (K : PySem.W.Frag) : Sp := fun vs H Q _ => ∃ (a b : Addr) (ws rs : List Int), vs = [.ref a, .ref b] ∧ Sq K H a (ws.map V.int) ∧ Sq K H b (rs.map V.int) ∧ rs.length = ws.length ∧ (∀ w ∈ ws, w.natAbs < 2 ^ 60) ∧ ∀ H', Same H H' → Q (.int (numR ws.reverse rs.reverse)) H'
theorem C_row_number (T : Tx K mg) : Cal P w K mg base CX0 1 "row_number" ["widths", "row"] [] (spNumber K) := by
  obtain ⟨fd, F⟩ := T.d_row_number
  refine ⟨_, fd, [], F.ok sc_row_number (fun vs H Q E h => ?_) (fun cdv A outer s H vs Q E hr h => ?_), T.g_row_number, F.kp, F.bindsN fun _ _ _ _ _ _ us hl => match us, hl with | [_, _], _ => rfl, .nil⟩
  · obtain ⟨a, b, ws, rs, rfl, _⟩ := h
    rfl
  · obtain ⟨a, b, ws, rs, rfl, hA, hB, hl, hw, q⟩ := h
    obtain ⟨k1, hk1⟩ := hB.b
    obtain ⟨k2, hk2⟩ := hA.b
    refine ⟨_, PSs.nox (pss_cons (ps_set (i := 2) sc_row_number.nd rfl (Or.inl rfl) pe_int)
      (pss_cons (ps_for PassesOwn.never rfl (pi_zipS (by rfl) T.n_zip (pa_cons (pv 1) (pa_cons (pv 0) pa_nil))) (pg_tup rfl (pgs_cons (pg_name (i := 3) sc_row_number.nd rfl (Or.inl rfl)) (pgs_cons (pg_name (i := 4) sc_row_number.nd rfl (Or.inl rfl)) pgs_nil)))
        (pss_one (ps_set (i := 2) sc_row_number.nd rfl (Or.inl rfl) (pe_op op_add (pe_op op_mul (pv 2) (pv 4)) (pv 3)))))
      (pss_one (ps_ret (pv 2))))), ?_⟩
    refine ⟨_, rfl, _, rfl, b, a, _, _, k1, k2, rfl, hk1, hk2, for_zipS (by rw [List.length_map, List.length_map, hl]) (fun i σ H' => Same H H' ∧ ∃ v1 v2, σ = [some (.ref a), some (.ref b), some (.int (numR (ws.take i).reverse (rs.take i).reverse)), v1, v2]) ⟨Same.refl _, _, _, rfl⟩ (fun i σ H' h => ⟨hk1.same h.1, hk2.same h.1⟩) ?_ ?_⟩
    · rintro i x y Tp σ H' hx hy ⟨sm, v1, v2, rfl⟩ nT
      obtain ⟨r, hr', rfl⟩ := getMap hx
      obtain ⟨w, hw', rfl⟩ := getMap hy
      have hm := hw w (List.mem_of_getElem? hw')
      have sT := same_new (o := HO.tup [V.int r, V.int w]) nT
      refine ⟨Tp, _, rfl, SqT.of upd_same, rfl, _, _, rfl, _, _, rfl, rfl, ?_⟩
      refine ⟨_, rfl, _, rfl, _, _, rfl, rfl, .inr ⟨by omega, by omega⟩, _, rfl, _, _, rfl, rfl, sm.trans sT, some (.int r), some (.int w), ?_⟩
      rw [take_rev hw', take_rev hr']
      rfl
    · rintro σ H' ⟨sm, v1, v2, rfl⟩
      refine ⟨_, rfl, ?_⟩
      have e := q H' sm
      rw [List.length_map, List.take_length, hl, List.take_length]
      exact e
def spAt (K : PySem.W.Frag) : Sp := fun vs H Q _ => ∃ (a : Addr) (ws : List Int) (n : Int), vs = [.ref a, .int n] ∧ Sq K H a (ws.map V.int) ∧ (∀ w ∈ ws, 0 < w ∧ w < 2 ^ 29) ∧ ws.length ≤ 1000 ∧ ∀ (p : Addr) (H' : Hp), Same H H' → H p = none → H' p = some (.tup ((digs ws.reverse n).reverse.map V.int)) → Q (.ref p) H'
theorem C_row_at (T : Tx K mg) : Cal P w K mg base CX0 1 "row_at" ["widths", "number"] [] (spAt K) := by
  obtain ⟨fd, F⟩ := T.d_row_at
  refine ⟨_, fd, [], F.ok sc_row_at (fun vs H Q E h => ?_) (fun cdv A outer s H vs Q E hr h => ?_), T.g_row_at, F.kp, F.bindsN fun _ _ _ _ _ _ us hl => match us, hl with | [_, _], _ => rfl, .nil⟩
  · obtain ⟨a, ws, n, rfl, _⟩ := h
    rfl
  · obtain ⟨a, ws, n, rfl, hA, hw, hl, q⟩ := h
    refine ⟨_, PSs.nox (pss_cons (ps_set (i := 2) sc_row_at.nd rfl (Or.inl rfl) (pe_lst pa_nil))
      (pss_cons (ps_for PassesOwn.never rfl (pi_revA (by rfl) T.n_reversed (pe_callTy call_list_of (by rfl) T.n_list (by decide +kernel) (pa_cons (pv 0) pa_nil))) (pg_name (i := 3) sc_row_at.nd rfl (Or.inl rfl))
        (pss_cons (ps_asg (pe_callB call_divmod (by rfl) T.n_divmod (by decide +kernel) (pa_cons (pv 1) (pa_cons (pv 3) pa_nil))) (pg_tup rfl (pgs_cons (pg_name (i := 1) sc_row_at.nd rfl (Or.inl rfl)) (pgs_cons (pg_name (i := 4) sc_row_at.nd rfl (Or.inl rfl)) pgs_nil))))
        (pss_one (ps_expr (pe_bm PySem.F.plainAttrs_list PySem.F.slot_list_append PySem.F.type_list_append mt_append (pv 2) (pa_cons (pv 4) pa_nil))))))
      (pss_one (ps_ret (pe_tupRev rfl (by rfl) T.n_tuple (by rfl) T.n_reversed (pv 2)))))), ?_⟩
    refine ⟨Nat.zero_le _, fun l nl => ?_⟩
    have s1 := same_new (o := HO.lst []) nl
    refine ⟨_, rfl, a, _, rfl, hA.same s1, fun c nc => ?_⟩
    have s2 := same_new (o := HO.lst (ws.map V.int)) nc
    have lc : l ≠ c := ne_of_none upd_same nc
    refine ⟨c, ws.map V.int, rfl, .inl ⟨SqL.of upd_same, ?_⟩⟩
    refine for_Itv (K := K) (a := c) (xs := ws.map V.int) (fun i σ H' => Same H (del H' l) ∧ H' l = some (.lst ((digs (ws.reverse.take i) n).map V.int)) ∧ H' c = some (.lst (ws.map V.int)) ∧ ∃ v1 v2, σ = [some (.ref a), some (.int (quoR (ws.reverse.take i) n)), some (.ref l), v1, v2])
      ⟨?_, by rw [upd_ne lc]; exact upd_same, upd_same, _, _, rfl⟩ (fun i σ H' h => SqL.of h.2.2.1) ?_ ?_
    · intro b o e
      have nb : b ≠ l := ne_of_none e nl
      rw [del_ne nb]
      exact s2 _ _ (s1 _ _ e)
    · rintro i x σ H' hi hx ⟨sm, hl', hc, v1, v2, rfl⟩
      obtain ⟨w, hw', rfl⟩ := getMap hx
      rw [List.length_map] at hi hw'
      have hr' : ws.reverse[i]? = some w := by rw [List.getElem?_reverse hi]; exact hw'
      have hm := hw w (List.mem_of_getElem? hw')
      have tk : ws.reverse.take (i + 1) = ws.reverse.take i ++ [w] := by rw [List.take_add_one, hr']; rfl
      obtain ⟨d1, d2⟩ := digs_snoc (ws.reverse.take i) w n
      refine ⟨_, rfl, _, rfl, _, _, rfl, ⟨by omega, by omega⟩, fun p np => ?_⟩
      have lp : l ≠ p := ne_of_none hl' np
      have cp : c ≠ p := ne_of_none hc np
      refine ⟨p, _, rfl, SqT.of upd_same, rfl, _, _, rfl, _, _, rfl, rfl, ?_⟩
      have hl2 : (upd H' p (.tup [V.int (quoR (ws.reverse.take i) n / w), V.int (quoR (ws.reverse.take i) n % w)])) l = some (.lst ((digs (ws.reverse.take i) n).map V.int)) := by rw [upd_ne lp]; exact hl'
      refine ⟨_, rfl, .inl ⟨rfl, _, SqL.of hl2⟩, _, rfl, l, _, _, rfl, rfl, hl2, ?_, ?_⟩
      · rw [List.length_map, digs_len, List.length_take]
        exact small1000 (by omega)
      · refine ⟨fun b o e => ?_, by rw [upd_same, tk, d1, List.map_append]; rfl, by rw [upd_ne lc.symm, upd_ne cp]; exact hc, some (.int w), some (.int (quoR (ws.reverse.take i) n % w)), by rw [tk, d2]; rfl⟩
        have nb : b ≠ l := ne_of_none e nl
        have := sm b o e
        rw [del_ne nb] at this
        rw [del_ne nb, upd_ne nb, upd_ne (ne_of_none this np)]
        exact this
    · rintro σ H' ⟨sm, hl', hc, v1, v2, rfl⟩
      rw [List.length_map, ← List.length_reverse, List.take_length] at hl'
      refine ⟨_, rfl, l, _, rfl, SqL.of hl', fun p np => ?_⟩
      rw [← List.map_reverse]
      have keep : Same H H' := fun b o e => by
        have := sm b o e
        rwa [del_ne (ne_of_none e nl)] at this
      exact q p _ (keep.trans (same_new np)) (keep.free np) upd_same

end
end K02

set_option maxRecDepth 100000
set_option maxHeartbeats 4000000
namespace K02
open PySem PySem.Spec PyProof.Rows L2 Q RZ RT
section
variable {P : Program} {w : World} {K : PySem.W.Frag} {mg : Str → Option Value} {base : Heap} {f : Addr} {fd : FuncData}
/-! ### check_widths, check_row -/
def spCheckWidths (K : PySem.W.Frag) : Sp := fun vs H Q E => ∃ (v : V) (T : String), vs = [v] ∧ Kn H v T ∧ Itm H v ∧ (widthsOk (seqOf H v) = false → ∀ H', Same H H' → E (.ref (He.ga K "BadWidths")) none H') ∧
  (widthsOk (seqOf H v) = true → ∀ (t : Addr) (xs : List V) (H' : Hp), seqOf H v = some xs → SqT K H' t xs → Same H H' → Q (.ref t) H')
theorem C_check_widths (T : Tx K mg) : Cal P w K mg base (L2.CX P w) 2 "check_widths" ["widths"] [] (spCheckWidths K) := by
  obtain ⟨fd, F⟩ := T.d_check_widths
  have C_is_whole := C_is_whole (P := P) (w := w) (base := base) T
  have C_row_count := C_row_count (P := P) (w := w) (base := base) T
  refine ⟨_, fd, [], F.ok sc_check_widths (fun vs H Q E h => ?_) (fun cdv A outer s H vs Q E hr h => ?_), T.g_check_widths, F.kp, F.bindsN fun _ _ _ _ _ _ us hl => match us, hl with | [_], _ => rfl, .nil⟩
  · obtain ⟨v, T1, rfl, _⟩ := h
    rfl
  · obtain ⟨v, T1, rfl, kn, it, kE, kQ⟩ := h
    have two : 2 ≤ sizeLine := by decide
    refine ⟨_, (pss_cons (ps_if (PW.pt (pw_or (pt_not (pt_val (pe_callB call_isiT (by rfl) T.n_isinstance (by decide +kernel) (pa_cons (pv 0) (pa_cons (pe_tup (pa_cons (pe_bltn (v := .ty "list") (u := .type "list") (by rfl) T.n_list (by decide +kernel) rfl) (pa_cons (pe_bltn (v := .ty "tuple") (u := .type "tuple") (by rfl) T.n_tuple (by decide +kernel) rfl) pa_nil))) pa_nil))))) (pw_or1 (pt_not (pt_chain op_le op_le pe_int (pe_callB call_len_seq (by rfl) T.n_len (by decide +kernel) (pa_cons (pv 0) pa_nil)) (pe_gint T.c_MOST_COLUMNS))))))
        (pss_one (ps_raise rfl (takes_of rfl rfl rfl rfl) (pmk_own0 T.b_BadWidths T.g_BadWidths T.k_BadWidths (raises_own T.x_BadWidths.hs T.ty_BadWidths))))
        pss_nil)
      (pss_cons (ps_for (passes_of rfl) rfl (pi_seq (pv 0)) (pg_name (i := 1) sc_check_widths.nd rfl (Or.inl rfl))
        (pss_one (ps_if (pt_not (pt_val (pe_cal C_is_whole (hr.mono (by decide)) pass0 (pa_cons (pv 1) (pa_cons pe_int (pa_cons (pe_gint T.c_MOST_VALUES) pa_nil))))))
          (pss_one (ps_raise rfl (takes_of rfl rfl rfl rfl) (pmk_own0 T.b_BadWidths T.g_BadWidths T.k_BadWidths (raises_own T.x_BadWidths.hs T.ty_BadWidths))))
          pss_nil)))
      (pss_cons (ps_if (pt_cmpR op_gt (pe_cal C_row_count (hr.mono (by decide)) pass0 (pa_cons (pv 0) pa_nil)) (pe_gint T.c_MOST_ROWS) (nomark _))
        (pss_one (ps_raise rfl (takes_of rfl rfl rfl rfl) (pmk_own0 T.b_BadWidths T.g_BadWidths T.k_BadWidths (raises_own T.x_BadWidths.hs T.ty_BadWidths))))
        pss_nil)
      (pss_one (ps_ret (pe_callTy call_tupOf (by rfl) T.n_tuple (by decide +kernel) (pa_cons (pv 0) pa_nil))))))), ?_⟩
    rcases kn.seqSome with ⟨q1, a1, xs1, rfl, hs1, hh1⟩ | ⟨q1, hs1⟩
    case inr =>
      have z : PySem.W.kitAny K (.type T1) [.type "list", .type "tuple"] = some false := by rw [kn.seq, q1]
      refine ⟨_, rfl, two, fun p1 np1 => ⟨_, p1, _, _, _, _, rfl, upd_same, .cons (.ty _) (.cons (.ty _) .nil), (kn.same (same_new np1)).ty, z, _, rfl, iteT (iteT ?_)⟩⟩
      exact kE (by rw [hs1]; rfl) _ (same_new np1)
    have z1 : PySem.W.kitAny K (.type T1) [.type "list", .type "tuple"] = some true := by rw [kn.seq, q1]
    have sq1 : Sq K H a1 xs1 := sq_of hh1
    refine ⟨_, rfl, two, fun p1 np1 => ⟨_, p1, _, _, _, _, rfl, upd_same, .cons (.ty _) (.cons (.ty _) .nil), (kn.same (same_new np1)).ty, z1, _, rfl, iteF ?_⟩⟩
    have s1 := same_new (o := HO.tup [V.ty "list", V.ty "tuple"]) np1
    generalize hH1 : upd H p1 (HO.tup [V.ty "list", V.ty "tuple"]) = H1 at s1 ⊢
    have bad : ∀ H', Same H H' → ((decide (1 ≤ xs1.length) && decide (xs1.length ≤ 3)) && (xs1.all (fun v => wholeV v 1 64) && decide (prodR (xs1.map unI).reverse ≤ 4096))) = false → E (.ref (He.ga K "BadWidths")) none H' := fun H' sm e => kE (by rw [hs1]; exact e) H' sm
    refine ⟨_, rfl, _, _, rfl, sq1.same s1, _, _, rfl, rfl, _, rfl, ite2 (fun c => ?_) (fun c => ?_)⟩
    case refine_2 =>
      refine ⟨_, rfl, iteT ?_⟩
      refine bad _ s1 ?_
      have c' : ¬ 1 ≤ xs1.length := fun z => c (decide_eq_true (by omega))
      rw [decide_eq_false c', Bool.false_and, Bool.false_and]
    have l1 : 1 ≤ xs1.length := by
      have := of_decide_eq_true c
      omega
    refine ⟨_, _, rfl, rfl, _, rfl, ?_⟩
    by_cases c3 : xs1.length ≤ 3
    case neg =>
      rw [decide_eq_false (show ¬ ((xs1.length : Nat) : Int) ≤ 3 by omega)]
      refine iteT (bad _ s1 ?_)
      rw [decide_eq_false c3, Bool.and_false, Bool.false_and]
    rw [decide_eq_true (show ((xs1.length : Nat) : Int) ≤ 3 by omega)]
    refine iteF ?_
    obtain ⟨k, hk⟩ := (sq1.same s1).b
    refine ⟨_, rfl, a1, _, k, rfl, hk, for_seq (fun i σ H' => H' = H1 ∧ (∃ v2, σ = [some (.ref a1), v2]) ∧ (xs1.take i).all (fun v => wholeV v 1 64) = true) ⟨rfl, ⟨_, rfl⟩, rfl⟩ (fun i σ H' _ h => by rw [h.1]; exact hk) ?_ ?_⟩
    · rintro i x σ H' hx ⟨rfl, ⟨v2, rfl⟩, al⟩
      obtain ⟨U, ku⟩ := it xs1 hs1 x (List.mem_of_getElem? hx)
      refine ⟨_, rfl, x, 1, 64, U, rfl, ku.same s1, _, rfl, ?_⟩
      have tk : xs1.take (i + 1) = xs1.take i ++ [x] := by rw [List.take_add_one, hx]; rfl
      cases w1 : wholeV x 1 64 with
      | false =>
        refine iteT (bad _ s1 ?_)
        have : xs1.all (fun v => wholeV v 1 64) = false := by
          rw [List.all_eq_false]
          exact ⟨x, List.mem_of_getElem? hx, by rw [w1]; exact Bool.false_ne_true⟩
        rw [this, Bool.false_and, Bool.and_false]
      | true =>
        refine iteF ⟨rfl, ⟨_, rfl⟩, ?_⟩
        rw [tk, List.all_append, al, List.all_cons, w1]
        rfl
    · rintro σ H' ⟨rfl, ⟨v2, rfl⟩, al⟩
      rw [List.take_length] at al
      obtain ⟨e, bw⟩ := all_whole al
      have sqw : Sq K H' a1 ((xs1.map unI).map V.int) := by rw [← e]; exact sq1.same s1
      refine ⟨_, rfl, a1, xs1.map unI, rfl, sqw, fun w m => by have := bw w m; omega, _, _, rfl, rfl, _, rfl, ite2 (fun c => ?_) (fun c => ?_)⟩
      · refine bad _ s1 ?_
        have := of_decide_eq_true c
        rw [decide_eq_false (show ¬ prodR (xs1.map unI).reverse ≤ 4096 by omega), Bool.and_false, Bool.and_false]
      · refine ⟨_, rfl, tupOf_of (sq1.same s1) fun l H2 q2 sa _ => ?_⟩
        refine kQ ?_ l xs1 H2 hs1 q2 (s1.trans sa)
        rw [hs1]
        show ((decide (1 ≤ xs1.length) && decide (xs1.length ≤ 3)) && (xs1.all (fun v => wholeV v 1 64) && decide (prodR (xs1.map unI).reverse ≤ 4096))) = true
        have c' : prodR (xs1.map unI).reverse ≤ 4096 := by
          have : ¬ 4096 < prodR (xs1.map unI).reverse := fun z => c (decide_eq_true z)
          omega
        rw [decide_eq_true l1, decide_eq_true c3, al, decide_eq_true c']
        rfl
theorem ok_badrow (T : Tx K mg) : ∃ fd, FnOk P w K mg base CX0 1 (He.ma K (He.ga K "BadRow") "__init__") fd ["self", "row"] (spXI (He.ga K "BadRow") 1 fun vs => [("row", vs.getD 0 .non)]) ∧ Binds K fd ["self", "row"] [] := by
  obtain ⟨fd, F⟩ := T.d_BadRow___init__
  refine ⟨fd, F.ok sc_BadRow___init__ (fun vs H Q E h => ?_) (fun cdv A outer s H vs Q E hr h => ?_), F.bindsN fun _ _ _ _ _ _ us hl => match us, hl with | [_, _], _ => rfl⟩
  · obtain ⟨a, ws, rfl, hl, _⟩ := h
    show ws.length + 1 = 2
    omega
  · obtain ⟨a, ws, rfl, hl, ha, q⟩ := h
    match ws, hl with
    | [x], _ =>
      refine ⟨_, PSs.nox (pss_one (ps_ost (pv 0) (pv 1))), ?_⟩
      refine ⟨_, rfl, _, rfl, a, _, rfl, T.o_BadRow, T.noat_BadRow_row, .inl ⟨ha, fun dx nd ne => ?_⟩⟩
      exact q dx nd ne
def spCheckRow (K : PySem.W.Frag) : Sp := fun vs H Q E => ∃ (a : Addr) (ws : List Int) (v : V) (T : String), vs = [.ref a, v] ∧ Sq K H a (ws.map V.int) ∧ Kn H v T ∧ Itm H v ∧
  (rowOk ws (seqOf H v) = false → ∀ (d : Addr) (H' : Hp), Same H H' → H d = none → H' d = some (.xd [("row", v)]) → E (.ref (He.ga K "BadRow")) (some d) H') ∧
  (rowOk ws (seqOf H v) = true → ∀ (t : Addr) (xs : List V) (H' : Hp), seqOf H v = some xs → SqT K H' t xs → Same H H' → Q (.ref t) H')
theorem C_check_row (T : Tx K mg) : Cal P w K mg base (L2.CX P w) 3 "check_row" ["widths", "row"] [] (spCheckRow K) := by
  obtain ⟨fd, F⟩ := T.d_check_row
  have C_is_whole := C_is_whole (P := P) (w := w) (base := base) T
  obtain ⟨fdX, G_BadRow, b_BadRow⟩ := ok_badrow (P := P) (w := w) (base := base) T
  refine ⟨_, fd, [], F.ok sc_check_row (fun vs H Q E h => ?_) (fun cdv A outer s H vs Q E hr h => ?_), T.g_check_row, F.kp, F.bindsN fun _ _ _ _ _ _ us hl => match us, hl with | [_, _], _ => rfl, .nil⟩
  · obtain ⟨a, ws, v, T1, rfl, _⟩ := h
    rfl
  · obtain ⟨a, ws, v, T1, rfl, hA, kn, it, kE, kQ⟩ := h
    have two : 2 ≤ sizeLine := by decide
    refine ⟨_, (pss_cons (ps_if (PW.pt (pw_or (pt_not (pt_val (pe_callB call_isiT (by rfl) T.n_isinstance (by decide +kernel) (pa_cons (pv 1) (pa_cons (pe_tup (pa_cons (pe_bltn (v := .ty "list") (u := .type "list") (by rfl) T.n_list (by decide +kernel) rfl) (pa_cons (pe_bltn (v := .ty "tuple") (u := .type "tuple") (by rfl) T.n_tuple (by decide +kernel) rfl) pa_nil))) pa_nil))))) (pw_or1 (pt_cmpR op_ne (pe_callB call_len_seq (by rfl) T.n_len (by decide +kernel) (pa_cons (pv 1) pa_nil)) (pe_callB call_len_seq (by rfl) T.n_len (by decide +kernel) (pa_cons (pv 0) pa_nil)) (nomark _)))))
        (pss_one (ps_raise rfl (takes_of rfl rfl rfl rfl) (pmk_fld T.o_BadRow T.i_BadRow T.t_BadRow G_BadRow (hr.mono (by decide)) b_BadRow pass0 T.g_BadRow (by decide) (pa_cons (pv 1) pa_nil) (fun _ _ _ _ h z => let ⟨v1, e1, z⟩ := z; ⟨v1, e1, h _ _ z⟩))))
        pss_nil)
      (pss_cons (ps_for (passes_of rfl) rfl (pi_zipS (by rfl) T.n_zip (pa_cons (pv 1) (pa_cons (pv 0) pa_nil))) (pg_tup rfl (pgs_cons (pg_name (i := 2) sc_check_row.nd rfl (Or.inl rfl)) (pgs_cons (pg_name (i := 3) sc_check_row.nd rfl (Or.inl rfl)) pgs_nil)))
        (pss_one (ps_if (pt_not (pt_val (pe_cal C_is_whole (hr.mono (by decide)) pass0 (pa_cons (pv 2) (pa_cons pe_int (pa_cons (pe_op op_sub (pv 3) pe_int) pa_nil))))))
          (pss_one (ps_raise rfl (takes_of rfl rfl rfl rfl) (pmk_fld T.o_BadRow T.i_BadRow T.t_BadRow G_BadRow (hr.mono (by decide)) b_BadRow pass0 T.g_BadRow (by decide) (pa_cons (pv 1) pa_nil) (fun _ _ _ _ h z => let ⟨v1, e1, z⟩ := z; ⟨v1, e1, h _ _ z⟩))))
          pss_nil)))
      (pss_one (ps_ret (pe_callTy call_tupOf (by rfl) T.n_tuple (by decide +kernel) (pa_cons (pv 1) pa_nil)))))), ?_⟩
    rcases kn.seqSome with ⟨q1, a1, xs1, rfl, hs1, hh1⟩ | ⟨q1, hs1⟩
    case inr =>
      have z : PySem.W.kitAny K (.type T1) [.type "list", .type "tuple"] = some false := by rw [kn.seq, q1]
      refine ⟨_, rfl, two, fun p1 np1 => ⟨_, p1, _, _, _, _, rfl, upd_same, .cons (.ty _) (.cons (.ty _) .nil), (kn.same (same_new np1)).ty, z, _, rfl, iteT (iteT ?_)⟩⟩
      exact ⟨_, rfl, rfl, fun d nd => kE (by rw [hs1]; rfl) d _ ((same_new np1).trans (same_new nd)) ((same_new np1).free nd) upd_same⟩
    have z1 : PySem.W.kitAny K (.type T1) [.type "list", .type "tuple"] = some true := by rw [kn.seq, q1]
    have sq1 : Sq K H a1 xs1 := sq_of hh1
    refine ⟨_, rfl, two, fun p1 np1 => ⟨_, p1, _, _, _, _, rfl, upd_same, .cons (.ty _) (.cons (.ty _) .nil), (kn.same (same_new np1)).ty, z1, _, rfl, iteF ?_⟩⟩
    have s1 := same_new (o := HO.tup [V.ty "list", V.ty "tuple"]) np1
    generalize hH1 : upd H p1 (HO.tup [V.ty "list", V.ty "tuple"]) = H1 at s1 ⊢
    have bad : ∀ H' d, Same H H' → H' d = none → (decide (xs1.length = ws.length) && allIn ws xs1) = false → E (.ref (He.ga K "BadRow")) (some d) (upd H' d (.xd [("row", .ref a1)])) := fun H' d sm nd e => kE (by rw [hs1]; exact e) d _ (sm.trans (same_new nd)) (sm.free nd) upd_same
    refine ⟨_, rfl, _, _, rfl, sq1.same s1, _, rfl, _, _, rfl, hA.same s1, rfl, _, rfl, ite2 (fun c => ?_) (fun c => ?_)⟩
    · refine ⟨_, rfl, rfl, fun d nd => bad _ d s1 nd ?_⟩
      rw [decide_eq_false, Bool.false_and]
      intro e
      rw [List.length_map, e] at c
      simp at c
    have el : xs1.length = ws.length := by
      rw [List.length_map] at c
      simp at c
      omega
    rw [el, decide_eq_true rfl, Bool.true_and] at bad
    obtain ⟨k1, hk1⟩ := (sq1.same s1).b
    obtain ⟨k2, hk2⟩ := (hA.same s1).b
    refine ⟨_, rfl, _, rfl, a1, a, _, _, k1, k2, rfl, hk1, hk2, for_zipS (by rw [List.length_map, el]) (fun i σ H' => Same H1 H' ∧ (∃ v2 v3, σ = [some (.ref a), some (.ref a1), v2, v3]) ∧ allIn (ws.drop i) (xs1.drop i) = allIn ws xs1) ⟨Same.refl _, ⟨_, _, rfl⟩, rfl⟩ (fun i σ H' h => ⟨hk1.same h.1, hk2.same h.1⟩) ?_ ?_⟩
    · rintro i x y Tp σ H' hx hy ⟨sm, ⟨v2, v3, rfl⟩, al⟩ nT
      obtain ⟨w, hw', rfl⟩ := getMap hy
      have sT := same_new (o := HO.tup [x, V.int w]) nT
      obtain ⟨U, ku⟩ := it xs1 hs1 x (List.mem_of_getElem? hx)
      refine ⟨Tp, _, rfl, SqT.of upd_same, rfl, _, _, rfl, _, _, rfl, rfl, ?_⟩
      refine ⟨_, rfl, _, rfl, _, _, rfl, rfl, x, 0, w - 1, U, rfl, ku.same ((s1.trans sm).trans sT), _, rfl, ?_⟩
      obtain ⟨hi1, e1⟩ := List.getElem?_eq_some_iff.mp hx
      obtain ⟨hi2, e2⟩ := List.getElem?_eq_some_iff.mp hw'
      rw [List.drop_eq_getElem_cons hi1, List.drop_eq_getElem_cons hi2, e1, e2] at al
      have al' : (wholeV x 0 (w - 1) && allIn (ws.drop (i + 1)) (xs1.drop (i + 1))) = allIn ws xs1 := al
      cases w1 : wholeV x 0 (w - 1) with
      | false =>
        rw [w1, Bool.false_and] at al'
        exact iteT ⟨_, rfl, rfl, fun d nd => bad _ d ((s1.trans sm).trans sT) nd al'.symm⟩
      | true =>
        rw [w1, Bool.true_and] at al'
        exact iteF ⟨sm.trans sT, ⟨_, _, rfl⟩, al'⟩
    · rintro σ H' ⟨sm, ⟨v2, v3, rfl⟩, al⟩
      rw [List.drop_eq_nil_of_le (Nat.le_refl _), List.drop_eq_nil_of_le (by omega)] at al
      refine ⟨_, rfl, tupOf_of ((sq1.same s1).same sm) fun l H2 q2 sa _ => ?_⟩
      refine kQ ?_ l xs1 H2 hs1 q2 ((s1.trans sm).trans sa)
      rw [hs1]
      show (decide (xs1.length = ws.length) && allIn ws xs1) = true
      rw [← al, el, decide_eq_true rfl]
      rfl

end
end K02

set_option maxRecDepth 100000
set_option maxHeartbeats 4000000
namespace K02
open PySem PySem.Spec PyProof.Rows L2 Q RZ RT
section
variable {P : Program} {w : World} {K : PySem.W.Frag} {mg : Str → Option Value} {base : Heap} {f : Addr} {fd : FuncData}
/-! ### is_name -/
theorem C_is_name (T : Tx K mg) : Cal P w K mg base CX0 1 "is_name" ["thing"] [] spName := by
  obtain ⟨fd, F⟩ := T.d_is_name
  refine ⟨_, fd, [], F.ok sc_is_name (fun vs H Q E h => ?_) (fun cdv A outer s H vs Q E hr h => ?_), T.g_is_name, F.kp, F.bindsN fun _ _ _ _ _ _ us hl => match us, hl with | [_], _ => rfl, .nil⟩
  · obtain ⟨v, t, rfl, _⟩ := h
    rfl
  · obtain ⟨v, t, rfl, kn, hz, q⟩ := h
    refine ⟨_, PSs.nox (pss_cons (ps_if (PW.pt (pw_or (pt_not (pt_val (pe_callB call_isi (by rfl) T.n_isinstance (by decide +kernel) (pa_cons (pv 0) (pa_cons (pe_bltn (v := .ty "str") (u := .type "str") (by rfl) T.n_str (by decide +kernel) rfl) pa_nil))))) (pw_or1 (pt_not (pt_chain op_le op_le pe_int (pe_callB call_len_str (by rfl) T.n_len (by decide +kernel) (pa_cons (pv 0) pa_nil)) (pe_gint T.c_LONGEST_NAME))))))
        (pss_one (ps_ret pe_bl))
        pss_nil)
      (pss_one (ps_ret (pe_callB (cr_all rfl) (by rfl) T.n_all (by decide +kernel) (pa_cons (pe_lc (own := [("sign", 1)]) (g := gName 1) (tt := tYes) (by rfl) sc_is_name.nd (pi_str (pv 0)) (blkOk_by (N := ["thing", "sign"]) (sc := defScope s_is_name) (by decide +kernel)) (fun _ _ _ _ _ => (pg_name (i := 1) sc_is_name.nd rfl (Or.inl rfl))) (fun _ _ _ _ _ => pts_nil) (fun _ _ _ _ _ => (pe_cmpR op_in_sign (pv 1) (pe_gstr T.c_LETTERS) rfl))) pa_nil))))), ?_⟩
    rcases kn.isStr (K := K) with ⟨x, rfl, a1⟩ | ⟨a1, no⟩
    case inr =>
      refine ⟨_, rfl, _, _, _, _, _, rfl, .ty _, kn.ty, a1, _, rfl, iteT (iteT ?_)⟩
      have := q H (Same.refl H)
      rw [no] at this
      exact this
    have hx := hz x rfl
    have h16 : x.length ≤ sizeLine := Nat.le_trans hx (by decide)
    have nm : nameV (.str x) = ((decide (1 ≤ x.length) && decide (x.length ≤ 12)) && x.cps.toList.all inLetters) := rfl
    rw [nm] at q
    refine ⟨_, rfl, _, _, _, _, _, rfl, .ty _, kn.ty, a1, _, rfl, iteF ?_⟩
    refine ⟨_, rfl, x, rfl, h16, _, _, rfl, rfl, _, rfl, ite2 (fun c => ?_) (fun c => ?_)⟩
    case refine_2 =>
      refine ⟨_, rfl, iteT ?_⟩
      have c' : ¬ 1 ≤ x.length := fun z => c (decide_eq_true (by omega))
      have := q H (Same.refl H)
      rw [decide_eq_false c', Bool.false_and, Bool.false_and] at this
      exact this
    have l1 : 1 ≤ x.length := by
      have := of_decide_eq_true c
      omega
    refine ⟨_, _, rfl, rfl, _, rfl, ?_⟩
    by_cases c3 : x.length ≤ 12
    case neg =>
      rw [decide_eq_false (show ¬ ((x.length : Nat) : Int) ≤ 12 by omega)]
      refine iteT ?_
      have := q H (Same.refl H)
      rw [decide_eq_false c3, Bool.and_false, Bool.false_and] at this
      exact this
    rw [decide_eq_true l1, decide_eq_true c3, Bool.true_and, Bool.true_and] at q
    rw [decide_eq_true (show ((x.length : Nat) : Int) ≤ 12 by omega)]
    refine iteF ?_
    refine ⟨_, rfl, x, rfl, fun D nD => ?_⟩
    refine lc_it walk_str (fun i H' => Same H H' ∧ H' D = some (.lst (((x.cps.toList.take i).map inLetters).map V.bl))) ⟨same_new nD, upd_same⟩ (fun _ _ _ _ => trivial) ?_ ?_
    · rintro i y H1 H2 hi ⟨sm, hD⟩ ⟨rfl, c, hc, rfl⟩
      have hc' : x.cps.toList[i]? = some c := by rw [Array.getElem?_toList]; exact hc
      refine ⟨rfl, ⟨_, rfl, c, _, rfl, rfl, _, hD, ?_, ?_, ?_⟩⟩
      · rw [List.length_map, List.length_map, List.length_take]
        have e : x.cps.toList.length = x.length := Array.length_toList
        exact small1000 (by omega)
      · exact fun b o e => by
          have nb := ne_of_none e nD
          rw [upd_ne nb]
          exact sm b o e
      · rw [upd_same, List.take_add_one, hc', List.map_append, List.map_append]
        rfl
    · rintro H1 ⟨sm, hD⟩
      have e : x.cps.toList.take x.cps.size = x.cps.toList := by rw [← Array.length_toList, List.take_length]
      rw [e] at hD
      refine ⟨D, _, rfl, SqL.of hD, ?_⟩
      have := q H1 sm
      rw [List.all_map]
      exact this

end
end K02

set_option maxRecDepth 100000
set_option maxHeartbeats 4000000
namespace K02
open PySem PySem.Spec PyProof.Rows L2 Q RZ RT
section
variable {P : Program} {w : World} {K : PySem.W.Frag} {mg : Str → Option Value} {base : Heap} {f : Addr} {fd : FuncData}
/-! ### the law's own judges -/
def spGood : Sp := fun vs H Q _ => ∃ (v : V) (T : String), vs = [v] ∧ Kn H v T ∧ Itm H v ∧ ∀ H', Same H H' → Q (.bl (widthsOk (seqOf H v))) H'
theorem C_good (T : Tx K mg) : Cal P w K mg base CX0 1 "_law_good" ["widths"] [] spGood := by
  obtain ⟨fd, F⟩ := T.d__law_good
  refine ⟨_, fd, [], F.ok sc__law_good (fun vs H Q E h => ?_) (fun cdv A outer s H vs Q E hr h => ?_), T.g__law_good, F.kp, F.bindsN fun _ _ _ _ _ _ us hl => match us, hl with | [_], _ => rfl, .nil⟩
  · obtain ⟨v, T1, rfl, _⟩ := h
    rfl
  · obtain ⟨v, T1, rfl, kn, it, kQ⟩ := h
    have two : 2 ≤ sizeLine := by decide
    refine ⟨_, PSs.nox (pss_cons (ps_if (PW.pt (pw_or (pt_not (pt_val (pe_callB call_isiT (by rfl) T.n_isinstance (by decide +kernel) (pa_cons (pv 0) (pa_cons (pe_tup (pa_cons (pe_bltn (v := .ty "list") (u := .type "list") (by rfl) T.n_list (by decide +kernel) rfl) (pa_cons (pe_bltn (v := .ty "tuple") (u := .type "tuple") (by rfl) T.n_tuple (by decide +kernel) rfl) pa_nil))) pa_nil))))) (pw_or1 (pt_not (pt_chain op_le op_le pe_int (pe_callB call_len_seq (by rfl) T.n_len (by decide +kernel) (pa_cons (pv 0) pa_nil)) pe_int)))))
        (pss_one (ps_ret pe_bl))
        pss_nil)
      (pss_cons (ps_set (i := 1) sc__law_good.nd rfl (Or.inl rfl) pe_int)
      (pss_cons (ps_for PassesOwn.never rfl (pi_seq (pv 0)) (pg_name (i := 2) sc__law_good.nd rfl (Or.inl rfl))
        (pss_cons (ps_if (PW.pt (pw_or (pt_not (pt_val (pe_callB call_isi (by rfl) T.n_isinstance (by decide +kernel) (pa_cons (pv 2) (pa_cons (pe_bltn (v := .ty "int") (u := .type "int") (by rfl) T.n_int (by decide +kernel) rfl) pa_nil))))) (pw_or (pt_val (pe_callB call_isi (by rfl) T.n_isinstance (by decide +kernel) (pa_cons (pv 2) (pa_cons (pe_bltn (v := .ty "bool") (u := .type "bool") (by rfl) T.n_bool (by decide +kernel) rfl) pa_nil)))) (pw_or1 (pt_not (pt_chain op_le op_le pe_int (pv 2) pe_int))))))
          (pss_one (ps_ret pe_bl))
          pss_nil)
        (pss_one (ps_set (i := 1) sc__law_good.nd rfl (Or.inl rfl) (pe_op op_mul (pv 1) (pv 2))))))
      (pss_one (ps_ret (pe_cmpR op_le (pv 1) pe_int (nomark _))))))), ?_⟩
    have bad : ∀ H', Same H H' → widthsOk (seqOf H v) = false → Q (.bl false) H' := fun H' sm e => by
      have := kQ H' sm
      rw [e] at this
      exact this
    rcases kn.seqSome with ⟨q1, a1, xs1, rfl, hs1, hh1⟩ | ⟨q1, hs1⟩
    case inr =>
      have z : PySem.W.kitAny K (.type T1) [.type "list", .type "tuple"] = some false := by rw [kn.seq, q1]
      refine ⟨_, rfl, two, fun p1 np1 => ⟨_, p1, _, _, _, _, rfl, upd_same, .cons (.ty _) (.cons (.ty _) .nil), (kn.same (same_new np1)).ty, z, _, rfl, iteT (iteT ?_)⟩⟩
      exact bad _ (same_new np1) (by rw [hs1]; rfl)
    have z1 : PySem.W.kitAny K (.type T1) [.type "list", .type "tuple"] = some true := by rw [kn.seq, q1]
    have sq1 : Sq K H a1 xs1 := sq_of hh1
    refine ⟨_, rfl, two, fun p1 np1 => ⟨_, p1, _, _, _, _, rfl, upd_same, .cons (.ty _) (.cons (.ty _) .nil), (kn.same (same_new np1)).ty, z1, _, rfl, iteF ?_⟩⟩
    have s1 := same_new (o := HO.tup [V.ty "list", V.ty "tuple"]) np1
    generalize hH1 : upd H p1 (HO.tup [V.ty "list", V.ty "tuple"]) = H1 at s1 ⊢
    have we : widthsOk (seqOf H (.ref a1)) = ((decide (1 ≤ xs1.length) && decide (xs1.length ≤ 3)) && (xs1.all (fun v => wholeV v 1 64) && decide (prodR (xs1.map unI).reverse ≤ 4096))) := by rw [hs1]; rfl
    rw [we] at bad kQ
    refine ⟨_, rfl, _, _, rfl, sq1.same s1, _, _, rfl, rfl, _, rfl, ite2 (fun c => ?_) (fun c => ?_)⟩
    case refine_2 =>
      refine ⟨_, rfl, iteT ?_⟩
      refine bad _ s1 ?_
      have c' : ¬ 1 ≤ xs1.length := fun z => c (decide_eq_true (by omega))
      rw [decide_eq_false c', Bool.false_and, Bool.false_and]
    have l1 : 1 ≤ xs1.length := by
      have := of_decide_eq_true c
      omega
    refine ⟨_, _, rfl, rfl, _, rfl, ?_⟩
    by_cases c3 : xs1.length ≤ 3
    case neg =>
      rw [decide_eq_false (show ¬ ((xs1.length : Nat) : Int) ≤ 3 by omega)]
      refine iteT (bad _ s1 ?_)
      rw [decide_eq_false c3, Bool.and_false, Bool.false_and]
    rw [decide_eq_true (show ((xs1.length : Nat) : Int) ≤ 3 by omega)]
    refine iteF ?_
    obtain ⟨k, hk⟩ := (sq1.same s1).b
    refine ⟨_, rfl, a1, _, k, rfl, hk, for_seq (fun i σ H' => H' = H1 ∧ (∃ v2, σ = [some (.ref a1), some (.int (prodR ((xs1.take i).map unI).reverse)), v2]) ∧ (xs1.take i).all (fun v => wholeV v 1 64) = true) ⟨rfl, ⟨_, rfl⟩, rfl⟩ (fun i σ H' _ h => by rw [h.1]; exact hk) ?_ ?_⟩
    · rintro i x σ H' hx ⟨rfl, ⟨v2, rfl⟩, al⟩
      obtain ⟨U, ku⟩ := it xs1 hs1 x (List.mem_of_getElem? hx)
      have tk : xs1.take (i + 1) = xs1.take i ++ [x] := by rw [List.take_add_one, hx]; rfl
      have no : wholeV x 1 64 = false → ((decide (1 ≤ xs1.length) && decide (xs1.length ≤ 3)) && (xs1.all (fun v => wholeV v 1 64) && decide (prodR (xs1.map unI).reverse ≤ 4096))) = false := fun w1 => by
        have : xs1.all (fun v => wholeV v 1 64) = false := by
          rw [List.all_eq_false]
          exact ⟨x, List.mem_of_getElem? hx, by rw [w1]; exact Bool.false_ne_true⟩
        rw [this, Bool.false_and, Bool.and_false]
      have kx := (ku.same s1)
      rcases kx.whole (K := K) with ⟨n, rfl, a2, a3⟩ | ⟨a2, nv, nw⟩
      · refine ⟨_, rfl, _, _, _, _, _, rfl, .ty _, kx.ty, a2, _, rfl, iteF ⟨_, rfl, _, _, _, _, _, rfl, .ty _, kx.ty, a3, _, rfl, iteF ?_⟩⟩
        have wn : wholeV (.int n) 1 64 = (decide (1 ≤ n) && decide (n ≤ 64)) := rfl
        refine ⟨_, rfl, _, _, rfl, rfl, _, rfl, ite2 (fun c5 => ?_) (fun c5 => ?_)⟩
        · refine ⟨_, _, rfl, rfl, _, rfl, ?_⟩
          by_cases c6 : n ≤ 64
          · rw [decide_eq_true c6]
            have c5' := of_decide_eq_true c5
            refine iteF ⟨_, rfl, _, rfl, _, _, rfl, rfl, .inr ⟨by omega, by omega⟩, rfl, ⟨some (.int n), ?_⟩, ?_⟩
            · rw [tk, List.map_append, List.reverse_append]
              rfl
            · rw [tk, List.all_append, al, List.all_cons, wn, decide_eq_true c5', decide_eq_true c6]
              rfl
          · rw [decide_eq_false c6]
            exact iteT (bad _ s1 (no (by rw [wn, decide_eq_false c6, Bool.and_false])))
        · have c5' : ¬ 1 ≤ n := fun z => c5 (decide_eq_true z)
          exact ⟨_, rfl, iteT (bad _ s1 (no (by rw [wn, decide_eq_false c5', Bool.false_and])))⟩
      · rcases a2 with ⟨a2, a3⟩ | a2
        · exact ⟨_, rfl, _, _, _, _, _, rfl, .ty _, kx.ty, a2, _, rfl, iteF ⟨_, rfl, _, _, _, _, _, rfl, .ty _, kx.ty, a3, _, rfl, iteT (iteT (bad _ s1 (no (nw _ _))))⟩⟩
        · exact ⟨_, rfl, _, _, _, _, _, rfl, .ty _, kx.ty, a2, _, rfl, iteT (iteT (bad _ s1 (no (nw _ _))))⟩
    · rintro σ H' ⟨rfl, ⟨v2, rfl⟩, al⟩
      rw [List.take_length] at al ⊢
      have := kQ H' s1
      rw [decide_eq_true l1, decide_eq_true c3, al, Bool.true_and, Bool.true_and] at this
      exact ⟨_, rfl, _, _, rfl, rfl, this⟩

/-! ### told, and the row's judge -/
def spTold (K : PySem.W.Frag) : Sp := fun vs H Q _ => ∃ (v : V) (T : String), vs = [v] ∧ Kn H v T ∧ Itm H v ∧ (widthsOk (seqOf H v) = false → ∀ H', Same H H' → Q .non H') ∧
  (widthsOk (seqOf H v) = true → ∀ (t : Addr) (xs : List V) (H' : Hp), seqOf H v = some xs → SqT K H' t xs → Same H H' → Q (.ref t) H')
theorem C_told (T : Tx K mg) : Cal P w K mg base CX0 3 "_law_widths_told" ["widths"] [] (spTold K) := by
  obtain ⟨fd, F⟩ := T.d__law_widths_told
  have C_check_widths := C_check_widths (P := P) (w := w) (base := base) T
  refine ⟨_, fd, [], F.ok sc__law_widths_told (fun vs H Q E h => ?_) (fun cdv A outer s H vs Q E hr h => ?_), T.g__law_widths_told, F.kp, F.bindsN fun _ _ _ _ _ _ us hl => match us, hl with | [_], _ => rfl, .nil⟩
  · obtain ⟨v, T1, rfl, _⟩ := h
    rfl
  · obtain ⟨v, T1, rfl, kn, it, kE, kQ⟩ := h
    refine ⟨_, PSs.nox (pss_cons (ps_try_only (tb := _) (ts := _) rfl rfl ⟨rfl, by decide, Or.inl T.g_BadWidths⟩ takes0 (fun W pn xe tk _ => (pss_one (ps_set (i := 1) sc__law_widths_told.nd rfl (Or.inl rfl) (pe_calS C_check_widths (hr.mono (by decide)) (fun σ => passAt tk σ) (pa_cons (pv 0) pa_nil)))))
        (fun a oe cls d pn hz hf => (pss_one (ps_ret pe_non))))
      (pss_one (ps_ret (pv 1)))), ?_⟩
    refine ⟨_, rfl, v, T1, rfl, kn, it, fun e H' sm => ?_, fun e t xs H' hx qt sm => ?_⟩
    · exact ⟨true, T.e_BadWidths, fun _ a na => kE e H' sm, fun z => nomatch z⟩
    · exact ⟨_, rfl, kQ e t xs H' hx qt sm⟩
def spRight (K : PySem.W.Frag) : Sp := fun vs H Q _ => ∃ (a : Addr) (ws : List Int) (v : V) (due : Bool), vs = [.ref a, v, .bl due] ∧ Sq K H a (ws.map V.int) ∧ Arg H v ∧ ∀ H', Same H H' → Q (.bl (due == rowOk ws (seqOf H v))) H'
theorem C_right (T : Tx K mg) : CalG P w K mg base CX0 5 "_law_row_right" ["widths", "row", "due"] [] (spRight K) := by
  obtain ⟨fd, F⟩ := T.d__law_row_right
  have C_check_row := C_check_row (P := P) (w := w) (base := base) T
  refine ⟨_, fd, [], funG F sc__law_row_right (fun vs H Q E h => ?_) (fun cdv A outer s H vs Q E gd hr h => ?_), T.g__law_row_right, F.kp, F.bindsN fun _ _ _ _ _ _ us hl => match us, hl with | [_, _, _], _ => rfl, .nil⟩
  · obtain ⟨a, ws, v, due, rfl, _⟩ := h
    rfl
  · obtain ⟨a, ws, v, due, rfl, hA, ar, kQ⟩ := h
    obtain ⟨⟨T1, kn⟩, it⟩ := ar.kn
    obtain ⟨d0, D0, S0⟩ := ar.dat (K := K)
    refine ⟨_, PSs.nox (pss_cons (ps_try_as (i := 4) (tb := _) (ts := _) rfl rfl sc__law_row_right.nd rfl rfl ⟨rfl, by decide, Or.inl T.g_BadRow⟩ takes0 (fun W pn xe tk _ => (pss_one (ps_set (i := 3) sc__law_row_right.nd rfl (Or.inl rfl) (pe_calS C_check_row (hr.mono (by decide)) (fun σ => passAt tk σ) (pa_cons (pv 0) (pa_cons (pv 1) pa_nil))))))
        (fun a oe cls d pn hz hf => (pss_one (ps_ret (pe_and (pe_not (pv 2)) (pe_one (pe_cmpR op_eq (pe_callB (call_reprVS gd hr.units) (by rfl) T.n_repr (by decide +kernel) (pa_cons (pe_xf (xfC_of T.x_BadRow) T.noat_BadRow_row hz hf (pv 4)) pa_nil)) (pe_callB (call_reprVS gd hr.units) (by rfl) T.n_repr (by decide +kernel) (pa_cons (pv 1) pa_nil)) (nomark _))))))))
      (pss_one (ps_ret (pe_and (pv 2) (pe_and (pe_callB call_isi (by rfl) T.n_isinstance (by decide +kernel) (pa_cons (pv 3) (pa_cons (pe_bltn (v := .ty "tuple") (u := .type "tuple") (by rfl) T.n_tuple (by decide +kernel) rfl) pa_nil))) (pe_one (pe_cmpR (op_eqD hr.units) (pv 3) (pe_callTy call_tupOf (by rfl) T.n_tuple (by decide +kernel) (pa_cons (pv 1) pa_nil)) (nomark _)))))))), ?_⟩
    refine ⟨_, rfl, _, rfl, a, ws, v, T1, rfl, hA, kn, it, fun e d H' sm nd hd => ?_, fun e t xs H' hx qt sm => ?_⟩
    · refine ⟨true, T.e_BadRow, fun _ ea na => ?_, fun z => nomatch z⟩
      have kq := kQ H' sm
      rw [e] at kq
      refine ⟨_, rfl, _, rfl, _, rfl, ?_⟩
      cases due with
      | true => exact iteF kq
      | false =>
        have Dd := dp_same sm d0 v D0
        refine iteT ⟨_, rfl, rfl, rfl, d, _, _, rfl, hd, by rw [lookup_put, if_pos rfl], v, d0, rfl, Dd, S0.sh, S0.nd, S0.dp, S0.ln, _, rfl, v, d0, rfl, Dd, S0.sh, S0.nd, S0.dp, S0.ln, rfl, ?_⟩
        rw [decide_eq_true rfl]
        exact kq
    · have kq := kQ
      rw [e] at kq
      refine ⟨_, rfl, _, rfl, ?_⟩
      cases due with
      | false => exact iteF (kq H' sm)
      | true =>
        obtain ⟨xs', e2⟩ : ∃ xs', seqOf H v = some xs' := ⟨xs, hx⟩
        have e3 : xs.length = ws.length ∧ allIn ws xs = true := by
          rw [hx] at e
          have z : (decide (xs.length = ws.length) && allIn ws xs) = true := e
          rw [Bool.and_eq_true] at z
          exact ⟨of_decide_eq_true z.1, z.2⟩
        obtain ⟨ex, -⟩ := allIn_is e3.1 e3.2
        rcases kn.seqSome with ⟨q1, a1, xs1, rfl, hs1, hh1⟩ | ⟨q1, hs1⟩
        case inr =>
          rw [hx] at hs1
          cases hs1
        rw [hx] at hs1
        cases hs1
        have sq1 : Sq K H a1 xs := sq_of hh1
        rw [ex] at qt
        have dt := dp_ints qt
        refine iteT ⟨_, rfl, _, _, _, _, _, rfl, .ty _, ty_sqT qt, kit_ty (by decide +kernel), _, rfl, iteT ⟨_, rfl, _, rfl, tupOf_of (sq1.same sm) fun l H1 q1 sa _ => ?_⟩⟩
        rw [ex] at q1
        refine ⟨_, _, dp_same sa _ _ dt, dp_ints q1, shaped_ints _, shaped_ints _, ?_⟩
        rw [eqv_ints, decide_eq_true rfl]
        exact kq H1 (sm.trans sa)
end
end K02

set_option maxRecDepth 100000
set_option maxHeartbeats 4000000
namespace K02
open PySem PySem.Spec PyProof.Rows L2 Q RZ RT
section
variable {P : Program} {w : World} {K : PySem.W.Frag} {mg : Str → Option Value} {base : Heap} {f : Addr} {fd : FuncData}
def spIs : Sp := fun vs H Q _ => ∃ a b : Bool, vs = [.bl a, .bl b] ∧ Q (.bl (a == b)) H
theorem C_is (T : Tx K mg) : Cal P w K mg base CX0 1 "_law_is" ["thing", "due"] [] spIs := by
  obtain ⟨fd, F⟩ := T.d__law_is
  refine ⟨_, fd, [], F.ok sc__law_is (fun vs H Q E h => ?_) (fun cdv A outer s H vs Q E hr h => ?_), T.g__law_is, F.kp, F.bindsN fun _ _ _ _ _ _ us hl => match us, hl with | [_, _], _ => rfl, .nil⟩
  · obtain ⟨a, b, rfl, _⟩ := h
    rfl
  · obtain ⟨a, b, rfl, q⟩ := h
    refine ⟨_, PSs.nox (pss_one (ps_ret (pe_ifExp (pt_val (pv 1)) (pe_cmpR op_is_bl (pv 0) pe_bl (nomark _)) (pe_cmpR op_is_bl (pv 0) pe_bl (nomark _))))), ?_⟩
    refine ⟨_, rfl, _, rfl, ?_⟩
    cases b with
    | true => exact iteT ⟨_, rfl, a, true, rfl, rfl, by cases a <;> exact q⟩
    | false => exact iteF ⟨_, rfl, a, false, rfl, rfl, by cases a <;> exact q⟩
def spWidths : Sp := fun vs H Q _ => ∃ (b c : Addr) (n : Int), vs = [.ref b] ∧ BagAt H b c n ∧ n < 2 ^ 59 ∧ ∀ (l : Addr) (ws : List Int) (H' : Hp), Kb b H H' → BagAt H' b c (n + 5) → l ≠ b → H l = none → H' l = some (.lst (ws.map V.int)) → 1 ≤ ws.length → ws.length ≤ 3 → (∀ w ∈ ws, 1 ≤ w ∧ w ≤ 65) → Q (.ref l) H'
theorem C_widths (T : Tx K mg) : Cal P w K mg base CX0 2 "_law_widths" ["bag"] [] spWidths := by
  obtain ⟨fd, F⟩ := T.d__law_widths
  have C__law_draw := C_draw (P := P) (w := w) (base := base) T
  refine ⟨_, fd, [], F.ok sc__law_widths (fun vs H Q E h => ?_) (fun cdv A outer s H vs Q E hr h => ?_), T.g__law_widths, F.kp, F.bindsN fun _ _ _ _ _ _ us hl => match us, hl with | [_], _ => rfl, .nil⟩
  · obtain ⟨b, c, n, rfl, _⟩ := h
    rfl
  · obtain ⟨b, c, n, rfl, B, hn, k⟩ := h
    have fin : ∀ (ws : List Int) (Hx : Hp) (m : Int), Kb b H Hx → BagAt Hx b c m → m ≤ n + 5 → 1 ≤ ws.length → ws.length ≤ 3 → (∀ w ∈ ws, 1 ≤ w ∧ w ≤ 65) → ∀ l, Hx l = none → Q (.ref l) (upd Hx l (.lst (ws.map V.int))) := fun ws Hx m kb Bx hm l1 l3 hw l nl => by
      have lb := (Bx.new nl).1
      have hl : H l = none := by
        cases e : H l with
        | none => rfl
        | some o => rw [kb l o lb e] at nl; cases nl
      exact k l ws _ (kb.trans (kb_new nl)) ((Bx.updNew nl).mono hm) lb hl upd_same l1 l3 hw
    refine ⟨_, PSs.nox (pss_cons (ps_set (i := 1) sc__law_widths.nd rfl (Or.inl rfl) (pe_cal C__law_draw (hr.mono (by decide)) pass0 (pa_cons (pv 0) (pa_cons pe_int pa_nil))))
      (pss_cons (ps_if (pt_cmpR op_eq (pv 1) pe_int (nomark _))
        (pss_one (ps_ret (pe_ifExp (pt_cmpR op_eq (pe_cal C__law_draw (hr.mono (by decide)) pass0 (pa_cons (pv 0) (pa_cons pe_int pa_nil))) pe_int (nomark _)) (pe_lst (pa_cons pe_int (pa_cons pe_int pa_nil))) (pe_lst (pa_cons pe_int (pa_cons pe_int (pa_cons pe_int pa_nil)))))))
        pss_nil)
      (pss_cons (ps_if (pt_cmpR op_eq (pv 1) pe_int (nomark _))
        (pss_one (ps_ret (pe_lst (pa_cons (pe_op op_add pe_int (pe_cal C__law_draw (hr.mono (by decide)) pass0 (pa_cons (pv 0) (pa_cons pe_int pa_nil)))) pa_nil))))
        pss_nil)
      (pss_cons (ps_if (pt_cmpR op_eq (pv 1) pe_int (nomark _))
        (pss_one (ps_ret (pe_lst (pa_cons (pe_op op_add pe_int (pe_cal C__law_draw (hr.mono (by decide)) pass0 (pa_cons (pv 0) (pa_cons pe_int pa_nil)))) (pa_cons (pe_op op_add pe_int (pe_cal C__law_draw (hr.mono (by decide)) pass0 (pa_cons (pv 0) (pa_cons pe_int pa_nil)))) pa_nil)))))
        pss_nil)
      (pss_one (ps_ret (pe_lst (pa_cons (pe_op op_add pe_int (pe_cal C__law_draw (hr.mono (by decide)) pass0 (pa_cons (pv 0) (pa_cons pe_int pa_nil)))) (pa_cons (pe_op op_add pe_int (pe_cal C__law_draw (hr.mono (by decide)) pass0 (pa_cons (pv 0) (pa_cons pe_int pa_nil)))) (pa_cons (pe_op op_add pe_int (pe_cal C__law_draw (hr.mono (by decide)) pass0 (pa_cons (pv 0) (pa_cons pe_int pa_nil)))) pa_nil)))))))))), ?_⟩
    refine ⟨_, rfl, b, c, 4, n, rfl, B, by decide, by decide, by omega, fun way H1 w0 w4 o1 B1 => ?_⟩
    refine ⟨_, rfl, rfl, _, rfl, ite2 (fun c1 => ?_) (fun c1 => ?_)⟩
    · refine ⟨_, rfl, b, c, 2, _, rfl, B1, by decide, by decide, by omega, fun r H2 x0 x1 o2 B2 => ?_⟩
      refine ⟨rfl, _, rfl, ite2 (fun c2 => ?_) (fun c2 => ?_)⟩
      · exact ⟨by show 2 ≤ sizeLine; decide, fun l nl => fin [64, 64] H2 _ (o1.kb.trans o2.kb) B2 (by omega) (by decide) (by decide) (by decide) l nl⟩
      · exact ⟨by show 3 ≤ sizeLine; decide, fun l nl => fin [16, 16, 16] H2 _ (o1.kb.trans o2.kb) B2 (by omega) (by decide) (by decide) (by decide) l nl⟩
    refine ⟨_, rfl, rfl, _, rfl, ite2 (fun c2 => ?_) (fun c2 => ?_)⟩
    · refine ⟨_, rfl, b, c, 64, _, rfl, B1, by decide, by decide, by omega, fun r H2 x0 x1 o2 B2 => ⟨_, _, rfl, rfl, by show 1 ≤ sizeLine; decide, fun l nl => ?_⟩⟩
      refine fin [1 + r] H2 _ (o1.kb.trans o2.kb) B2 (by omega) (by show 1 ≤ 1; decide) (by show 1 ≤ 3; decide) (fun x m => ?_) l nl
      obtain rfl := List.mem_singleton.mp m
      omega
    refine ⟨_, rfl, rfl, _, rfl, ite2 (fun c3 => ?_) (fun c3 => ?_)⟩
    · refine ⟨_, rfl, b, c, 64, _, rfl, B1, by decide, by decide, by omega, fun r H2 x0 x1 o2 B2 => ⟨_, _, rfl, rfl, ?_⟩⟩
      refine ⟨_, rfl, b, c, 64, _, rfl, B2, by decide, by decide, by omega, fun r2 H3 y0 y1 o3 B3 => ⟨_, _, rfl, rfl, by show 2 ≤ sizeLine; decide, fun l nl => ?_⟩⟩
      refine fin [1 + r, 1 + r2] H3 _ (o1.kb.trans (o2.kb.trans o3.kb)) B3 (by omega) (by show 1 ≤ 2; decide) (by show 2 ≤ 3; decide) (fun x m => ?_) l nl
      simp only [List.mem_cons, List.not_mem_nil, or_false] at m
      rcases m with rfl | rfl <;> omega
    · refine ⟨_, rfl, b, c, 7, _, rfl, B1, by decide, by decide, by omega, fun r H2 x0 x1 o2 B2 => ⟨_, _, rfl, rfl, ?_⟩⟩
      refine ⟨_, rfl, b, c, 9, _, rfl, B2, by decide, by decide, by omega, fun r2 H3 y0 y1 o3 B3 => ⟨_, _, rfl, rfl, ?_⟩⟩
      refine ⟨_, rfl, b, c, 65, _, rfl, B3, by decide, by decide, by omega, fun r3 H4 z0 z1 o4 B4 => ⟨_, _, rfl, rfl, by show 3 ≤ sizeLine; decide, fun l nl => ?_⟩⟩
      refine fin [1 + r, 1 + r2, 1 + r3] H4 _ (o1.kb.trans (o2.kb.trans (o3.kb.trans o4.kb))) B4 (by omega) (by show 1 ≤ 3; decide) (by show 3 ≤ 3; decide) (fun x m => ?_) l nl
      simp only [List.mem_cons, List.not_mem_nil, or_false] at m
      rcases m with rfl | rfl | rfl <;> omega
end
end K02

set_option maxRecDepth 100000
set_option maxHeartbeats 4000000
namespace K02
open PySem PySem.Spec PyProof.Rows L2 Q RZ RT
section
variable {P : Program} {w : World} {K : PySem.W.Frag} {mg : Str → Option Value} {base : Heap} {f : Addr} {fd : FuncData}
/-! ### every row of small widths -/
def RowsR (H : Hp) (l : Addr) (rws : List Int) : Prop := ∃ ps : List Addr, H l = some (.lst (ps.map V.ref)) ∧ (ps.length : Int) = prodR rws ∧ ∀ (k : Nat) (p : Addr), ps[k]? = some p → H p = some (.tup ((digs rws k).reverse.map V.int))
theorem RowsR.same {H H' : Hp} {l : Addr} {rws : List Int} (h : RowsR H l rws) (e : Same H H') : RowsR H' l rws := by
  obtain ⟨ps, h1, h2, h3⟩ := h
  exact ⟨ps, e _ _ h1, h2, fun k p hp => e _ _ (h3 k p hp)⟩
theorem prod_take {ws : List Int} (h : ∀ w ∈ ws, 0 < w) (i : Nat) : prodR (ws.take i).reverse ≤ prodR ws.reverse := by
  have hd : ∀ w ∈ (ws.drop i).reverse, 0 < w := fun w m => h w (List.mem_of_mem_drop (List.mem_reverse.mp m))
  have ht : ∀ w ∈ (ws.take i).reverse, 0 < w := fun w m => h w (List.mem_of_mem_take (List.mem_reverse.mp m))
  have e : ws.reverse = (ws.drop i).reverse ++ (ws.take i).reverse := by rw [← List.reverse_append, List.take_append_drop]
  have app : ∀ (a b : List Int), prodR (a ++ b) = prodR a * prodR b := by
    intro a b
    induction a with
    | nil => rw [List.nil_append]; show prodR b = 1 * prodR b; rw [Int.one_mul]
    | cons x a ih => show prodR (a ++ b) * x = prodR a * x * prodR b; rw [ih, Int.mul_assoc, Int.mul_comm (prodR b) x, ← Int.mul_assoc]
  rw [e, app]
  have p1 := prodR_pos hd
  have p2 := prodR_pos ht
  have := Int.mul_le_mul_of_nonneg_right (show 1 ≤ prodR (ws.drop i).reverse by omega) (Int.le_of_lt p2)
  rwa [Int.one_mul] at this
def spAll (K : PySem.W.Frag) : Sp := fun vs H Q _ => ∃ (a : Addr) (ws : List Int), vs = [.ref a] ∧ Sq K H a (ws.map V.int) ∧ (∀ w ∈ ws, 0 < w ∧ w < 2 ^ 20) ∧ prodR ws.reverse ≤ 400 ∧ ws.length ≤ 100 ∧ ∀ (l : Addr) (H' : Hp), Same H H' → H l = none → RowsR H' l ws.reverse → Q (.ref l) H'
theorem C_all (T : Tx K mg) : Cal P w K mg base CX0 1 "_law_all" ["widths"] [] (spAll K) := by
  obtain ⟨fd, F⟩ := T.d__law_all
  refine ⟨_, fd, [], F.ok sc__law_all (fun vs H Q E h => ?_) (fun cdv A outer s H vs Q E hr h => ?_), T.g__law_all, F.kp, F.bindsN fun _ _ _ _ _ _ us hl => match us, hl with | [_], _ => rfl, .nil⟩
  · obtain ⟨a, ws, rfl, _⟩ := h
    rfl
  · obtain ⟨a, ws, rfl, hA, hw, hp, hlen, q⟩ := h
    have wpos : ∀ w ∈ ws, 0 < w := fun w m => (hw w m).1
    refine ⟨_, PSs.nox (pss_cons (ps_set (i := 1) sc__law_all.nd rfl (Or.inl rfl) (pe_lst (pa_cons (pe_tup pa_nil) pa_nil)))
      (pss_cons (ps_for PassesOwn.never rfl (pi_seq (pv 0)) (pg_name (i := 2) sc__law_all.nd rfl (Or.inl rfl))
        (pss_cons (ps_set (i := 3) sc__law_all.nd rfl (Or.inl rfl) (pe_lst pa_nil))
        (pss_cons (ps_for PassesOwn.never rfl (pi_list (pe_callTy call_list_of (by rfl) T.n_list (by decide +kernel) (pa_cons (pv 1) pa_nil))) (pg_name (i := 4) sc__law_all.nd rfl (Or.inr rfl))
          (pss_one (ps_set (i := 3) sc__law_all.nd rfl (Or.inl rfl) (pe_op op_cat (pv 3) (pe_lc (own := [("value", 5)]) (g := gName 5) (tt := tYes) (by rfl) sc__law_all.nd (pi_range1 (by rfl) T.n_range (pa_cons (pv 2) pa_nil)) (blkOk_by (N := ["widths", "rows", "width", "longer", "row", "value"]) (sc := defScope s__law_all) (by decide +kernel)) (fun _ _ _ _ _ => (pg_name (i := 5) sc__law_all.nd rfl (Or.inl rfl))) (fun _ _ _ _ _ => pts_nil) (fun _ _ _ _ _ => (pe_op op_catAB (pv 4) (pe_tup (pa_cons (pv 5) pa_nil)))))))))
        (pss_one (ps_set (i := 1) sc__law_all.nd rfl (Or.inl rfl) (pv 3))))))
      (pss_one (ps_ret (pv 1))))), ?_⟩
    refine ⟨by show 0 ≤ sizeLine; exact Nat.zero_le _, fun t nt => ⟨by show 1 ≤ sizeLine; decide, fun l nl => ?_⟩⟩
    have st := same_new (o := HO.tup []) nt
    have sl := same_new (o := HO.lst [V.ref t]) nl
    have ht : (upd (upd H t (HO.tup [])) l (HO.lst [V.ref t])) t = some (HO.tup []) := sl _ _ upd_same
    have hl : H l = none := st.free nl
    have s0 := st.trans sl
    obtain ⟨k, hk⟩ := hA.b
    refine ⟨_, rfl, a, _, k, rfl, hk.same s0, for_seq (fun i σ H' => Same H H' ∧ ∃ l' o2 o3 o4 o5, H l' = none ∧ σ = [some (.ref a), some (.ref l'), o2, o3, o4, o5] ∧ RowsR H' l' (ws.take i).reverse) ⟨s0, l, _, _, _, _, hl, rfl, [t], upd_same, rfl, ?_⟩ (fun i σ H' _ h => hk.same h.1) ?_ ?_⟩
    · intro k p hk'
      match k, hk' with
      | 0, hk' =>
        cases hk'
        exact ht
    · rintro i x σ H2 hx ⟨s2, l', o2, o3, o4, o5, nl', rfl, ps, hps, hlen', hat⟩
      obtain ⟨w, hw', rfl⟩ := getMap hx
      obtain ⟨w0, w1⟩ := hw w (List.mem_of_getElem? hw')
      have tk := take_rev hw'
      have pm : prodR (w :: (ws.take i).reverse) ≤ 400 := by
        rw [← tk]
        exact Int.le_trans (prod_take wpos (i + 1)) hp
      have pm' : prodR (ws.take i).reverse * w ≤ 400 := pm
      generalize hrw : (ws.take i).reverse = rws at *
      have pp : 0 < prodR rws := by
        rw [← hrw]
        exact prodR_pos fun w m => wpos w (List.mem_of_mem_take (List.mem_reverse.mp m))
      obtain ⟨wn, rfl⟩ : ∃ wn : Nat, w = (wn : Int) := ⟨w.toNat, by omega⟩
      have w400 : wn ≤ 400 := by
        have := Int.mul_le_mul_of_nonneg_right (show 1 ≤ prodR rws by omega) (Int.le_of_lt w0)
        rw [Int.one_mul] at this
        omega
      -- longer = []; list(rows)
      refine ⟨Nat.zero_le _, fun g ng => ?_⟩
      have sg := same_new (o := HO.lst []) ng
      refine ⟨_, rfl, l', _, rfl, .inl (SqL.of (sg _ _ hps)), fun c nc => ?_⟩
      have sc := same_new (o := HO.lst (ps.map V.ref)) nc
      have s3 := sg.trans sc
      have hc3 : (upd (upd H2 g (HO.lst [])) c (HO.lst (ps.map V.ref))) c = some (.lst (ps.map V.ref)) := upd_same
      have hg3 : (upd (upd H2 g (HO.lst [])) c (HO.lst (ps.map V.ref))) g = some (.lst []) := sc _ _ upd_same
      generalize hH3 : upd (upd H2 g (HO.lst [])) c (HO.lst (ps.map V.ref)) = H3 at s3 hc3 hg3 ⊢
      have gfree : H g = none := s2.free ng
      refine ⟨c, rfl, ⟨_, SqL.of hc3⟩, for_list (K := K) (a := c) (xs := ps.map V.ref) (fun j σ H' => Same H3 H' ∧ ∃ g' o4 o5, H g' = none ∧ σ = [some (.ref a), some (.ref l'), some (.int wn), some (.ref g'), o4, o5] ∧
        ∃ qs : List Addr, H' g' = some (.lst (qs.map V.ref)) ∧ qs.length = j * wn ∧ ∀ (k : Nat) (p : Addr), qs[k]? = some p → H' p = some (.tup ((digs (wn :: rws) k).reverse.map V.int))) ⟨Same.refl _, g, _, _, gfree, rfl, [], hg3, by simp, fun k p hk' => by simp at hk'⟩ (fun j σ H' _ h => SqL.of (h.1 _ _ hc3)) ?_ ?_⟩
      · rintro j x σ H4 hx4 ⟨s4, g', o4, o5, gf, rfl, qs, hqs, hql, hqa⟩
        obtain ⟨p, hp4, rfl⟩ : ∃ p, ps[j]? = some p ∧ x = V.ref p := by
          rw [List.getElem?_map] at hx4
          cases e : ps[j]? with
          | none => rw [e] at hx4; cases hx4
          | some z => rw [e] at hx4; exact ⟨z, rfl, (Option.some.inj hx4).symm⟩
        have hj : j < ps.length := (List.getElem?_eq_some_iff.mp hp4).1
        have hpt : H4 p = some (.tup ((digs rws j).reverse.map V.int)) := s4 _ _ (s3 _ _ (hat j p hp4))
        have jb : (j + 1) * wn ≤ 400 := by
          have h1 : ((j : Int) + 1) * (wn : Int) ≤ prodR rws * wn := Int.mul_le_mul_of_nonneg_right (by omega) (Int.le_of_lt w0)
          have h2 : (((j + 1) * wn : Nat) : Int) = ((j : Int) + 1) * (wn : Int) := by push_cast; rfl
          omega
        refine ⟨_, rfl, _, rfl, (wn : Int), rfl, by omega, by omega, fun D nD => ?_⟩
        rw [Int.toNat_natCast]
        refine lc_range (lo := 0) (n := wn) (fun i H' => Same H4 H' ∧ ∃ us : List Addr, H' D = some (.lst (us.map V.ref)) ∧ us.length = i ∧ ∀ (k : Nat) (u : Addr), us[k]? = some u → H' u = some (.tup ((digs rws j).reverse.map V.int ++ [V.int k]))) ⟨same_new nD, [], upd_same, rfl, fun k u hk' => by simp at hk'⟩ ?_ ?_
        · rintro v H5 hv ⟨s5, us, hD, hul, hua⟩
          have hp5 := s5 _ _ hpt
          have push : ∀ (u : Addr) (H6 : Hp), Same H5 H6 → H6 u = some (.tup ((digs rws j).reverse.map V.int ++ [V.int (0 + (v : Int))])) → ∃ acc, H6 D = some (.lst acc) ∧ acc.length < sizeLine ∧ Same H4 (upd H6 D (.lst (acc ++ [V.ref u]))) ∧ ∃ us : List Addr, (upd H6 D (.lst (acc ++ [V.ref u]))) D = some (.lst (us.map V.ref)) ∧ us.length = v + 1 ∧ ∀ (k : Nat) (u' : Addr), us[k]? = some u' → (upd H6 D (.lst (acc ++ [V.ref u]))) u' = some (.tup ((digs rws j).reverse.map V.int ++ [V.int k])) := fun u H6 s6 hu => by
            refine ⟨_, s6 _ _ hD, by rw [List.length_map]; exact small1000 (by omega), fun b o e => ?_, us ++ [u], by rw [upd_same, List.map_append]; rfl, by rw [List.length_append, hul]; rfl, fun k u' hk' => ?_⟩
            · rw [upd_ne (ne_of_none e nD)]
              exact s6 _ _ (s5 _ _ e)
            · have hne : ∀ {x : Addr} {xs : List V}, H6 x = some (.tup xs) → x ≠ D := fun h z => by
                rw [z, s6 _ _ hD] at h
                cases h
              rw [List.getElem?_append] at hk'
              split at hk'
              · have := s6 _ _ (hua k u' hk')
                rw [upd_ne (hne this)]
                exact this
              · rename_i hkl
                rw [List.getElem?_singleton] at hk'
                split at hk'
                · rename_i hk0
                  cases hk'
                  rw [upd_ne (hne hu), hu, show ((0 : Int) + (v : Int)) = (k : Int) by omega]
                · cases hk'
          refine ⟨rfl, ⟨_, rfl, _, rfl, by show 1 ≤ sizeLine; decide, fun t nt => ?_⟩⟩
          have st := same_new (o := HO.tup [V.int (0 + (v : Int))]) nt
          refine ⟨p, t, _, _, rfl, rfl, SqT.of (st _ _ hp5), SqT.of upd_same, ?_, fun e0 => ?_, (fun _ z => by cases z), fun n0 _ q nq => ?_⟩
          · have e1 : ((digs rws j).reverse.map V.int).length ≤ 101 := by
              rw [List.length_map, List.length_reverse, digs_len, ← hrw, List.length_reverse, List.length_take]
              omega
            have e2 : ([V.int (0 + (v : Int))] : List V).length = 1 := rfl
            rw [e2]
            exact Nat.le_trans (Nat.add_le_add_right e1 1) (by decide)
          · exact push t _ st (by rw [upd_same, e0]; rfl)
          · exact push q _ (st.trans (same_new nq)) upd_same
        · rintro H5 ⟨s5, us, hD, hul, hua⟩
          refine ⟨g', D, _, _, rfl, rfl, s5 _ _ hqs, hD, by rw [List.length_map, List.length_map, hql, hul, ← Nat.succ_mul]; exact Nat.le_trans jb (by decide), fun z nz => ?_⟩
          have sz := s5.trans (same_new (o := HO.lst (qs.map V.ref ++ us.map V.ref)) nz)
          have zf : H z = none := s2.free (s3.free (s4.free (s5.free nz)))
          refine ⟨s4.trans sz, z, _, _, zf, rfl, qs ++ us, by rw [upd_same, List.map_append], by rw [List.length_append, hql, hul, Nat.succ_mul], fun k u hk' => ?_⟩
          rw [List.getElem?_append] at hk'
          split at hk'
          · exact sz _ _ (hqa k u hk')
          · rename_i hkl
            have hu := hua (k - qs.length) u hk'
            have hkv : k - qs.length < wn := by
              have := (List.getElem?_eq_some_iff.mp hk').1
              omega
            have := (same_new (o := HO.lst (qs.map V.ref ++ us.map V.ref)) nz) _ _ hu
            rw [this]
            have d1 : ((k : Int) % (wn : Int)) = ((k - qs.length : Nat) : Int) := by
              have e : (k : Int) = ((k - qs.length : Nat) : Int) + (j : Int) * (wn : Int) := by
                have : ((j * wn : Nat) : Int) = (j : Int) * (wn : Int) := by push_cast; rfl
                omega
              rw [e, Int.add_mul_emod_self_right]
              exact Int.emod_eq_of_lt (by omega) (by omega)
            have d2 : ((k : Int) / (wn : Int)) = (j : Int) := by
              have e : (k : Int) = ((k - qs.length : Nat) : Int) + (j : Int) * (wn : Int) := by
                have : ((j * wn : Nat) : Int) = (j : Int) * (wn : Int) := by push_cast; rfl
                omega
              rw [e, Int.add_mul_ediv_right _ _ (by omega), Int.ediv_eq_zero_of_lt (by omega) (by omega), Int.zero_add]
            show some (HO.tup _) = some (HO.tup ((((k : Int) % (wn : Int)) :: digs rws ((k : Int) / (wn : Int))).reverse.map V.int))
            rw [d1, d2, List.reverse_cons, List.map_append]
            rfl
      · rintro σ H4 ⟨s4, g', o4, o5, gf, rfl, qs, hqs, hql, hqa⟩
        refine ⟨_, rfl, (s2.trans s3).trans s4, g', _, _, _, _, gf, rfl, qs, hqs, ?_, ?_⟩
        · rw [tk]
          show (qs.length : Int) = prodR rws * wn
          rw [hql, List.length_map, ← hlen']
          push_cast
          rfl
        · rw [tk]
          exact hqa
    · rintro σ H' ⟨sm, l', o2, o3, o4, o5, nl', rfl, rw⟩
      rw [List.length_map, List.take_length] at rw
      exact ⟨_, rfl, q l' H' sm nl' rw⟩

end
end K02

set_option maxRecDepth 100000
set_option maxHeartbeats 4000000
namespace K02
open PySem PySem.Spec PyProof.Rows L2 Q RZ RT
theorem joinL_one : ∀ cs : List Nat, TL.joinL [] (cs.map fun c => [c]) = cs
  | [] => rfl
  | [_] => rfl
  | a :: b :: r => by
    show [a] ++ ([] ++ TL.joinL [] ((b :: r).map fun c => [c])) = a :: b :: r
    rw [joinL_one (b :: r)]
    rfl
def sgn (c : Nat) : Str := ⟨#[c]⟩
theorem join_sgn (cs : List Nat) : Txt.join (Str.ofString "") (cs.map sgn) = SX.S cs := by
  have e := SX.join_S [] (cs.map fun c => [c])
  rw [joinL_one, List.map_map] at e
  exact e
theorem sum_ones (cs : List Nat) : ((cs.map sgn).map (·.length)).sum = cs.length := by
  induction cs with
  | nil => rfl
  | cons a r ih =>
    rw [List.map_cons, List.map_cons, List.sum_cons, ih]
    show 1 + r.length = r.length + 1
    omega
theorem name_S {cs : List Nat} (h : ∀ c ∈ cs, inLetters c = true) : nameV (.str (SX.S cs)) = (decide (1 ≤ cs.length) && decide (cs.length ≤ 12)) := by
  have e1 : (SX.S cs).length = cs.length := List.size_toArray ..
  have e2 : (SX.S cs).cps.toList.all inLetters = true := by
    rw [List.all_eq_true]
    exact fun c m => h c m
  show ((decide (1 ≤ (SX.S cs).length) && decide ((SX.S cs).length ≤ 12)) && (SX.S cs).cps.toList.all inLetters) = _
  rw [e1, e2, Bool.and_true]
theorem name_odd {a b : Str} {c : Nat} (h : inLetters c = false) : nameV (.str (a ++ sgn c ++ b)) = false := by
  have : (a ++ sgn c ++ b).cps.toList.all inLetters = false := by
    rw [List.all_eq_false]
    refine ⟨c, ?_, by rw [h]; exact Bool.false_ne_true⟩
    show c ∈ TL.tl (a ++ sgn c ++ b)
    rw [TL.tl_append, TL.tl_append]
    exact List.mem_append_left _ (List.mem_append_right _ (List.mem_singleton.mpr rfl))
  show (_ && _) = false
  rw [this, Bool.and_false]
theorem name_odd1 {a : Str} {c : Nat} (h : inLetters c = false) : nameV (.str (a ++ sgn c)) = false := by
  have : (a ++ sgn c).cps.toList.all inLetters = false := by
    rw [List.all_eq_false]
    refine ⟨c, ?_, by rw [h]; exact Bool.false_ne_true⟩
    show c ∈ TL.tl (a ++ sgn c)
    rw [TL.tl_append]
    exact List.mem_append_right _ (List.mem_singleton.mpr rfl)
  show (_ && _) = false
  rw [this, Bool.and_false]
/-- an item of the odd signs -/
theorem odd_sign {r : Int} (h0 : 0 ≤ r) (h7 : r < 7) : ∃ c : Nat, atI [V.str "A", V.str "1", V.str "_", V.str " ", V.str "-", V.str "\n", V.str "\t"] r = some (.str (sgn c)) ∧ inLetters c = false := by
  obtain ⟨m, rfl⟩ : ∃ m : Nat, r = (m : Int) := ⟨r.toNat, by omega⟩
  have hm : m < 7 := by omega
  match m, hm with
  | 0, _ => exact ⟨65, rfl, by decide +kernel⟩
  | 1, _ => exact ⟨49, rfl, by decide +kernel⟩
  | 2, _ => exact ⟨95, rfl, by decide +kernel⟩
  | 3, _ => exact ⟨32, rfl, by decide +kernel⟩
  | 4, _ => exact ⟨45, rfl, by decide +kernel⟩
  | 5, _ => exact ⟨10, rfl, by decide +kernel⟩
  | 6, _ => exact ⟨9, rfl, by decide +kernel⟩
theorem letter_at {r : Int} (h0 : 0 ≤ r) (h26 : r < 26) : ∃ c : Nat, atI lettersT.cps.toList r = some c ∧ inLetters c = true := by
  obtain ⟨m, rfl⟩ : ∃ m : Nat, r = (m : Int) := ⟨r.toNat, by omega⟩
  have hl : lettersT.cps.toList.length = 26 := by decide +kernel
  have hm : m < lettersT.cps.toList.length := by omega
  exact ⟨lettersT.cps.toList[m], atI_nat (List.getElem?_eq_getElem hm), decide_eq_true (List.getElem_mem hm)⟩
section
variable {P : Program} {w : World} {K : PySem.W.Frag} {mg : Str → Option Value} {base : Heap} {f : Addr} {fd : FuncData}
def spTrue : Sp := fun vs H Q _ => ∃ (b c : Addr) (n : Int), vs = [.ref b] ∧ BagAt H b c n ∧ n < 2 ^ 59 ∧ ∀ H', Kb b H H' → BagAt H' b c (n + 100) → Q (.bl true) H'
theorem C_words (T : Tx K mg) : Cal P w K mg base CX0 2 "_law_words_right" ["bag"] [] spTrue := by
  obtain ⟨fd, F⟩ := T.d__law_words_right
  have C__law_draw := C_draw (P := P) (w := w) (base := base) T
  have C__law_is := C_is (P := P) (w := w) (base := base) T
  have C_is_name := C_is_name (P := P) (w := w) (base := base) T
  have C_is_whole := C_is_whole (P := P) (w := w) (base := base) T
  have C_is_wholeG := C_is_wholeG (P := P) (w := w) (base := base) T
  have C_is_whole1 := C_is_whole1 (P := P) (w := w) (base := base) T
  have C_is_whole2 := C_is_whole2 (P := P) (w := w) (base := base) T
  refine ⟨_, fd, [], F.ok sc__law_words_right (fun vs H Q E h => ?_) (fun cdv A outer s H vs Q E hr h => ?_), T.g__law_words_right, F.kp, F.bindsN fun _ _ _ _ _ _ us hl => match us, hl with | [_], _ => rfl, .nil⟩
  · obtain ⟨b, c, n, rfl, _⟩ := h
    rfl
  · obtain ⟨b, c, n, rfl, B, hn, k⟩ := h
    refine ⟨_, PSs.nox (pss_cons (ps_set (i := 2) sc__law_words_right.nd rfl (Or.inl rfl) (pe_bm PySem.F.plainAttrs_str PySem.F.slot_str_join PySem.F.type_str_join mt_join pe_str (pa_cons (pe_lc (own := [("k", 1)]) (g := gName 1) (tt := tYes) (by rfl) sc__law_words_right.nd (pi_range1 (by rfl) T.n_range (pa_cons (pe_cal C__law_draw (hr.mono (by decide)) pass0 (pa_cons (pv 0) (pa_cons pe_int pa_nil))) pa_nil)) (blkOk_by (N := ["bag", "k", "word", "at", "odd", "number", "low"]) (sc := defScope s__law_words_right) (by decide +kernel)) (fun _ _ _ _ _ => (pg_name (i := 1) sc__law_words_right.nd rfl (Or.inl rfl))) (fun _ _ _ _ _ => pts_nil) (fun _ _ _ _ _ => (pe_ix ix_str pe_str (pe_cal C__law_draw (hr.mono (by decide)) pass0 (pa_cons (pv 0) (pa_cons pe_int pa_nil))) (fun _ _ => rfl)))) pa_nil)))
      (C8.pss_cut (ps_if (pt_not (pt_val (pe_cal C__law_is (hr.mono (by decide)) pass0 (pa_cons (pe_cal C_is_name (hr.mono (by decide)) pass0 (pa_cons (pv 2) pa_nil)) (pa_cons (pe_chain op_le op_le pe_int (pe_callB call_len_str (by rfl) T.n_len (by decide +kernel) (pa_cons (pv 2) pa_nil)) pe_int) pa_nil)))))
        (pss_one (ps_ret pe_bl))
        pss_nil)
      (pss_cons (ps_set (i := 3) sc__law_words_right.nd rfl (Or.inl rfl) (pe_cal C__law_draw (hr.mono (by decide)) pass0 (pa_cons (pv 0) (pa_cons (pe_op op_add (pe_callB call_len_str (by rfl) T.n_len (by decide +kernel) (pa_cons (pv 2) pa_nil)) pe_int) pa_nil))))
      (pss_cons (ps_set (i := 4) sc__law_words_right.nd rfl (Or.inl rfl) (pe_op op_add_str (pe_op op_add_str (pe_slice sl_str (pv 2) po_none (po_some (pv 3))) (pe_ix ix_list (pe_lst (pa_cons pe_str (pa_cons pe_str (pa_cons pe_str (pa_cons pe_str (pa_cons pe_str (pa_cons pe_str (pa_cons pe_str pa_nil)))))))) (pe_cal C__law_draw (hr.mono (by decide)) pass0 (pa_cons (pv 0) (pa_cons pe_int pa_nil))) (fun _ _ => rfl))) (pe_slice sl_str (pv 2) (po_some (pv 3)) po_none)))
      (pss_cons (ps_set (i := 5) sc__law_words_right.nd rfl (Or.inl rfl) (pe_op op_sub (pe_cal C__law_draw (hr.mono (by decide)) pass0 (pa_cons (pv 0) (pa_cons (pe_op op_pow pe_int pe_int) pa_nil))) (pe_op op_pow pe_int pe_int)))
      (pss_cons (ps_set (i := 6) sc__law_words_right.nd rfl (Or.inl rfl) (pe_op op_sub (pe_cal C__law_draw (hr.mono (by decide)) pass0 (pa_cons (pv 0) (pa_cons (pe_op op_pow pe_int pe_int) pa_nil))) (pe_op op_pow pe_int pe_int)))
      (pss_cons (ps_if (PW.pt (pw_or (pt_val (pe_cal C_is_name (hr.mono (by decide)) pass0 (pa_cons (pv 4) pa_nil))) (pw_or (pt_val (pe_cal C_is_name (hr.mono (by decide)) pass0 (pa_cons (pe_op op_add_str (pv 2) pe_str) pa_nil))) (pw_or (pt_val (pe_cal C_is_name (hr.mono (by decide)) pass0 (pa_cons (pv 5) pa_nil))) (pw_or (pt_val (pe_cal C_is_name (hr.mono (by decide)) pass0 (pa_cons pe_non pa_nil))) (pw_or1 (pt_val (pe_cal C_is_name (hr.mono (by decide)) pass0 (pa_cons (pe_lst (pa_cons (pv 2) pa_nil)) pa_nil)))))))))
        (pss_one (ps_ret pe_bl))
        pss_nil)
      (pss_cons (ps_if (PW.pt (pw_or (pt_not (pt_val (pe_cal C__law_is (hr.mono (by decide)) pass0 (pa_cons (pe_cal C_is_whole2 (hr.mono (by decide)) pass0 (pa_cons (pv 5) (pa_cons (pv 6) pa_nil))) (pa_cons (pe_cmpR op_ge (pv 5) (pv 6) (nomark _)) pa_nil))))) (pw_or1 (pt_not (pt_val (pe_cal C__law_is (hr.mono (by decide)) pass0 (pa_cons (pe_cal C_is_wholeG (hr.mono (by decide)) pass0 (pa_cons (pv 5) (pa_cons pe_non (pa_cons (pv 6) pa_nil)))) (pa_cons (pe_cmpR op_le (pv 5) (pv 6) (nomark _)) pa_nil))))))))
        (pss_one (ps_ret pe_bl))
        pss_nil)
      (pss_cons (ps_if (PW.pt (pw_or (pt_not (pt_val (pe_cal C_is_whole1 (hr.mono (by decide)) pass0 (pa_cons (pv 5) pa_nil)))) (pw_or (pt_not (pt_val (pe_cal C_is_whole (hr.mono (by decide)) pass0 (pa_cons (pv 6) (pa_cons (pv 6) (pa_cons (pv 6) pa_nil)))))) (pw_or (pt_val (pe_cal C_is_whole (hr.mono (by decide)) pass0 (pa_cons (pv 6) (pa_cons (pe_op op_add (pv 6) pe_int) (pa_cons (pv 6) pa_nil))))) (pw_or1 (pt_val (pe_cal C_is_whole (hr.mono (by decide)) pass0 (pa_cons (pv 6) (pa_cons (pv 6) (pa_cons (pe_op op_sub (pv 6) pe_int) pa_nil))))))))))
        (pss_one (ps_ret pe_bl))
        pss_nil)
      (pss_one (ps_ret (pe_and (pe_not (pe_cal C_is_whole1 (hr.mono (by decide)) pass0 (pa_cons pe_bl pa_nil))) (pe_and (pe_not (pe_cal C_is_whole (hr.mono (by decide)) pass0 (pa_cons pe_bl (pa_cons pe_int (pa_cons pe_int pa_nil))))) (pe_and (pe_not (pe_cal C_is_whole1 (hr.mono (by decide)) pass0 (pa_cons pe_non pa_nil))) (pe_and (pe_not (pe_cal C_is_whole1 (hr.mono (by decide)) pass0 (pa_cons (pv 2) pa_nil))) (pe_one (pe_not (pe_cal C_is_whole1 (hr.mono (by decide)) pass0 (pa_cons (pe_tup (pa_cons (pv 5) pa_nil)) pa_nil))))))))))))))))))), ?_⟩
    -- the word
    refine ⟨rfl, _, rfl, b, c, 15, n, rfl, B, by decide, by decide, by omega, fun len H1 n0 n15 o1 B1 => ?_⟩
    obtain ⟨m, rfl⟩ : ∃ m : Nat, len = (m : Int) := ⟨len.toNat, by omega⟩
    refine ⟨(m : Int), rfl, by omega, by omega, fun D nD => ?_⟩
    rw [Int.toNat_natCast]
    have Db := (B1.new nD).1
    refine lc_range (lo := 0) (n := m) (fun i H' => Kb b H1 H' ∧ BagAt H' b c (n + 1 + i) ∧ ∃ cs : List Nat, H' D = some (.lst ((cs.map sgn).map V.str)) ∧ cs.length = i ∧ ∀ c ∈ cs, inLetters c = true) ⟨kb_new nD, (B1.updNew nD).mono (by omega), [], upd_same, rfl, by simp⟩ ?_ ?_
    · rintro i H2 hi ⟨kb, B2, cs, hD, hl, al⟩
      refine ⟨rfl, ⟨_, rfl, b, c, 26, _, rfl, B2, by decide, by decide, by omega, fun r H3 r0 r26 o3 B3 => ?_⟩⟩
      obtain ⟨ch, at_, inl⟩ := letter_at r0 r26
      have hD3 := o3.at Db hD
      refine ⟨lettersT, r, ch, rfl, rfl, by decide +kernel, at_, _, hD3, ?_, ?_, ?_, cs ++ [ch], ?_, by rw [List.length_append, hl]; rfl, ?_⟩
      · rw [List.length_map, List.length_map]
        exact small1000 (by omega)
      · intro a o ne e
        by_cases ha : a = D
        · rw [ha, nD] at e
          cases e
        · rw [upd_ne ha]
          exact o3.at ne (kb a o ne e)
      · have Dc : D ≠ c := (B1.new nD).2
        exact (B3.upd Db Dc).mono (by omega)
      · rw [upd_same, List.map_append, List.map_append]
        rfl
      · intro x hx
        rcases List.mem_append.mp hx with hx | hx
        · exact al x hx
        · obtain rfl := List.mem_singleton.mp hx
          exact inl
    · rintro H2 ⟨kb2, B2, cs, hD, hl, al⟩
      refine ⟨_, D, cs.map sgn, rfl, rfl, .inl (SqL.of hD), ?_, ?_⟩
      · rw [sum_ones, List.length_map]
        have : (Str.ofString "").length = 0 := by decide +kernel
        rw [this]
        omega
      rw [join_sgn]
      have sl : (SX.S cs).length = cs.length := List.size_toArray ..
      have s16 : (SX.S cs).length ≤ sizeLine := by rw [sl]; exact Nat.le_trans (show cs.length ≤ 1000 by omega) (by decide)
      have nb : n + 20 < 2 ^ 60 := by omega
      refine ⟨fun σ' H' => Kb b H H' ∧ BagAt H' b c (n + 20) ∧ ∃ o1 o3 o4 o5 o6, σ' = [some (.ref b), o1, some (.str (SX.S cs)), o3, o4, o5, o6], ?_, ?_⟩
      · refine ⟨_, rfl, _, _, rfl, .str (SX.S cs), fun x e => by cases e; omega, fun H3 s3 => ?_⟩
        rw [name_S al]
        have kb3 : Kb b H H3 := o1.kb.trans (kb2.trans (.of_same s3))
        have B3 : BagAt H3 b c (n + 20) := (B2.same s3).mono (by omega)
        refine ⟨_, rfl, _, rfl, s16, _, _, rfl, rfl, _, rfl, ?_⟩
        rw [sl]
        by_cases h1 : 1 ≤ cs.length
        · rw [decide_eq_true (show (1 : Int) ≤ ((cs.length : Nat) : Int) by omega), decide_eq_true h1, Bool.true_and]
          have e : decide (((cs.length : Nat) : Int) ≤ 12) = decide (cs.length ≤ 12) := decide_eq_decide.mpr (by omega)
          refine iteT ⟨_, _, rfl, rfl, _, _, rfl, _, rfl, ?_⟩
          rw [e, beq_self_eq_true]
          exact iteF ⟨kb3, B3, _, _, _, _, _, rfl⟩
        · rw [decide_eq_false (show ¬ (1 : Int) ≤ ((cs.length : Nat) : Int) by omega), decide_eq_false h1, Bool.false_and]
          exact iteF ⟨_, _, rfl, _, rfl, iteF ⟨kb3, B3, _, _, _, _, _, rfl⟩⟩
      rintro σ H4 ⟨kb4, B4, v1, v3, v4, v5, v6, rfl⟩
      have big : (10 : Int) ^ (30 : Int).toNat = 1000000000000000000000000000000 := by decide +kernel
      -- at, odd
      refine ⟨_, rfl, _, rfl, _, rfl, s16, _, _, rfl, rfl, b, c, _, _, rfl, B4, by omega, ?_, by omega, fun at_ H5 a0 a1 o5 B5 => ?_⟩
      · rw [sl]
        have : ((cs.length : Nat) : Int) + 1 ≤ 15 := by omega
        exact Int.lt_of_le_of_lt this (by decide)
      refine ⟨_, rfl, _, rfl, _, rfl, _, rfl, s16, ?_⟩
      refine ⟨by show 7 ≤ sizeLine; decide, fun q nq => ?_⟩
      refine ⟨_, rfl, b, c, 7, _, rfl, B5.updNew nq, by decide, by decide, by omega, fun r H6 r0 r7 o6 B6 => ?_⟩
      obtain ⟨ch, hat, nl⟩ := odd_sign r0 r7
      have qb := (B5.new nq).1
      refine ⟨q, _, r, _, rfl, rfl, SqL.of (o6.at qb upd_same), hat, ?_⟩
      have c1 : (cutS (SX.S cs) none (some at_)).length ≤ 14 := Nat.le_trans (cutS_length _ _ _) (by omega)
      have c2 : (cutS (SX.S cs) (some at_) none).length ≤ 14 := Nat.le_trans (cutS_length _ _ _) (by omega)
      have c3 : (cutS (SX.S cs) none (some at_) ++ sgn ch).length ≤ 15 := by
        rw [strLen_append]
        have : (sgn ch).length = 1 := rfl
        omega
      have le1000 : ∀ {m : Nat}, m ≤ 1000 → m ≤ sizeLine := fun h => Nat.le_trans h (by decide)
      refine ⟨_, _, rfl, rfl, le1000 (by have : (sgn ch).length = 1 := rfl; omega), ?_⟩
      refine ⟨_, rfl, _, rfl, _, rfl, _, rfl, s16, _, _, rfl, rfl, le1000 (by omega), ?_⟩
      have c4 : (cutS (SX.S cs) none (some at_) ++ sgn ch ++ cutS (SX.S cs) (some at_) none).length ≤ 30 := by
        rw [strLen_append]
        omega
      have no1 := name_odd (a := cutS (SX.S cs) none (some at_)) (b := cutS (SX.S cs) (some at_) none) nl
      generalize cutS (SX.S cs) none (some at_) ++ sgn ch ++ cutS (SX.S cs) (some at_) none = odd at c4 no1 ⊢
      -- number, low
      refine ⟨_, rfl, _, _, rfl, rfl, ⟨by decide, by decide, by decide⟩, b, c, _, _, rfl, B6, by decide +kernel, by decide +kernel, by omega, fun r1 H7 x0 x1 o7 B7 => ?_⟩
      refine ⟨_, _, rfl, rfl, ⟨by decide, by decide, by decide⟩, _, _, rfl, rfl, ?_⟩
      refine ⟨_, rfl, _, _, rfl, rfl, ⟨by decide, by decide, by decide⟩, b, c, _, _, rfl, B7, by decide +kernel, by decide +kernel, by omega, fun r2 H8 y0 y1 o8 B8 => ?_⟩
      refine ⟨_, _, rfl, rfl, ⟨by decide, by decide, by decide⟩, _, _, rfl, rfl, ?_⟩
      have kb8 : Kb b H H8 := kb4.trans (o5.kb.trans ((kb_new nq).trans (o6.kb.trans (o7.kb.trans o8.kb))))
      -- is_name of what is none
      refine ⟨_, rfl, _, _, rfl, .str _, (fun x e => by cases e; omega), fun H9 s9 => ⟨_, rfl, ?_⟩⟩
      rw [no1]
      have no2 : nameV (V.str (SX.S cs ++ Str.ofString "\n")) = false := name_odd1 (a := SX.S cs) (c := 10) (by decide +kernel)
      have l2 : (SX.S cs ++ sgn 10).length ≤ 1000 := by
        rw [strLen_append, sl]
        have : (sgn 10).length = 1 := rfl
        omega
      refine iteF ⟨_, rfl, _, _, rfl, rfl, ?_, _, _, rfl, .str _, (fun x e => by cases e; exact l2), fun H10 s10 => ⟨_, rfl, ?_⟩⟩
      · rw [sl]
        exact le1000 (by show cs.length + 1 ≤ 1000; omega)
      rw [no2]
      refine iteF ⟨_, rfl, _, _, rfl, .int _, (fun x e => nomatch e), fun H11 s11 => ⟨_, rfl, iteF ?_⟩⟩
      refine ⟨_, _, rfl, .non, (fun x e => nomatch e), fun H12 s12 => ⟨_, rfl, iteF ?_⟩⟩
      refine ⟨_, rfl, by show 1 ≤ sizeLine; decide, fun p np => ⟨_, _, rfl, .lst upd_same, (fun x e => nomatch e), fun H13 s13 => ⟨_, rfl, iteF ?_⟩⟩⟩
      have sm := s9.trans (s10.trans (s11.trans (s12.trans ((same_new np).trans s13))))
      have q := k H13 (kb8.trans (.of_same sm)) ((B8.same sm).mono (by omega))
      -- is_whole
      refine ⟨_, rfl, _, rfl, _, _, _, _, rfl, .int _, .inr ⟨_, rfl⟩, .inl rfl, _, rfl, _, rfl, _, _, rfl, rfl, _, _, rfl, _, rfl, ?_⟩
      have w1 : ∀ number low : Int, (wholeG (.int number) (.int low) .non == decide (low ≤ number)) = true := fun number low => by
        show ((decide (low ≤ number) && true) == decide (low ≤ number)) = true
        rw [Bool.and_true, beq_self_eq_true]
      have w2 : ∀ number low : Int, (wholeG (.int number) .non (.int low) == decide (number ≤ low)) = true := fun number low => by
        show ((true && decide (number ≤ low)) == decide (number ≤ low)) = true
        rw [Bool.true_and, beq_self_eq_true]
      have w3 : ∀ low : Int, wholeV (.int low) low low = true := fun low => by
        show (decide (low ≤ low) && decide (low ≤ low)) = true
        rw [decide_eq_true (Int.le_refl _)]
        rfl
      have w4 : ∀ low : Int, wholeV (.int low) (low + 1) low = false := fun low => by
        show (decide (low + 1 ≤ low) && _) = false
        rw [decide_eq_false (by omega), Bool.false_and]
      have w5 : ∀ low : Int, wholeV (.int low) low (low - 1) = false := fun low => by
        show (_ && decide (low ≤ low - 1)) = false
        rw [decide_eq_false (show ¬ low ≤ low - 1 by omega), Bool.and_false]
      rw [w1]
      refine iteF ⟨_, rfl, _, rfl, _, _, _, _, rfl, .int _, .inl rfl, .inr ⟨_, rfl⟩, _, rfl, _, rfl, _, _, rfl, rfl, _, _, rfl, _, rfl, ?_⟩
      rw [w2]
      refine iteF ⟨_, rfl, _, _, _, _, rfl, .int _, .inl rfl, .inl rfl, _, rfl, iteF ?_⟩
      refine ⟨_, rfl, _, rfl, _, rfl, _, _, _, _, rfl, .int _, _, rfl, ?_⟩
      rw [w3]
      refine iteF ⟨_, rfl, _, rfl, _, _, rfl, rfl, _, rfl, _, _, _, _, rfl, .int _, _, rfl, ?_⟩
      rw [w4]
      refine iteF ⟨_, rfl, _, rfl, _, rfl, _, _, rfl, rfl, _, _, _, _, rfl, .int _, _, rfl, ?_⟩
      rw [w5]
      refine iteF ⟨_, _, _, _, rfl, .bl _, .inl rfl, .inl rfl, _, rfl, _, rfl, iteT ?_⟩
      refine ⟨_, 0, 1, _, rfl, .bl _, _, rfl, _, rfl, iteT ?_⟩
      refine ⟨_, _, _, _, rfl, .non, .inl rfl, .inl rfl, _, rfl, _, rfl, iteT ?_⟩
      refine ⟨_, rfl, _, _, _, _, rfl, .str _, .inl rfl, .inl rfl, _, rfl, _, rfl, iteT ?_⟩
      refine ⟨_, rfl, by show 1 ≤ sizeLine; decide, fun p2 np2 => ⟨_, _, _, _, rfl, .tup upd_same, .inl rfl, .inl rfl, _, rfl, ?_⟩⟩
      exact k _ (kb8.trans (.of_same (sm.trans (same_new np2)))) ((B8.same (sm.trans (same_new np2))).mono (by omega))
end
end K02

set_option maxRecDepth 100000
set_option maxHeartbeats 4000000
namespace K02
open PySem PySem.Spec PyProof.Rows L2 Q RZ RT
theorem cut_ints (ws : List Int) (lo hi : Option Int) : ∃ us : List Int, cutV (ws.map V.int) lo hi = us.map V.int ∧ (∀ u ∈ us, u ∈ ws) ∧ us.length ≤ ws.length := by
  refine ⟨(ws.drop (HT.sIx (ws.map V.int).length 0 lo)).take (HT.sIx (ws.map V.int).length (ws.map V.int).length hi - HT.sIx (ws.map V.int).length 0 lo), ?_, fun u m => List.mem_of_mem_drop (List.mem_of_mem_take m), ?_⟩
  · unfold cutV
    rw [List.map_take, List.map_drop]
  · rw [List.length_take, List.length_drop]
    omega
theorem cut_to {ws : List Int} {j : Nat} (h : j ≤ ws.length) : cutV (ws.map V.int) none (some (j : Int)) = (ws.take j).map V.int := by
  unfold cutV
  rw [show HT.sIx (ws.map V.int).length (ws.map V.int).length (some (j : Int)) = min j (ws.map V.int).length from HT.sIx_nat _ _ j, HT.sIx_none, List.drop_zero, Nat.sub_zero, ← List.map_take, List.length_map, Nat.min_eq_left h]
section
variable {P : Program} {w : World} {K : PySem.W.Frag} {mg : Str → Option Value} {base : Heap} {f : Addr} {fd : FuncData}
theorem C_far (T : Tx K mg) : Cal P w K mg base CX0 2 "_law_far_right" ["bag"] [] spTrue := by
  obtain ⟨fd, F⟩ := T.d__law_far_right
  have C__law_draw := C_draw (P := P) (w := w) (base := base) T
  have C_row_count := C_row_count (P := P) (w := w) (base := base) T
  have C_row_number := C_row_number (P := P) (w := w) (base := base) T
  have C_row_at := C_row_at (P := P) (w := w) (base := base) T
  refine ⟨_, fd, [], F.ok sc__law_far_right (fun vs H Q E h => ?_) (fun cdv A outer s H vs Q E hr h => ?_), T.g__law_far_right, F.kp, F.bindsN fun _ _ _ _ _ _ us hl => match us, hl with | [_], _ => rfl, .nil⟩
  · obtain ⟨b, c, n, rfl, _⟩ := h
    rfl
  · obtain ⟨b, c, n, rfl, B, hn, k⟩ := h
    refine ⟨_, PSs.nox (pss_cons (ps_set (i := 1) sc__law_far_right.nd rfl (Or.inl rfl) (pe_slice sl_list (pe_lst (pa_cons (pe_op op_add pe_int (pe_cal C__law_draw (hr.mono (by decide)) pass0 (pa_cons (pv 0) (pa_cons pe_int pa_nil)))) (pa_cons (pe_op op_add pe_int (pe_cal C__law_draw (hr.mono (by decide)) pass0 (pa_cons (pv 0) (pa_cons pe_int pa_nil)))) (pa_cons (pe_op op_add pe_int (pe_cal C__law_draw (hr.mono (by decide)) pass0 (pa_cons (pv 0) (pa_cons pe_int pa_nil)))) (pa_cons (pe_op op_add pe_int (pe_cal C__law_draw (hr.mono (by decide)) pass0 (pa_cons (pv 0) (pa_cons pe_int pa_nil)))) (pa_cons pe_int pa_nil)))))) po_none (po_some (pe_op op_add pe_int (pe_cal C__law_draw (hr.mono (by decide)) pass0 (pa_cons (pv 0) (pa_cons pe_int pa_nil)))))))
      (pss_cons (ps_set (i := 2) sc__law_far_right.nd rfl (Or.inl rfl) (pe_cal C__law_draw (hr.mono (by decide)) pass0 (pa_cons (pv 0) (pa_cons (pe_callB call_len_seq (by rfl) T.n_len (by decide +kernel) (pa_cons (pv 1) pa_nil)) pa_nil))))
      (pss_cons (ps_set (i := 1) sc__law_far_right.nd rfl (Or.inl rfl) (pe_op op_cat (pe_slice sl_list (pv 1) (po_some (pv 2)) po_none) (pe_slice sl_list (pv 1) po_none (po_some (pv 2)))))
      (pss_cons (ps_set (i := 4) sc__law_far_right.nd rfl (Or.inl rfl) (pe_callTy call_tupOf (by rfl) T.n_tuple (by decide +kernel) (pa_cons (pe_lc (own := [("width", 3)]) (g := gName 3) (tt := tYes) (by rfl) sc__law_far_right.nd (pi_list (pv 1)) (blkOk_by (N := ["bag", "widths", "at", "width", "row", "many", "ahead", "k"]) (sc := defScope s__law_far_right) (by decide +kernel)) (fun _ _ _ _ _ => (pg_name (i := 3) sc__law_far_right.nd rfl (Or.inl rfl))) (fun _ _ _ _ _ => pts_nil) (fun _ _ _ _ _ => (pe_cal C__law_draw (hr.mono (by decide)) pass0 (pa_cons (pv 0) (pa_cons (pv 3) pa_nil))))) pa_nil)))
      (pss_cons (ps_asg (pe_tup (pa_cons pe_int (pa_cons pe_int pa_nil))) (pg_tup rfl (pgs_cons (pg_name (i := 5) sc__law_far_right.nd rfl (Or.inl rfl)) (pgs_cons (pg_name (i := 6) sc__law_far_right.nd rfl (Or.inl rfl)) pgs_nil))))
      (pss_cons (ps_for PassesOwn.never rfl (pi_range1 (by rfl) T.n_range (pa_cons (pe_callB call_len_seq (by rfl) T.n_len (by decide +kernel) (pa_cons (pv 1) pa_nil)) pa_nil)) (pg_name (i := 7) sc__law_far_right.nd rfl (Or.inl rfl))
        (pss_cons (ps_set (i := 5) sc__law_far_right.nd rfl (Or.inl rfl) (pe_op op_mul (pv 5) (pe_ix ix_list (pv 1) (pv 7) (fun _ _ => rfl))))
        (pss_one (ps_set (i := 6) sc__law_far_right.nd rfl (Or.inl rfl) (pe_op op_add (pe_op op_mul (pv 6) (pe_ix ix_list (pv 1) (pv 7) (fun _ _ => rfl))) (pe_ix ix_tup (pv 4) (pv 7) (fun _ _ => rfl)))))))
      (pss_one (ps_ret (pe_and (pe_cmpR op_eq (pe_cal C_row_count (hr.mono (by decide)) pass0 (pa_cons (pv 1) pa_nil)) (pv 5) (nomark _)) (pe_and (pe_cmpR op_eq (pe_cal C_row_number (hr.mono (by decide)) pass0 (pa_cons (pv 1) (pa_cons (pv 4) pa_nil))) (pv 6) (nomark _)) (pe_one (pe_cmpR (op_eqD hr.units) (pe_cal C_row_at (hr.mono (by decide)) pass0 (pa_cons (pv 1) (pa_cons (pv 6) pa_nil))) (pv 4) (nomark _))))))))))))), ?_⟩
    refine ⟨_, rfl, b, c, 64, _, rfl, B, by decide, by decide, by omega, fun r1 H1 a1 b1 o1 B1 => ⟨_, _, rfl, rfl, ?_⟩⟩
    refine ⟨_, rfl, b, c, 4, _, rfl, B1, by decide, by decide, by omega, fun r2 H2 a2 b2 o2 B2 => ⟨_, _, rfl, rfl, ?_⟩⟩
    refine ⟨_, rfl, b, c, 4, _, rfl, B2, by decide, by decide, by omega, fun r3 H3 a3 b3 o3 B3 => ⟨_, _, rfl, rfl, ?_⟩⟩
    refine ⟨_, rfl, b, c, 4, _, rfl, B3, by decide, by decide, by omega, fun r4 H4 a4 b4 o4 B4 => ⟨_, _, rfl, rfl, ?_⟩⟩
    refine ⟨by show 5 ≤ sizeLine; decide, fun l0 nl0 => ?_⟩
    have kb4 : Kb b H H4 := o1.kb.trans (o2.kb.trans (o3.kb.trans o4.kb))
    have l0b := (B4.new nl0).1
    refine ⟨_, rfl, b, c, 2, _, rfl, B4.updNew nl0, by decide, by decide, by omega, fun r5 H5 a5 b5 o5 B5 => ⟨_, _, rfl, rfl, ?_⟩⟩
    have hl0 := o5.at l0b (upd_same (H := H4) (a := l0) (o := HO.lst [V.int (1 + r1), V.int (1 + r2), V.int (1 + r3), V.int (1 + r4), V.int 1]))
    refine ⟨_, rfl, l0, [1 + r1, 1 + r2, 1 + r3, 1 + r4, 1].map V.int, rfl, SqL.of hl0, fun l1 nl1 => ?_⟩
    obtain ⟨j, rfl⟩ : ∃ j : Nat, r5 = (j : Int) := ⟨r5.toNat, by omega⟩
    rw [show (4 : Int) + (j : Int) = ((4 + j : Nat) : Int) by omega, cut_to (by show 4 + j ≤ 5; omega)]
    obtain ⟨w1, hw1, len1, in1⟩ : ∃ w1 : List Int, w1 = [1 + r1, 1 + r2, 1 + r3, 1 + r4, 1].take (4 + j) ∧ (4 ≤ w1.length ∧ w1.length ≤ 5) ∧ ∀ w ∈ w1, 1 ≤ w ∧ w ≤ 64 := by
      refine ⟨_, rfl, ?_, fun w m => ?_⟩
      · rw [List.length_take]
        show 4 ≤ min (4 + j) 5 ∧ min (4 + j) 5 ≤ 5
        omega
      · have := List.mem_of_mem_take m
        simp only [List.mem_cons, List.not_mem_nil, or_false] at this
        rcases this with rfl | rfl | rfl | rfl | rfl <;> omega
    rw [← hw1]
    have B6 := B5.updNew (o := HO.lst (w1.map V.int)) nl1
    have l1b := (B5.new nl1).1
    have kb6 : Kb b H (upd H5 l1 (HO.lst (w1.map V.int))) := kb4.trans ((kb_new nl0).trans (o5.kb.trans (kb_new nl1)))
    have hl1 : (upd H5 l1 (HO.lst (w1.map V.int))) l1 = some (HO.lst (w1.map V.int)) := upd_same
    generalize upd H5 l1 (HO.lst (w1.map V.int)) = H6 at B6 kb6 hl1 ⊢
    -- at, the turned widths
    refine ⟨_, rfl, _, rfl, l1, _, rfl, .inl (SqL.of hl1), b, c, _, _, rfl, B6, by rw [List.length_map]; omega, ?_, by omega, fun at_ H7 x0 x1 o7 B7 => ?_⟩
    · rw [List.length_map]
      exact Int.lt_of_le_of_lt (show ((w1.length : Nat) : Int) ≤ 5 by omega) (by decide)
    have hl1' := o7.at l1b hl1
    obtain ⟨u1, e1, m1, q1⟩ := cut_ints w1 (some at_) none
    obtain ⟨u2, e2, m2, q2⟩ := cut_ints w1 none (some at_)
    refine ⟨_, rfl, _, rfl, _, rfl, l1, _, rfl, SqL.of hl1', fun l2 nl2 => ?_⟩
    rw [e1]
    have s2 := same_new (o := HO.lst (u1.map V.int)) nl2
    refine ⟨_, rfl, _, rfl, _, rfl, l1, _, rfl, SqL.of (s2 _ _ hl1'), fun l3 nl3 => ?_⟩
    rw [e2]
    have s3 := same_new (o := HO.lst (u2.map V.int)) nl3
    refine ⟨l2, l3, u1.map V.int, u2.map V.int, rfl, rfl, s3 _ _ upd_same, upd_same, by rw [List.length_map, List.length_map]; exact Nat.le_trans (show u1.length + u2.length ≤ 10 by omega) (by decide), fun l nl => ?_⟩
    rw [← List.map_append]
    obtain ⟨ws, hws⟩ : ∃ ws, ws = u1 ++ u2 := ⟨_, rfl⟩
    have hw : ∀ w ∈ ws, 1 ≤ w ∧ w ≤ 64 := fun w m => by
      rw [hws] at m
      rcases List.mem_append.mp m with m | m
      · exact in1 w (m1 w m)
      · exact in1 w (m2 w m)
    have hwl : ws.length ≤ 10 := by rw [hws, List.length_append]; omega
    rw [← hws]
    have sl := s2.trans (s3.trans (same_new (o := HO.lst (ws.map V.int)) nl))
    have B8 := B7.same sl
    have kb8 := kb6.trans (o7.kb.trans (.of_same sl))
    have lb : l ≠ b := ((B7.same (s2.trans s3)).new nl).1
    have hl : (upd (upd (upd H7 l2 (HO.lst (u1.map V.int))) l3 (HO.lst (u2.map V.int))) l (HO.lst (ws.map V.int))) l = some (HO.lst (ws.map V.int)) := upd_same
    generalize upd (upd (upd H7 l2 (HO.lst (u1.map V.int))) l3 (HO.lst (u2.map V.int))) l (HO.lst (ws.map V.int)) = H8 at B8 kb8 hl ⊢
    -- the row
    refine ⟨_, rfl, l, rfl, ⟨_, SqL.of hl⟩, fun D nD => ?_⟩
    have Db := (B8.new nD).1
    refine lc_list (K := K) (a := l) (xs := ws.map V.int) (fun i H' => Kb b H8 H' ∧ BagAt H' b c (n + 6 + i) ∧ ∃ rs : List Int, H' D = some (.lst (rs.map V.int)) ∧ rs.length = i ∧ ∀ (j : Nat) (w v : Int), ws[j]? = some w → rs[j]? = some v → 0 ≤ v ∧ v < w) ⟨kb_new nD, (B8.updNew nD).mono (by omega), [], upd_same, rfl, fun j w v _ h => by simp at h⟩ (fun i H' _ h => SqL.of (h.1 _ _ lb hl)) ?_ ?_
    · rintro i x H9 hx ⟨kb9, B9, rs, hD, hrl, hrs⟩
      obtain ⟨w, hw', rfl⟩ := getMap hx
      obtain ⟨g1, g2⟩ := hw w (List.mem_of_getElem? hw')
      have hi : i < 10 := by
        have := (List.getElem?_eq_some_iff.mp hw').1
        omega
      refine ⟨rfl, ⟨_, rfl, _, rfl, b, c, w, _, rfl, B9, by omega, Int.lt_of_le_of_lt g2 (by decide), by omega, fun r H10 r0 r1 o10 B10 => ?_⟩⟩
      refine ⟨_, o10.at Db hD, ?_, ?_, ?_, rs ++ [r], ?_, by rw [List.length_append, hrl]; rfl, ?_⟩
      · rw [List.length_map]
        exact small1000 (by omega)
      · intro a o ne e
        by_cases ha : a = D
        · rw [ha, nD] at e
          cases e
        · rw [upd_ne ha]
          exact o10.at ne (kb9 a o ne e)
      · exact (B10.upd Db (B8.new nD).2).mono (by omega)
      · rw [upd_same, List.map_append]
        rfl
      · intro j w' v h1 h2
        rw [List.getElem?_append] at h2
        split at h2
        · exact hrs j w' v h1 h2
        · rename_i hj
          rw [List.getElem?_singleton] at h2
          split at h2
          · rename_i h0
            obtain rfl : j = i := by omega
            cases h2
            rw [hw'] at h1
            cases h1
            exact ⟨r0, r1⟩
          · cases h2
    · rintro H9 ⟨kb9, B9, rs, hD, hrl, hrs⟩
      rw [List.length_map] at hrl B9
      have inr : InR ws rs := InR.of_get hrl hrs
      refine tupL_of (SqL.of hD) fun t nt => ?_
      rw [Nat.add_comm] at *
      have st := same_new (o := HO.tup (rs.map V.int)) nt
      have B10 := B9.same st
      have kb10 := kb8.trans (kb9.trans (.of_same st))
      have hlA : (upd H9 t (HO.tup (rs.map V.int))) l = some (HO.lst (ws.map V.int)) := st _ _ (kb9 _ _ lb hl)
      have htA : (upd H9 t (HO.tup (rs.map V.int))) t = some (HO.tup (rs.map V.int)) := upd_same
      generalize upd H9 t (HO.tup (rs.map V.int)) = H10 at B10 kb10 hlA htA ⊢
      refine ⟨by show 2 ≤ sizeLine; decide, fun tp ntp => ⟨tp, _, rfl, SqT.of upd_same, rfl, _, _, rfl, _, _, rfl, rfl, ?_⟩⟩
      have stp := same_new (o := HO.tup [V.int 1, V.int 0]) ntp
      have B11 := B10.same stp
      have kb11 := kb10.trans (.of_same stp)
      have hlB := stp _ _ hlA
      have htB := stp _ _ htA
      clear hlA htA B10 kb10
      have hlA := hlB
      have htA := htB
      have B10 := B11
      have kb10 := kb11
      clear hlB htB B11 kb11
      generalize upd H10 tp (HO.tup [V.int 1, V.int 0]) = H10 at B10 kb10 hlA htA ⊢
      refine ⟨_, rfl, l, _, rfl, .inl (SqL.of hlA), ((ws.map V.int).length : Int), rfl, by rw [List.length_map]; omega, by rw [List.length_map]; omega, ?_⟩
      rw [Int.toNat_natCast, List.length_map]
      refine for_range (lo := 0) (n := ws.length) (fun i σ H' => H' = H10 ∧ ∃ o2 o3 o7, σ = [some (.ref b), some (.ref l), o2, o3, some (.ref t), some (.int (prodR (ws.take i).reverse)), some (.int (numR (ws.take i).reverse (rs.take i).reverse)), o7]) ⟨rfl, _, _, _, rfl⟩ ?_ ?_
      · rintro i σ H' hi ⟨rfl, v2, v3, v7, rfl⟩
        have hw' : ws[i]? = some ws[i] := List.getElem?_eq_getElem hi
        have hi2 : i < rs.length := by omega
        have hr' : rs[i]? = some rs[i] := List.getElem?_eq_getElem hi2
        obtain ⟨g1, g2⟩ := hw ws[i] (List.getElem_mem hi)
        have aw : atI (ws.map V.int) ((0 : Int) + (i : Int)) = some (.int ws[i]) := by
          rw [Int.zero_add]
          exact atI_nat (by rw [List.getElem?_map, hw']; rfl)
        have ar : atI (rs.map V.int) ((0 : Int) + (i : Int)) = some (.int rs[i]) := by
          rw [Int.zero_add]
          exact atI_nat (by rw [List.getElem?_map, hr']; rfl)
        refine ⟨_, rfl, _, rfl, _, rfl, l, _, _, _, rfl, rfl, SqL.of hlA, aw, _, _, rfl, rfl, .inr ⟨by omega, by omega⟩, ?_⟩
        refine ⟨_, rfl, _, rfl, _, rfl, l, _, _, _, rfl, rfl, SqL.of hlA, aw, _, _, rfl, rfl, .inr ⟨by omega, by omega⟩, ?_⟩
        refine ⟨_, rfl, _, rfl, t, _, _, _, rfl, rfl, SqT.of htA, ar, _, _, rfl, rfl, rfl, v2, v3, some (.int (0 + (i : Int))), ?_⟩
        rw [take_rev hw', take_rev hr']
        rfl
      · rintro σ H' ⟨rfl, v2, v3, v7, rfl⟩
        rw [List.take_length, ← inr.len, List.take_length]
        have bw : ∀ w ∈ ws, w.natAbs < 2 ^ 60 := fun w m => by have := hw w m; omega
        refine ⟨_, rfl, l, ws, rfl, .inl (SqL.of hlA), bw, _, rfl, rfl, _, rfl, ?_⟩
        rw [decide_eq_true rfl]
        refine iteT ⟨_, rfl, _, rfl, l, t, ws, rs, rfl, .inl (SqL.of hlA), .inr (SqT.of htA), inr.len, bw, fun HA sA => ⟨_, rfl, rfl, _, rfl, ?_⟩⟩
        rw [decide_eq_true rfl]
        refine iteT ⟨_, rfl, _, rfl, l, ws, _, rfl, .inl (SqL.of (sA _ _ hlA)), fun w m => by have := hw w m; omega, by omega, fun p HB sB np hp => ?_⟩
        rw [digs_num inr.rev, List.reverse_reverse] at hp
        refine ⟨_, rfl, _, _, dp_ints (SqT.of hp), dp_ints (SqT.of (sB _ _ (sA _ _ htA))), shaped_ints _, shaped_ints _, ?_⟩
        rw [eqv_ints, decide_eq_true rfl]
        exact k HB (kb10.trans (.of_same (sA.trans sB))) ((B10.same (sA.trans sB)).mono (by omega))
end
end K02

set_option maxRecDepth 100000
set_option maxHeartbeats 4000000
namespace K02
open PySem PySem.Spec PyProof.Rows L2 Q RZ RT
/-- the slots, the first three known -/
def Sl (a b l : Addr) (σ : L2.St) : Prop := ∃ o3 o4 o5 o6 o7 o8 o9 o10 o11 o12 o13 o14 o15 o16 o17 o18, σ = [some (.ref a), some (.ref b), some (.ref l), o3, o4, o5, o6, o7, o8, o9, o10, o11, o12, o13, o14, o15, o16, o17, o18]
def Sg (a b l : Addr) (g : V) (σ : L2.St) : Prop := ∃ o4 o5 o6 o7 o8 o9 o10 o11 o12 o13 o14 o15 o16 o17 o18, σ = [some (.ref a), some (.ref b), some (.ref l), some g, o4, o5, o6, o7, o8, o9, o10, o11, o12, o13, o14, o15, o16, o17, o18]
def Sm (a b l : Addr) (m : Int) (σ : L2.St) : Prop := ∃ o3 o4 o5 o6 o8 o9 o10 o11 o12 o13 o14 o15 o16 o17 o18, σ = [some (.ref a), some (.ref b), some (.ref l), o3, o4, o5, o6, some (.int m), o8, o9, o10, o11, o12, o13, o14, o15, o16, o17, o18]
def Sr (a b l : Addr) (m : Int) (r : Addr) (σ : L2.St) : Prop := ∃ o3 o4 o5 o6 o8 o9 o11 o12 o13 o14 o15 o16 o17 o18, σ = [some (.ref a), some (.ref b), some (.ref l), o3, o4, o5, o6, some (.int m), o8, o9, some (.ref r), o11, o12, o13, o14, o15, o16, o17, o18]
def RowsOk (H : Hp) (r : Addr) (ws : List Int) : Prop := ∃ ps : List Addr, H r = some (.lst (ps.map V.ref)) ∧ 1 ≤ ps.length ∧ ps.length ≤ 400 ∧ (∀ p ∈ ps, ∃ rs : List Int, H p = some (.tup (rs.map V.int)) ∧ InR ws rs) ∧
  (prodR ws.reverse ≤ 300 → (ps.length : Int) = prodR ws.reverse ∧ ∀ (k : Nat) (p : Addr), ps[k]? = some p → H p = some (.tup ((digs ws.reverse k).reverse.map V.int)))
theorem RowsOk.same {H H' : Hp} {r : Addr} {ws : List Int} (h : RowsOk H r ws) (e : Same H H') : RowsOk H' r ws := by
  obtain ⟨ps, h1, h2, h3, h4, h5⟩ := h
  refine ⟨ps, e _ _ h1, h2, h3, fun p m => ?_, fun z => ⟨(h5 z).1, fun k p hp => e _ _ ((h5 z).2 k p hp)⟩⟩
  obtain ⟨rs, a, b⟩ := h4 p m
  exact ⟨rs, e _ _ a, b⟩
/-- every row: each in its widths, its number its place -/
theorem row_in {ws : List Int} {k : Nat} (hw : ∀ w ∈ ws, 0 < w) (hk : (k : Int) < prodR ws.reverse) : InR ws (digs ws.reverse k).reverse ∧ numR ws.reverse (digs ws.reverse k) = k := by
  obtain ⟨a, b⟩ := digs_in (ws := ws.reverse) (n := (k : Int)) (fun w m => hw w (List.mem_reverse.mp m)) (by omega) hk
  have := a.rev
  rw [List.reverse_reverse] at this
  exact ⟨this, b⟩
def S4 (a b l : Addr) (m : Int) (r p : Addr) (n h : Int) (σ : L2.St) : Prop := ∃ o3 o4 o5 o6 o8 o9 o14 o15 o16 o17 o18, σ = [some (.ref a), some (.ref b), some (.ref l), o3, o4, o5, o6, some (.int m), o8, o9, some (.ref r), some (.ref p), some (.int n), some (.int h), o14, o15, o16, o17, o18]
def Sw (a b l : Addr) (m : Int) (r u e : Addr) (σ : L2.St) : Prop := ∃ o3 o4 o5 o6 o8 o9 o11 o12 o13 o16 o17 o18, σ = [some (.ref a), some (.ref b), some (.ref l), o3, o4, o5, o6, some (.int m), o8, o9, some (.ref r), o11, o12, o13, some (.ref u), some (.ref e), o16, o17, o18]
theorem allIn_bad : ∀ {ws : List Int} {xs : List V} {j : Nat} {w : Int} {v : V}, ws[j]? = some w → j < xs.length → wholeV v 0 (w - 1) = false → allIn ws (xs.set j v) = false
  | [], _, _, _, _, h, _, _ => by simp at h
  | _ :: _, [], _, _, _, _, h, _ => by simp at h
  | a :: ws, x :: xs, 0, w, v, h, _, e => by
    simp at h
    subst h
    show (wholeV v 0 (a - 1) && allIn ws xs) = false
    rw [e, Bool.false_and]
  | a :: ws, x :: xs, j + 1, w, v, h, hl, e => by
    show (wholeV x 0 (a - 1) && allIn ws (xs.set j v)) = false
    rw [allIn_bad (ws := ws) (xs := xs) (j := j) (by simpa using h) (by simpa using hl) e, Bool.and_false]
theorem cut_last {rs : List Int} (h : 1 ≤ rs.length) : cutV (rs.map V.int) none (some (-1)) = (rs.take (rs.length - 1)).map V.int := by
  unfold cutV
  have e : HT.sIx (rs.map V.int).length (rs.map V.int).length (some (-1)) = rs.length - 1 := by
    rw [List.length_map]
    show (if (-1 : Int) < 0 then ((-1 : Int) + (rs.length : Int)).toNat else min (-1 : Int).toNat rs.length) = rs.length - 1
    rw [if_pos (by decide)]
    omega
  rw [e, HT.sIx_none, List.drop_zero, Nat.sub_zero, ← List.map_take]
/-- an item of the wrong cells of a row -/
theorem wrong_item {H : Hp} {t : Addr} {r r1 w : Int} (ht : H t = some (.tup [.int 0])) (hw : 1 ≤ w ∧ w ≤ 64) (h1 : 0 ≤ r1) (h2 : r1 < 10 ^ 30) (h0 : 0 ≤ r) (h7 : r < 7) :
    ∃ v, atI [V.int w, V.int (-1), V.bl false, V.non, V.str "0", V.ref t, V.int (w + r1)] r = some v ∧ Odd H v ∧ wholeV v 0 (w - 1) = false := by
  obtain ⟨m, rfl⟩ : ∃ m : Nat, r = (m : Int) := ⟨r.toNat, by omega⟩
  have hm : m < 7 := by omega
  have big : ((10 : Nat) ^ 40) = 10000000000000000000000000000000000000000 := by decide +kernel
  have big2 : ((10 : Int) ^ 30) = 1000000000000000000000000000000 := by decide +kernel
  have no : ∀ i : Int, w ≤ i → wholeV (.int i) 0 (w - 1) = false := fun i hi => by
    show (_ && decide (i ≤ w - 1)) = false
    rw [decide_eq_false (show ¬ i ≤ w - 1 by omega), Bool.and_false]
  match m, hm with
  | 0, _ => exact ⟨_, rfl, .int _ (by omega), no _ (Int.le_refl _)⟩
  | 1, _ => exact ⟨_, rfl, .int _ (by omega), rfl⟩
  | 2, _ => exact ⟨_, rfl, .bl _, rfl⟩
  | 3, _ => exact ⟨_, rfl, .non, rfl⟩
  | 4, _ => exact ⟨_, rfl, .str _ (by decide +kernel), rfl⟩
  | 5, _ => exact ⟨_, rfl, .tup 0 (by omega) ht, rfl⟩
  | 6, _ => exact ⟨_, rfl, .int _ (by omega), no _ (by omega)⟩
theorem odds_set' {H : Hp} {xs : List V} {v : V} (h : ∀ x ∈ xs, Odd H x) (hv : Odd H v) (j : Nat) : ∀ x ∈ xs.set j v, Odd H x := fun x m => by
  rcases List.mem_or_eq_of_mem_set m with m | rfl
  · exact h x m
  · exact hv
/-- good widths -/
structure Gd (ws : List Int) : Prop where
  ok : widthsOk (some (ws.map V.int)) = true
  l1 : 1 ≤ ws.length
  l3 : ws.length ≤ 3
  bd : ∀ w ∈ ws, 1 ≤ w ∧ w ≤ 64
  pr : prodR ws.reverse ≤ 4096
theorem gd_of {ws : List Int} (h : widthsOk (some (ws.map V.int)) = true) : Gd ws := by
  have z : ((decide (1 ≤ (ws.map V.int).length) && decide ((ws.map V.int).length ≤ 3)) && ((ws.map V.int).all (fun v => wholeV v 1 64) && decide (prodR ((ws.map V.int).map unI).reverse ≤ 4096))) = true := h
  rw [unI_int, List.length_map] at z
  simp only [Bool.and_eq_true] at z
  obtain ⟨⟨z1, z2⟩, z3, z4⟩ := z
  obtain ⟨-, k⟩ := all_whole z3
  rw [unI_int] at k
  exact ⟨h, of_decide_eq_true z1, of_decide_eq_true z2, k, of_decide_eq_true z4⟩
/-- an item of the wrong widths -/
theorem bad_item {H : Hp} {t : Addr} {r r1 : Int} (ht : H t = some (.tup [.int 2])) (h1 : 0 ≤ r1) (h2 : r1 < 10 ^ 30) (h0 : 0 ≤ r) (h8 : r < 8) : ∃ v, atI [V.int 0, V.int 65, V.int (-1), V.bl true, V.non, V.str "2", V.ref t, V.int (64 + r1)] r = some v ∧ Odd H v := by
  obtain ⟨m, rfl⟩ : ∃ m : Nat, r = (m : Int) := ⟨r.toNat, by omega⟩
  have hm : m < 8 := by omega
  have big : ((10 : Nat) ^ 40) = 10000000000000000000000000000000000000000 := by decide +kernel
  have big2 : ((10 : Int) ^ 30) = 1000000000000000000000000000000 := by decide +kernel
  match m, hm with
  | 0, _ => exact ⟨_, rfl, .int _ (by omega)⟩
  | 1, _ => exact ⟨_, rfl, .int _ (by omega)⟩
  | 2, _ => exact ⟨_, rfl, .int _ (by omega)⟩
  | 3, _ => exact ⟨_, rfl, .bl _⟩
  | 4, _ => exact ⟨_, rfl, .non⟩
  | 5, _ => exact ⟨_, rfl, .str _ (by decide +kernel)⟩
  | 6, _ => exact ⟨_, rfl, .tup 2 (by omega) ht⟩
  | 7, _ => exact ⟨_, rfl, .int _ (by omega)⟩
theorem odds_set {H : Hp} {xs : List V} {v : V} (h : ∀ x ∈ xs, Odd H x) (hv : Odd H v) (j : Nat) : ∀ x ∈ xs.set j v, Odd H x := fun x m => by
  rcases List.mem_or_eq_of_mem_set m with m | rfl
  · exact h x m
  · exact hv
theorem odds_ints {H : Hp} {ws : List Int} (h : ∀ w ∈ ws, w.natAbs < 10 ^ 40) : ∀ x ∈ ws.map V.int, Odd H x := fun x m => by
  obtain ⟨n, hn, rfl⟩ := List.mem_map.mp m
  exact .int n (h n hn)
section
variable {P : Program} {w : World} {K : PySem.W.Frag} {mg : Str → Option Value} {base : Heap} {f : Addr} {fd : FuncData}
def spLaw (K : PySem.W.Frag) : Sp := fun vs H Q _ => ∃ (a : Addr) (ns : List Int), vs = [.ref a] ∧ SqL K H a (ns.map V.int) ∧ ∀ H', Q (.bl true) H'
theorem ok_law (T : Tx K mg) : ∃ fd, FnG P w K mg base CX0 6 (He.ga K "law") fd ["script"] (spLaw K) ∧ FnP K "law" "law" s_law [] (He.ga K "law") fd := by
  obtain ⟨fd, F⟩ := T.d_law
  have C__law_bag := C_bag (P := P) (w := w) (base := base) T
  have C__law_draw := C_draw (P := P) (w := w) (base := base) T
  have C__law_widths := C_widths (P := P) (w := w) (base := base) T
  have C__law_widths_told := C_told (P := P) (w := w) (base := base) T
  have C__law_good := C_good (P := P) (w := w) (base := base) T
  have C__law_row_right := C_right (P := P) (w := w) (base := base) T
  have C__law_all := C_all (P := P) (w := w) (base := base) T
  have C__law_words_right := C_words (P := P) (w := w) (base := base) T
  have C__law_far_right := C_far (P := P) (w := w) (base := base) T
  have C_row_count := C_row_count (P := P) (w := w) (base := base) T
  have C_row_number := C_row_number (P := P) (w := w) (base := base) T
  have C_row_at := C_row_at (P := P) (w := w) (base := base) T
  refine ⟨fd, funG F sc_law (fun vs H Q E h => ?_) (fun cdv A outer s H vs Q E gd hr h => ?_), F⟩
  · obtain ⟨a, ns, rfl, _⟩ := h
    rfl
  · obtain ⟨a, ns, rfl, hS, kQ⟩ := h
    have two : 2 ≤ sizeLine := by decide
    refine ⟨_, PSs.nox (pss_cons (ps_set (i := 1) sc_law.nd rfl (Or.inr rfl) (pe_cal C__law_bag (hr.mono (by decide)) pass0 (pa_cons (pv 0) pa_nil)))
      (pss_cons (ps_set (i := 2) sc_law.nd rfl (Or.inr rfl) (pe_cal C__law_widths (hr.mono (by decide)) pass0 (pa_cons (pv 1) pa_nil)))
      (C8.pss_cut (ps_set (i := 3) sc_law.nd rfl (Or.inl rfl) (pe_cal C__law_widths_told (hr.mono (by decide)) pass0 (pa_cons (pv 2) pa_nil)))
      (C8.pss_cut (ps_if (pt_val (pe_cal C__law_good (hr.mono (by decide)) pass0 (pa_cons (pv 2) pa_nil)))
        (pss_one (ps_if (PW.pt (pw_or (pt_not (pt_val (pe_callB call_isi (by rfl) T.n_isinstance (by decide +kernel) (pa_cons (pv 3) (pa_cons (pe_bltn (v := .ty "tuple") (u := .type "tuple") (by rfl) T.n_tuple (by decide +kernel) rfl) pa_nil))))) (pw_or (pt_cmpR (op_neD hr.units) (pv 3) (pe_callTy call_tupOf (by rfl) T.n_tuple (by decide +kernel) (pa_cons (pv 2) pa_nil)) (nomark _)) (pw_or1 (pt_cmpR (op_neD hr.units) (pe_cal C__law_widths_told (hr.mono (by decide)) pass0 (pa_cons (pe_callTy call_tupOf (by rfl) T.n_tuple (by decide +kernel) (pa_cons (pv 2) pa_nil)) pa_nil)) (pv 3) (nomark _))))))
          (pss_one (ps_ret pe_bl))
          pss_nil))
        (pss_one (ps_if (pt_cmpR op_notN (pv 3) pe_non (nomark _))
          (pss_one (ps_ret pe_bl))
          pss_nil)))
      (pss_cons (ps_set (i := 4) sc_law.nd rfl (Or.inl rfl) (pe_callTy call_list_of (by rfl) T.n_list (by decide +kernel) (pa_cons (pv 2) pa_nil)))
      (pss_cons (ps_asg (pe_ix ix_list (pe_lst (pa_cons pe_int (pa_cons pe_int (pa_cons (pe_un un_neg pe_int) (pa_cons pe_bl (pa_cons pe_non (pa_cons pe_str (pa_cons (pe_tup (pa_cons pe_int pa_nil)) (pa_cons (pe_op op_add pe_int (pe_cal C__law_draw (hr.mono (by decide)) pass0 (pa_cons (pv 1) (pa_cons (pe_op op_pow pe_int pe_int) pa_nil)))) pa_nil))))))))) (pe_cal C__law_draw (hr.mono (by decide)) pass0 (pa_cons (pv 1) (pa_cons pe_int pa_nil))) (fun _ _ => rfl)) (pg_sub (pv 4) (pe_cal C__law_draw (hr.mono (by decide)) pass0 (pa_cons (pv 1) (pa_cons (pe_callB call_len_seq (by rfl) T.n_len (by decide +kernel) (pa_cons (pv 4) pa_nil)) pa_nil))) set_list))
      (C8.pss_cut (ps_for PassesOwn.never rfl (pi_list (pe_lst (pa_cons (pv 4) (pa_cons (pe_lst pa_nil) (pa_cons (pe_tup (pa_cons pe_int (pa_cons pe_int (pa_cons pe_int (pa_cons pe_int pa_nil))))) (pa_cons pe_non (pa_cons pe_int (pa_cons pe_str (pa_cons (pe_lst (pa_cons pe_int (pa_cons pe_int pa_nil))) (pa_cons (pe_lst (pa_cons pe_int (pa_cons pe_int (pa_cons pe_int pa_nil)))) (pa_cons (pe_op op_cat (pv 2) (pe_lst (pa_cons pe_int pa_nil))) pa_nil))))))))))) (pg_name (i := 5) sc_law.nd rfl (Or.inl rfl))
        (pss_cons (ps_set (i := 6) sc_law.nd rfl (Or.inl rfl) (pe_cal C__law_widths_told (hr.mono (by decide)) pass0 (pa_cons (pv 5) pa_nil)))
        (pss_one (ps_if (pt_cmpR op_ne (pe_cmpR op_notN (pv 6) pe_non (nomark _)) (pe_cal C__law_good (hr.mono (by decide)) pass0 (pa_cons (pv 5) pa_nil)) (nomark _))
          (pss_one (ps_ret pe_bl))
          pss_nil))))
      (C8.pss_cut (ps_if (pt_not (pt_val (pe_cal C__law_good (hr.mono (by decide)) pass0 (pa_cons (pv 2) pa_nil))))
        (pss_one (ps_set (i := 2) sc_law.nd rfl (Or.inr rfl) (pe_lst (pa_cons pe_int (pa_cons (pe_op op_add pe_int (pe_cal C__law_draw (hr.mono (by decide)) pass0 (pa_cons (pv 1) (pa_cons pe_int pa_nil)))) pa_nil)))))
        pss_nil)
      (pss_cons (ps_set (i := 7) sc_law.nd rfl (Or.inl rfl) pe_int)
      (pss_cons (ps_for PassesOwn.never rfl (pi_list (pv 2)) (pg_name (i := 8) sc_law.nd rfl (Or.inl rfl))
        (pss_one (ps_set (i := 7) sc_law.nd rfl (Or.inl rfl) (pe_op op_mul (pv 7) (pv 8)))))
      (pss_cons (ps_if (PW.pt (pw_or (pt_cmpR op_ne (pe_cal C_row_count (hr.mono (by decide)) pass0 (pa_cons (pv 2) pa_nil)) (pv 7) (nomark _)) (pw_or (pt_cmpR op_ne (pe_cal C_row_count (hr.mono (by decide)) pass0 (pa_cons (pe_callTy call_tupOf (by rfl) T.n_tuple (by decide +kernel) (pa_cons (pv 2) pa_nil)) pa_nil)) (pv 7) (nomark _)) (pw_or1 (pt_cmpR op_ne (pe_cal C_row_count (hr.mono (by decide)) pass0 (pa_cons (pe_lst pa_nil) pa_nil)) pe_int (nomark _))))))
        (pss_one (ps_ret pe_bl))
        pss_nil)
      (C8.pss_cut (ps_set (i := 10) sc_law.nd rfl (Or.inl rfl) (pe_ifExp (pt_cmpR op_le (pv 7) pe_int (nomark _)) (pe_cal C__law_all (hr.mono (by decide)) pass0 (pa_cons (pv 2) pa_nil)) (pe_lc (own := [("k", 9)]) (g := gName 9) (tt := tYes) (by rfl) sc_law.nd (pi_range1 (by rfl) T.n_range (pa_cons pe_int pa_nil)) (blkOk_by (N := ["script", "bag", "widths", "good", "bad", "odd", "made", "many", "width", "k", "rows", "row", "number", "ahead", "wide", "every", "spot", "at", "wrong"]) (sc := defScope s_law) (by decide +kernel)) (fun _ _ _ _ _ => (pg_name (i := 9) sc_law.nd rfl (Or.inl rfl))) (fun _ _ _ _ _ => pts_nil) (fun _ _ _ _ _ => (pe_callTy call_tupOfB (by rfl) T.n_tuple (by decide +kernel) (pa_cons (pe_lc (own := [("width", 8)]) (g := gName 8) (tt := tYes) (by rfl) sc_law.nd (pi_listB (pv 2)) (blkOk_by (by rfl)) (fun _ _ _ _ _ => (pg_name (i := 8) sc_law.nd rfl (Or.inl rfl))) (fun _ _ _ _ _ => pts_nil) (fun _ _ _ _ _ => (pe_cal C__law_draw (hr.mono (by decide)) pass0 (pa_cons (pv 1) (pa_cons (pv 8) pa_nil))))) pa_nil))))))
      (C8.pss_cut (ps_if (PW.pt (pw_and (pt_cmpR op_le (pv 7) pe_int (nomark _)) (pw_and1 (pt_cmpR (op_neD hr.units) (pe_lc (own := [("row", 11)]) (g := gName 11) (tt := tYes) (by rfl) sc_law.nd (pi_list (pv 10)) (blkOk_by (N := ["script", "bag", "widths", "good", "bad", "odd", "made", "many", "width", "k", "rows", "row", "number", "ahead", "wide", "every", "spot", "at", "wrong"]) (sc := defScope s_law) (by decide +kernel)) (fun _ _ _ _ _ => (pg_name (i := 11) sc_law.nd rfl (Or.inl rfl))) (fun _ _ _ _ _ => pts_nil) (fun _ _ _ _ _ => (pe_cal C_row_number (hr.mono (by decide)) pass0 (pa_cons (pv 2) (pa_cons (pv 11) pa_nil))))) (pe_listRg rfl (by rfl) T.n_list (prg_1 (by rfl) T.n_range (pv 7))) (nomark _)))))
        (pss_one (ps_ret pe_bl))
        pss_nil)
      (C8.pss_cut (ps_for PassesOwn.never rfl (pi_list (pe_op op_cat (pv 10) (pe_lst (pa_cons (pe_callTy call_tupOf (by rfl) T.n_tuple (by decide +kernel) (pa_cons (pe_lc (own := [("width", 8)]) (g := gName 8) (tt := tYes) (by rfl) sc_law.nd (pi_list (pv 2)) (blkOk_by (N := ["script", "bag", "widths", "good", "bad", "odd", "made", "many", "width", "k", "rows", "row", "number", "ahead", "wide", "every", "spot", "at", "wrong"]) (sc := defScope s_law) (by decide +kernel)) (fun _ _ _ _ _ => (pg_name (i := 8) sc_law.nd rfl (Or.inl rfl))) (fun _ _ _ _ _ => pts_nil) (fun _ _ _ _ _ => pe_int)) pa_nil)) (pa_cons (pe_callTy call_tupOf (by rfl) T.n_tuple (by decide +kernel) (pa_cons (pe_lc (own := [("width", 8)]) (g := gName 8) (tt := tYes) (by rfl) sc_law.nd (pi_list (pv 2)) (blkOk_by (N := ["script", "bag", "widths", "good", "bad", "odd", "made", "many", "width", "k", "rows", "row", "number", "ahead", "wide", "every", "spot", "at", "wrong"]) (sc := defScope s_law) (by decide +kernel)) (fun _ _ _ _ _ => (pg_name (i := 8) sc_law.nd rfl (Or.inl rfl))) (fun _ _ _ _ _ => pts_nil) (fun _ _ _ _ _ => (pe_op op_sub (pv 8) pe_int))) pa_nil)) pa_nil))))) (pg_name (i := 11) sc_law.nd rfl (Or.inl rfl))
        (pss_cons (ps_set (i := 12) sc_law.nd rfl (Or.inl rfl) (pe_cal C_row_number (hr.mono (by decide)) pass0 (pa_cons (pe_callTy call_tupOf (by rfl) T.n_tuple (by decide +kernel) (pa_cons (pv 2) pa_nil)) (pa_cons (pv 11) pa_nil))))
        (pss_cons (ps_set (i := 13) sc_law.nd rfl (Or.inl rfl) pe_int)
        (pss_cons (ps_for PassesOwn.never rfl (pi_range1 (by rfl) T.n_range (pa_cons (pe_callB call_len_seq (by rfl) T.n_len (by decide +kernel) (pa_cons (pv 2) pa_nil)) pa_nil)) (pg_name (i := 9) sc_law.nd rfl (Or.inl rfl))
          (pss_one (ps_set (i := 13) sc_law.nd rfl (Or.inl rfl) (pe_op op_add (pe_op op_mul (pv 13) (pe_ix ix_list (pv 2) (pv 9) (fun _ _ => rfl))) (pe_ix ix_tup (pv 11) (pv 9) (fun _ _ => rfl))))))
        (pss_one (ps_if (PW.pt (pw_or (pt_cmpR op_ne (pv 12) (pv 13) (nomark _)) (pw_or (pt_cmpR (op_neD hr.units) (pe_cal C_row_at (hr.mono (by decide)) pass0 (pa_cons (pv 2) (pa_cons (pv 12) pa_nil))) (pv 11) (nomark _)) (pw_or1 (pt_not (pt_val (pe_callB call_isi (by rfl) T.n_isinstance (by decide +kernel) (pa_cons (pe_cal C_row_at (hr.mono (by decide)) pass0 (pa_cons (pv 2) (pa_cons (pv 12) pa_nil))) (pa_cons (pe_bltn (v := .ty "tuple") (u := .type "tuple") (by rfl) T.n_tuple (by decide +kernel) rfl) pa_nil)))))))))
          (pss_one (ps_ret pe_bl))
          pss_nil))))))
      (pss_cons (ps_set (i := 14) sc_law.nd rfl (Or.inr rfl) (pe_lc (own := [("k", 9)]) (g := gName 9) (tt := tYes) (by rfl) sc_law.nd (pi_range1 (by rfl) T.n_range (pa_cons (pe_op op_add pe_int (pe_cal C__law_draw (hr.mono (by decide)) pass0 (pa_cons (pv 1) (pa_cons pe_int pa_nil)))) pa_nil)) (blkOk_by (N := ["script", "bag", "widths", "good", "bad", "odd", "made", "many", "width", "k", "rows", "row", "number", "ahead", "wide", "every", "spot", "at", "wrong"]) (sc := defScope s_law) (by decide +kernel)) (fun _ _ _ _ _ => (pg_name (i := 9) sc_law.nd rfl (Or.inl rfl))) (fun _ _ _ _ _ => pts_nil) (fun _ _ _ _ _ => (pe_op op_add pe_int (pe_cal C__law_draw (hr.mono (by decide)) pass0 (pa_cons (pv 1) (pa_cons pe_int pa_nil)))))))
      (pss_cons (ps_set (i := 15) sc_law.nd rfl (Or.inl rfl) (pe_cal C__law_all (hr.mono (by decide)) pass0 (pa_cons (pv 14) pa_nil)))
      (C8.pss_cut (ps_if (PW.pt (pw_or (pt_cmpR (op_neD hr.units) (pe_lc (own := [("spot", 16)]) (g := gName 16) (tt := tYes) (by rfl) sc_law.nd (pi_list (pv 15)) (blkOk_by (N := ["script", "bag", "widths", "good", "bad", "odd", "made", "many", "width", "k", "rows", "row", "number", "ahead", "wide", "every", "spot", "at", "wrong"]) (sc := defScope s_law) (by decide +kernel)) (fun _ _ _ _ _ => (pg_name (i := 16) sc_law.nd rfl (Or.inl rfl))) (fun _ _ _ _ _ => pts_nil) (fun _ _ _ _ _ => (pe_cal C_row_number (hr.mono (by decide)) pass0 (pa_cons (pv 14) (pa_cons (pv 16) pa_nil))))) (pe_listRg rfl (by rfl) T.n_list (prg_1 (by rfl) T.n_range (pe_callB call_len_seq (by rfl) T.n_len (by decide +kernel) (pa_cons (pv 15) pa_nil)))) (nomark _)) (pw_or1 (pt_cmpR (op_neD hr.units) (pe_lc (own := [("k", 9)]) (g := gName 9) (tt := tYes) (by rfl) sc_law.nd (pi_range1 (by rfl) T.n_range (pa_cons (pe_callB call_len_seq (by rfl) T.n_len (by decide +kernel) (pa_cons (pv 15) pa_nil)) pa_nil)) (blkOk_by (N := ["script", "bag", "widths", "good", "bad", "odd", "made", "many", "width", "k", "rows", "row", "number", "ahead", "wide", "every", "spot", "at", "wrong"]) (sc := defScope s_law) (by decide +kernel)) (fun _ _ _ _ _ => (pg_name (i := 9) sc_law.nd rfl (Or.inl rfl))) (fun _ _ _ _ _ => pts_nil) (fun _ _ _ _ _ => (pe_cal C_row_at (hr.mono (by decide)) pass0 (pa_cons (pv 14) (pa_cons (pv 9) pa_nil))))) (pv 15) (nomark _)))))
        (pss_one (ps_ret pe_bl))
        pss_nil)
      (pss_cons (ps_if (PW.pt (pw_or (pt_cmpR op_ne (pe_cal C_row_count (hr.mono (by decide)) pass0 (pa_cons (pv 14) pa_nil)) (pe_callB call_len_seq (by rfl) T.n_len (by decide +kernel) (pa_cons (pv 15) pa_nil)) (nomark _)) (pw_or (pt_cmpR op_ne (pe_cal C_row_number (hr.mono (by decide)) pass0 (pa_cons (pe_lst pa_nil) (pa_cons (pe_tup pa_nil) pa_nil))) pe_int (nomark _)) (pw_or1 (pt_cmpR (op_neD hr.units) (pe_cal C_row_at (hr.mono (by decide)) pass0 (pa_cons (pe_lst pa_nil) (pa_cons pe_int pa_nil))) (pe_tup pa_nil) (nomark _))))))
        (pss_one (ps_ret pe_bl))
        pss_nil)
      (pss_cons (ps_set (i := 11) sc_law.nd rfl (Or.inl rfl) (pe_callTy call_list_of (by rfl) T.n_list (by decide +kernel) (pa_cons (pe_ix ix_list (pv 10) (pe_cal C__law_draw (hr.mono (by decide)) pass0 (pa_cons (pv 1) (pa_cons (pe_callB call_len_seq (by rfl) T.n_len (by decide +kernel) (pa_cons (pv 10) pa_nil)) pa_nil))) (fun _ _ => rfl)) pa_nil)))
      (pss_cons (ps_if (PW.pt (pw_or (pt_not (pt_val (pe_calG C__law_row_right gd (hr.mono (by decide)) pass0 (pa_cons (pv 2) (pa_cons (pv 11) (pa_cons pe_bl pa_nil)))))) (pw_or1 (pt_not (pt_val (pe_calG C__law_row_right gd (hr.mono (by decide)) pass0 (pa_cons (pe_callTy call_tupOf (by rfl) T.n_tuple (by decide +kernel) (pa_cons (pv 2) pa_nil)) (pa_cons (pe_callTy call_tupOf (by rfl) T.n_tuple (by decide +kernel) (pa_cons (pv 11) pa_nil)) (pa_cons pe_bl pa_nil)))))))))
        (pss_one (ps_ret pe_bl))
        pss_nil)
      (pss_cons (ps_set (i := 17) sc_law.nd rfl (Or.inl rfl) (pe_cal C__law_draw (hr.mono (by decide)) pass0 (pa_cons (pv 1) (pa_cons (pe_callB call_len_seq (by rfl) T.n_len (by decide +kernel) (pa_cons (pv 11) pa_nil)) pa_nil))))
      (pss_cons (ps_set (i := 18) sc_law.nd rfl (Or.inl rfl) (pe_callTy call_list_of (by rfl) T.n_list (by decide +kernel) (pa_cons (pv 11) pa_nil)))
      (pss_cons (ps_asg (pe_ix ix_list (pe_lst (pa_cons (pe_ix ix_list (pv 2) (pv 17) (fun _ _ => rfl)) (pa_cons (pe_un un_neg pe_int) (pa_cons pe_bl (pa_cons pe_non (pa_cons pe_str (pa_cons (pe_tup (pa_cons pe_int pa_nil)) (pa_cons (pe_op op_add (pe_ix ix_list (pv 2) (pv 17) (fun _ _ => rfl)) (pe_cal C__law_draw (hr.mono (by decide)) pass0 (pa_cons (pv 1) (pa_cons (pe_op op_pow pe_int pe_int) pa_nil)))) pa_nil)))))))) (pe_cal C__law_draw (hr.mono (by decide)) pass0 (pa_cons (pv 1) (pa_cons pe_int pa_nil))) (fun _ _ => rfl)) (pg_sub (pv 18) (pv 17) set_list))
      (pss_cons (ps_for PassesOwn.never rfl (pi_list (pe_lst (pa_cons (pv 18) (pa_cons (pe_slice sl_list (pv 11) po_none (po_some (pe_un un_neg pe_int))) (pa_cons (pe_op op_cat (pv 11) (pe_lst (pa_cons pe_int pa_nil))) (pa_cons (pe_tup pa_nil) (pa_cons pe_non (pa_cons pe_int (pa_cons pe_str (pa_cons (pe_callTy call_tupOf (by rfl) T.n_tuple (by decide +kernel) (pa_cons (pv 18) pa_nil)) pa_nil)))))))))) (pg_name (i := 5) sc_law.nd rfl (Or.inl rfl))
        (pss_one (ps_if (pt_not (pt_val (pe_calG C__law_row_right gd (hr.mono (by decide)) pass0 (pa_cons (pv 2) (pa_cons (pv 5) (pa_cons pe_bl pa_nil))))))
          (pss_one (ps_ret pe_bl))
          pss_nil)))
      (pss_one (ps_ret (pe_and (pe_cal C__law_words_right (hr.mono (by decide)) pass0 (pa_cons (pv 1) pa_nil)) (pe_one (pe_cal C__law_far_right (hr.mono (by decide)) pass0 (pa_cons (pv 1) pa_nil)))))))))))))))))))))))))))))), ?_⟩
    refine ⟨_, rfl, a, ns, rfl, hS, fun b c H1 nb nc s1 B => ?_⟩
    refine ⟨_, rfl, b, c, 0, rfl, B, by decide, fun l ws H2 kb2 B2 lb nl hl len1 len3 hw => ?_⟩
    have ktt : PySem.W.kitOne K (.type "tuple") (.type "tuple") = some true := kit_ty (by decide +kernel)
    have n40 : (10 : Nat) ^ 40 = 10000000000000000000000000000000000000000 := by decide +kernel
    have so := seqOf_lst hl
    -- good
    refine ⟨fun σ' H' => BagAt H' b c 5 ∧ H' l = some (.lst (ws.map V.int)) ∧ ∃ g, Sg a b l g σ' ∧
      ((widthsOk (some (ws.map V.int)) = false ∧ g = .non) ∨ (widthsOk (some (ws.map V.int)) = true ∧ ∃ t, g = .ref t ∧ SqT K H' t (ws.map V.int))), ?_, ?_⟩
    · refine ⟨_, rfl, .ref l, _, rfl, .lst hl, Itm.ints so, fun e H3 s3 => ?_, fun e t xs H3 hx qt s3 => ?_⟩
      · exact ⟨B2.same s3, s3 _ _ hl, .non, ⟨_, _, _, _, _, _, _, _, _, _, _, _, _, _, _, rfl⟩, .inl ⟨by rw [so] at e; exact e, rfl⟩⟩
      · rw [so] at hx e
        cases hx
        exact ⟨B2.same s3, s3 _ _ hl, .ref t, ⟨_, _, _, _, _, _, _, _, _, _, _, _, _, _, _, rfl⟩, .inr ⟨e, t, rfl, qt⟩⟩
    clear so hl B2 nl kb2
    rintro σ H3 ⟨B3, hl, g, ⟨o4, o5, o6, o7, o8, o9, o10, o11, o12, o13, o14, o15, o16, o17, o18, rfl⟩, hg⟩
    have so := seqOf_lst hl
    -- if _law_good(widths)
    refine ⟨fun σ' H' => BagAt H' b c 5 ∧ H' l = some (.lst (ws.map V.int)) ∧ Sl a b l σ', ?_, ?_⟩
    · refine ⟨_, rfl, _, _, rfl, .lst hl, Itm.ints so, fun H4 s4 => ⟨_, rfl, ?_⟩⟩
      rw [so]
      rcases hg with ⟨e, rfl⟩ | ⟨e, t, rfl, qt⟩
      · rw [e]
        exact iteF ⟨_, rfl, rfl, _, rfl, iteF ⟨B3.same s4, s4 _ _ hl, _, _, _, _, _, _, _, _, _, _, _, _, _, _, _, _, rfl⟩⟩
      · rw [e]
        have qt4 := sqT_same s4 qt
        have hl4 := s4 _ _ hl
        refine iteT ⟨_, rfl, _, _, _, _, _, rfl, .ty _, ty_sqT qt4, ktt, _, rfl, iteF ?_⟩
        refine ⟨_, rfl, _, rfl, tupL_of (SqL.of hl4) fun t2 nt2 => ?_⟩
        have s5 := same_new (o := HO.tup (ws.map V.int)) nt2
        refine ⟨_, _, dp_ints (sqT_same s5 qt4), dp_ints (SqT.of upd_same), shaped_ints _, shaped_ints _, _, rfl, ?_⟩
        rw [eqv_ints, decide_eq_true rfl]
        refine iteF ⟨_, rfl, tupL_of (SqL.of (s5 _ _ hl4)) fun t3 nt3 => ?_⟩
        have s6 := s5.trans (same_new (o := HO.tup (ws.map V.int)) nt3)
        refine ⟨.ref t3, _, rfl, .tup upd_same, Itm.ints (seqOf_tup upd_same), fun e2 => ?_, fun e2 t4 xs H5 hx qt5 s7 => ?_⟩
        · rw [seqOf_tup upd_same, e] at e2
          cases e2
        · rw [seqOf_tup upd_same] at hx
          cases hx
          refine ⟨_, rfl, _, _, dp_ints qt5, dp_ints (sqT_same s7 (sqT_same s6 qt4)), shaped_ints _, shaped_ints _, _, rfl, ?_⟩
          rw [eqv_ints, decide_eq_true rfl]
          have sm := s4.trans (s6.trans s7)
          exact iteF ⟨B3.same sm, sm _ _ hl, _, _, _, _, _, _, _, _, _, _, _, _, _, _, _, _, rfl⟩
    clear hg so hl B3
    rintro σ H4 ⟨B4, hl, o3, o4, o5, o6, o7, o8, o9, o10, o11, o12, o13, o14, o15, o16, o17, o18, rfl⟩
    -- bad
    refine ⟨_, rfl, l, _, rfl, .inl (SqL.of hl), fun bd nbd => ?_⟩
    have sb := same_new (o := HO.lst (ws.map V.int)) nbd
    have B5 := B4.same sb
    have bdb := (B4.new nbd).1
    have bdc := (B4.new nbd).2
    have bdl : l ≠ bd := ne_of_none hl nbd
    refine ⟨_, rfl, by show 1 ≤ sizeLine; decide, fun t nt => ?_⟩
    have st := same_new (o := HO.tup [V.int 2]) nt
    have B6 := B5.same st
    have htb := (B5.new nt).1
    refine ⟨_, rfl, _, _, rfl, rfl, ⟨by decide, by decide, by decide⟩, b, c, _, _, rfl, B6, by decide +kernel, by decide +kernel, by decide, fun r1 H5 a1 b1 o5 B7 => ?_⟩
    refine ⟨_, _, rfl, rfl, by show 8 ≤ sizeLine; decide, fun q nq => ?_⟩
    refine ⟨_, rfl, b, c, 8, _, rfl, B7.updNew nq, by decide, by decide, by decide, fun r2 H6 a2 b2 o6 B8 => ?_⟩
    have ht5 : H5 t = some (.tup [.int 2]) := o5.at htb upd_same
    have ht6 : H6 t = some (.tup [.int 2]) := o6.at htb (same_new nq _ _ ht5)
    have qb := (B7.new nq).1
    obtain ⟨v, hat, hv⟩ := bad_item ht6 a1 b1 a2 b2
    refine ⟨q, _, r2, v, rfl, rfl, SqL.of (o6.at qb upd_same), hat, ?_⟩
    have hbd6 : H6 bd = some (.lst (ws.map V.int)) := o6.at bdb (same_new nq _ _ (o5.at bdb (st _ _ upd_same)))
    have hl6 : H6 l = some (.lst (ws.map V.int)) := o6.at lb (same_new nq _ _ (o5.at lb (st _ _ (sb _ _ hl))))
    refine ⟨_, rfl, _, rfl, _, rfl, bd, _, rfl, .inl (SqL.of hbd6), b, c, _, _, rfl, B8, by rw [List.length_map]; omega, ?_, by decide, fun r3 H7 a3 b3 o7 B9 => ?_⟩
    · rw [List.length_map]
      exact Int.lt_of_le_of_lt (show ((ws.length : Nat) : Int) ≤ 3 by omega) (by decide)
    obtain ⟨j, rfl⟩ : ∃ j : Nat, r3 = (j : Int) := ⟨r3.toNat, by omega⟩
    have hbd7 := o7.at bdb hbd6
    have hl7 := o7.at lb hl6
    have ht7 := o7.at htb ht6
    refine ⟨bd, _, (j : Int), j, rfl, rfl, hbd7, ix_nat (by rw [List.length_map] at b3 ⊢; omega), ?_⟩
    have td : t ≠ bd := fun z => by
      rw [z, hbd7] at ht7
      cases ht7
    have hv7 : Odd H7 v := hv.keep fun x xs e => by
      by_cases hx : x = b
      · rw [hx] at e
        obtain ⟨ns', p', r', k', m', h', _⟩ := B8
        rw [h'] at e
        cases e
      · exact o7.at hx e
    have B10 : BagAt (upd H7 bd (.lst ((ws.map V.int).set j v))) b c 10 := (B9.upd bdb bdc).mono (by decide)
    have hl8 : (upd H7 bd (.lst ((ws.map V.int).set j v))) l = some (.lst (ws.map V.int)) := by rw [upd_ne bdl]; exact hl7
    have w40 : ∀ w ∈ ws, w.natAbs < 10 ^ 40 := fun w m => by have := hw w m; omega
    have abd : Arg (upd H7 bd (.lst ((ws.map V.int).set j v))) (.ref bd) := .lst upd_same (odds_set (odds_ints w40) (hv7.keep fun x xs e => by
      by_cases hx : x = bd
      · rw [hx, hbd7] at e
        cases e
      · rw [upd_ne hx]
        exact e) j) (by rw [List.length_set, List.length_map]; omega)
    generalize upd H7 bd (.lst ((ws.map V.int).set j v)) = H8 at B10 hl8 abd ⊢
    clear hv7 hv ht7 hbd7 hl7 B9 o7 hbd6 hl6 ht6 ht5 B8 o6 B7 o5 B6 st B5 sb B4 hl
    -- the wrong widths, one by one
    refine ⟨fun σ' H' => BagAt H' b c 10 ∧ H' l = some (.lst (ws.map V.int)) ∧ Sl a b l σ', ?_, ?_⟩
    · refine ⟨_, rfl, Nat.zero_le _, fun e0 ne0 => ⟨by show 4 ≤ sizeLine; decide, fun t4 nt4 => ⟨by show 2 ≤ sizeLine; decide, fun p2 np2 => ⟨by show 3 ≤ sizeLine; decide, fun p3 np3 => ?_⟩⟩⟩⟩
      have q1 := same_new (o := HO.lst []) ne0
      have q2 := same_new (o := HO.tup [V.int 2, V.int 2, V.int 2, V.int 2]) nt4
      have q3 := same_new (o := HO.lst [V.int 64, V.int 65]) np2
      have q4 := same_new (o := HO.lst [V.int 17, V.int 16, V.int 16]) np3
      have g1 := upd_same (H := H8) (a := e0) (o := HO.lst [])
      have g2 := upd_same (H := upd H8 e0 (HO.lst [])) (a := t4) (o := HO.tup [V.int 2, V.int 2, V.int 2, V.int 2])
      have g3 := upd_same (H := upd (upd H8 e0 (HO.lst [])) t4 (HO.tup [V.int 2, V.int 2, V.int 2, V.int 2])) (a := p2) (o := HO.lst [V.int 64, V.int 65])
      have g4 := upd_same (H := upd (upd (upd H8 e0 (HO.lst [])) t4 (HO.tup [V.int 2, V.int 2, V.int 2, V.int 2])) p2 (HO.lst [V.int 64, V.int 65])) (a := p3) (o := HO.lst [V.int 17, V.int 16, V.int 16])
      have qq := q1.trans (q2.trans (q3.trans q4))
      refine ⟨_, rfl, by show 1 ≤ sizeLine; decide, fun o1 no1 => ?_⟩
      have q5 := same_new (o := HO.lst [V.int 1]) no1
      refine ⟨l, o1, ws.map V.int, _, rfl, rfl, q5 _ _ (qq _ _ hl8), upd_same, ?_, fun pw npw => ?_⟩
      · rw [List.length_map]
        exact Nat.le_trans (show ws.length + 1 ≤ 4 by omega) (by decide)
      have q6 := same_new (o := HO.lst (ws.map V.int ++ [V.int 1])) npw
      refine ⟨by show 9 ≤ sizeLine; decide, fun L nL => ?_⟩
      have q7 := same_new (o := HO.lst [V.ref bd, V.ref e0, V.ref t4, V.non, V.int 7, V.str "ab", V.ref p2, V.ref p3, V.ref pw]) nL
      have q57 := q5.trans (q6.trans q7)
      have qa := qq.trans q57
      have sm40 : ∀ ns : List Int, (∀ n ∈ ns, n.natAbs ≤ 100) → ∀ n ∈ ns, n.natAbs < 10 ^ 40 := fun ns h n m => by have := h n m; omega
      have args : ∀ x ∈ [V.ref bd, V.ref e0, V.ref t4, V.non, V.int 7, V.str "ab", V.ref p2, V.ref p3, V.ref pw], Arg (upd (upd (upd (upd (upd (upd (upd H8 e0 (HO.lst [])) t4 (HO.tup [V.int 2, V.int 2, V.int 2, V.int 2])) p2 (HO.lst [V.int 64, V.int 65])) p3 (HO.lst [V.int 17, V.int 16, V.int 16])) o1 (HO.lst [V.int 1])) pw (HO.lst (ws.map V.int ++ [V.int 1]))) L (HO.lst [V.ref bd, V.ref e0, V.ref t4, V.non, V.int 7, V.str "ab", V.ref p2, V.ref p3, V.ref pw])) x := by
        intro x m
        simp only [List.mem_cons, List.not_mem_nil, or_false] at m
        rcases m with rfl | rfl | rfl | rfl | rfl | rfl | rfl | rfl | rfl
        · exact abd.same qa
        · exact .lst ((q2.trans (q3.trans (q4.trans q57))) _ _ g1) (fun x m => by cases m) (by decide)
        · exact .tup ((q3.trans (q4.trans q57)) _ _ g2) (odds_ints (ws := [2, 2, 2, 2]) (sm40 _ (by decide))) (by decide)
        · exact .one .non
        · exact .one (.int 7 (by omega))
        · exact .one (.str _ (by decide +kernel))
        · exact .lst ((q4.trans q57) _ _ g3) (odds_ints (ws := [64, 65]) (sm40 _ (by decide))) (by decide)
        · exact .lst (q57 _ _ g4) (odds_ints (ws := [17, 16, 16]) (sm40 _ (by decide))) (by decide)
        · refine .lst (xs := ws.map V.int ++ [V.int 1]) (q7 _ _ upd_same) (fun x m => ?_) (by rw [List.length_append, List.length_map]; show ws.length + 1 ≤ 100; omega)
          rcases List.mem_append.mp m with m | m
          · exact odds_ints w40 x m
          · obtain rfl := List.mem_singleton.mp m
            exact .int 1 (by omega)
      have BL := B10.same qa
      have hlL := qa _ _ hl8
      have hLL : (upd (upd (upd (upd (upd (upd (upd H8 e0 (HO.lst [])) t4 (HO.tup [V.int 2, V.int 2, V.int 2, V.int 2])) p2 (HO.lst [V.int 64, V.int 65])) p3 (HO.lst [V.int 17, V.int 16, V.int 16])) o1 (HO.lst [V.int 1])) pw (HO.lst (ws.map V.int ++ [V.int 1]))) L (HO.lst [V.ref bd, V.ref e0, V.ref t4, V.non, V.int 7, V.str "ab", V.ref p2, V.ref p3, V.ref pw])) L = some (HO.lst [V.ref bd, V.ref e0, V.ref t4, V.non, V.int 7, V.str "ab", V.ref p2, V.ref p3, V.ref pw]) := upd_same
      clear g1 g2 g3 g4 q1 q2 q3 q4 q5 q6 q7 qq q57 qa
      generalize (upd (upd (upd (upd (upd (upd (upd H8 e0 (HO.lst [])) t4 (HO.tup [V.int 2, V.int 2, V.int 2, V.int 2])) p2 (HO.lst [V.int 64, V.int 65])) p3 (HO.lst [V.int 17, V.int 16, V.int 16])) o1 (HO.lst [V.int 1])) pw (HO.lst (ws.map V.int ++ [V.int 1]))) L (HO.lst [V.ref bd, V.ref e0, V.ref t4, V.non, V.int 7, V.str "ab", V.ref p2, V.ref p3, V.ref pw])) = HL at args BL hlL hLL ⊢
      refine ⟨L, rfl, ⟨_, SqL.of hLL⟩, for_list (K := K) (a := L) (xs := [V.ref bd, V.ref e0, V.ref t4, V.non, V.int 7, V.str "ab", V.ref p2, V.ref p3, V.ref pw]) (fun i σ H' => Same HL H' ∧ Sl a b l σ) ⟨Same.refl _, _, _, _, _, _, _, _, _, _, _, _, _, _, _, _, _, rfl⟩ (fun i σ H' _ h => SqL.of (h.1 _ _ hLL)) ?_ ?_⟩
      · rintro i x σ H' hx ⟨sm, o3, o4, o5, o6, o7, o8, o9, o10, o11, o12, o13, o14, o15, o16, o17, o18, rfl⟩
        have ar := (args x (List.mem_of_getElem? hx)).same sm
        obtain ⟨⟨U, kn⟩, it⟩ := ar.kn
        refine ⟨_, rfl, x, U, rfl, kn, it, fun e H9 s9 => ?_, fun e t' xs H9 hx' qt s9 => ?_⟩
        · refine ⟨_, rfl, rfl, _, rfl, x, U, rfl, kn.same s9, it.same kn s9, fun HA sA => ⟨rfl, _, rfl, ?_⟩⟩
          rw [kn.seqOf s9, e]
          exact iteF ⟨sm.trans (s9.trans sA), _, _, _, _, _, _, _, _, _, _, _, _, _, _, _, _, rfl⟩
        · refine ⟨_, rfl, rfl, _, rfl, x, U, rfl, kn.same s9, it.same kn s9, fun HA sA => ⟨rfl, _, rfl, ?_⟩⟩
          rw [kn.seqOf s9, e]
          exact iteF ⟨sm.trans (s9.trans sA), _, _, _, _, _, _, _, _, _, _, _, _, _, _, _, _, rfl⟩
      · rintro σ H' ⟨sm, o3, o4, o5, o6, o7, o8, o9, o10, o11, o12, o13, o14, o15, o16, o17, o18, rfl⟩
        exact ⟨BL.same sm, sm _ _ hlL, _, _, _, _, _, _, _, _, _, _, _, _, _, _, _, _, rfl⟩
    clear abd hl8 B10
    rintro σ H9 ⟨B9, hl, o3, o4, o5, o6, o7, o8, o9, o10, o11, o12, o13, o14, o15, o16, o17, o18, rfl⟩
    have so := seqOf_lst hl
    -- widths that are good
    refine ⟨fun σ' H' => ∃ (l' : Addr) (ws' : List Int), Sl a b l' σ' ∧ H' l' = some (.lst (ws'.map V.int)) ∧ Gd ws' ∧ BagAt H' b c 20 ∧ l' ≠ b, ?_, ?_⟩
    · refine ⟨_, rfl, _, _, rfl, .lst hl, Itm.ints so, fun HA sA => ⟨_, rfl, ?_⟩⟩
      rw [so]
      cases e : widthsOk (some (ws.map V.int)) with
      | true => exact iteF ⟨l, ws, ⟨_, _, _, _, _, _, _, _, _, _, _, _, _, _, _, _, rfl⟩, sA _ _ hl, gd_of e, (B9.same sA).mono (by decide), lb⟩
      | false =>
        refine iteT ⟨_, rfl, b, c, 40, _, rfl, B9.same sA, by decide, by decide, by decide, fun r HB a4 b4 o4 BB => ⟨_, _, rfl, rfl, by show 2 ≤ sizeLine; decide, fun l' nl' => ?_⟩⟩
        refine ⟨l', [3, 2 + r], ⟨_, _, _, _, _, _, _, _, _, _, _, _, _, _, _, _, rfl⟩, upd_same, gd_of ?_, (BB.updNew nl').mono (by decide), (BB.new nl').1⟩
        show ((true && true) && (((decide ((1 : Int) ≤ 3) && decide ((3 : Int) ≤ 64)) && ((decide (1 ≤ 2 + r) && decide (2 + r ≤ 64)) && true)) && decide (1 * 3 * (2 + r) ≤ 4096))) = true
        rw [decide_eq_true (show (1 : Int) ≤ 2 + r by omega), decide_eq_true (show 2 + r ≤ 64 by omega), decide_eq_true (show 1 * 3 * (2 + r) ≤ 4096 by omega)]
        rfl
    clear so hl B9 lb w40 hw len1 len3
    rintro σ HA ⟨l, ws, ⟨o3, o4, o5, o6, o7, o8, o9, o10, o11, o12, o13, o14, o15, o16, o17, o18, rfl⟩, hl, gd', BA, lb⟩
    have wpos : ∀ w ∈ ws, 0 < w := fun w m => by have := (gd'.bd w m).1; omega
    have bw : ∀ w ∈ ws, w.natAbs < 2 ^ 60 := fun w m => by have := gd'.bd w m; omega
    have l3 := gd'.l3
    -- many
    refine ⟨_, rfl, l, rfl, ⟨_, SqL.of hl⟩, for_list (K := K) (a := l) (xs := ws.map V.int) (fun i σ H' => H' = HA ∧ Sm a b l (prodR (ws.take i).reverse) σ) ⟨rfl, _, _, _, _, _, _, _, _, _, _, _, _, _, _, _, rfl⟩ (fun i σ H' _ h => SqL.of (by rw [h.1]; exact hl)) ?_ ?_⟩
    · rintro i x σ H' hx ⟨rfl, o3, o4, o5, o6, o8, o9, o10, o11, o12, o13, o14, o15, o16, o17, o18, rfl⟩
      obtain ⟨w, hw', rfl⟩ := getMap hx
      have := bw w (List.mem_of_getElem? hw')
      refine ⟨_, rfl, _, rfl, _, _, rfl, rfl, .inr ⟨by omega, by omega⟩, rfl, ?_⟩
      rw [take_rev hw']
      exact ⟨_, _, _, _, _, _, _, _, _, _, _, _, _, _, _, rfl⟩
    rintro σ H' ⟨rfl, o3, o4, o5, o6, o8, o9, o10, o11, o12, o13, o14, o15, o16, o17, o18, rfl⟩
    rw [List.length_map, List.take_length]
    -- row_count
    refine ⟨_, rfl, l, ws, rfl, .inl (SqL.of hl), bw, _, rfl, rfl, _, rfl, ?_⟩
    rw [decide_eq_true rfl]
    refine iteF ⟨_, rfl, tupL_of (SqL.of hl) fun t nt => ⟨t, ws, rfl, .inr (SqT.of upd_same), bw, _, rfl, rfl, _, rfl, ?_⟩⟩
    rw [decide_eq_true rfl]
    have st := same_new (o := HO.tup (ws.map V.int)) nt
    refine iteF ⟨Nat.zero_le _, fun e0 ne0 => ⟨e0, [], rfl, .inl (SqL.of upd_same), (fun _ m => by cases m), rfl, _, rfl, iteF ?_⟩⟩
    have se := st.trans (same_new (o := HO.lst []) ne0)
    have BB := BA.same se
    have hlB := se _ _ hl
    generalize upd (upd H' t (HO.tup (ws.map V.int))) e0 (HO.lst []) = HB at BB hlB ⊢
    clear st se BA hl
    have hl := hlB
    clear hlB
    have pp : 0 < prodR ws.reverse := prodR_pos fun w m => wpos w (List.mem_reverse.mp m)
    -- rows
    refine ⟨fun σ' H' => ∃ r, Sr a b l (prodR ws.reverse) r σ' ∧ H' l = some (.lst (ws.map V.int)) ∧ BagAt H' b c 100 ∧ RowsOk H' r ws ∧ r ≠ b, ?_, ?_⟩
    · refine ⟨_, rfl, _, _, rfl, rfl, _, rfl, ite2 (fun c3 => ?_) (fun c3 => ?_)⟩
      · have c3' := of_decide_eq_true c3
        refine ⟨_, rfl, l, ws, rfl, .inl (SqL.of hl), fun w m => by have := gd'.bd w m; omega, by omega, by omega, fun r HC sC nr rr => ?_⟩
        obtain ⟨ps, r1, r2, r3⟩ := rr
        have rb : r ≠ b := (BB.new nr).1
        refine ⟨r, ⟨_, _, _, _, _, _, _, _, _, _, _, _, _, _, rfl⟩, sC _ _ hl, (BB.same sC).mono (by decide), ⟨ps, r1, by omega, by omega, fun p m => ?_, fun _ => ⟨r2, r3⟩⟩, rb⟩
        obtain ⟨k, hk, e⟩ := List.getElem_of_mem m
        have hp : ps[k]? = some p := by rw [List.getElem?_eq_getElem hk, e]
        exact ⟨_, r3 k p hp, (row_in wpos (by omega)).1⟩
      · refine ⟨12, rfl, by decide, by decide, fun D nD => ?_⟩
        have Db := (BB.new nD).1
        have Dc := (BB.new nD).2
        refine lc_range (lo := 0) (n := 12) (fun i H' => Kb b HB H' ∧ BagAt H' b c (20 + 4 * i) ∧ ∃ ps : List Addr, H' D = some (.lst (ps.map V.ref)) ∧ ps.length = i ∧ ∀ p ∈ ps, ∃ rs : List Int, H' p = some (.tup (rs.map V.int)) ∧ InR ws rs) ⟨kb_new nD, (BB.updNew nD).mono (by decide), [], upd_same, rfl, (fun _ m => by cases m)⟩ ?_ ?_
        · rintro i HC hi ⟨kbC, BC, ps, hD, hpl, hps⟩
          have hlC := kbC _ _ lb hl
          refine ⟨rfl, _, rfl, l, rfl, ⟨_, SqL.of hlC⟩, fun E2 nE => ?_⟩
          have Eb := (BC.new nE).1
          have Ec := (BC.new nE).2
          have DE : D ≠ E2 := ne_of_none hD nE
          refine lc_list (K := K) (a := l) (xs := ws.map V.int) (fun j H' => Kb b HC H' ∧ BagAt H' b c (20 + 4 * i + j) ∧ ∃ rs : List Int, H' E2 = some (.lst (rs.map V.int)) ∧ rs.length = j ∧ ∀ (k : Nat) (w v : Int), ws[k]? = some w → rs[k]? = some v → 0 ≤ v ∧ v < w) ⟨kb_new nE, (BC.updNew nE).mono (by omega), [], upd_same, rfl, fun k w v _ h => by simp at h⟩ (fun j H' _ h => SqL.of (h.1 _ _ lb hlC)) ?_ ?_
          · rintro j x H9 hx ⟨kb9, B9, rs, hE, hrl, hrs⟩
            obtain ⟨w, hw', rfl⟩ := getMap hx
            obtain ⟨g1, g2⟩ := gd'.bd w (List.mem_of_getElem? hw')
            have hj : j < 3 := by
              have := (List.getElem?_eq_some_iff.mp hw').1
              omega
            refine ⟨rfl, ⟨_, rfl, _, rfl, b, c, w, _, rfl, B9, by omega, Int.lt_of_le_of_lt g2 (by decide), by omega, fun v H10 r0 r1 o10 B10 => ?_⟩⟩
            refine ⟨_, o10.at Eb hE, ?_, ?_, ?_, rs ++ [v], ?_, by rw [List.length_append, hrl]; rfl, ?_⟩
            · rw [List.length_map]
              exact small1000 (by omega)
            · intro x o ne e
              by_cases hx : x = E2
              · rw [hx, nE] at e
                cases e
              · rw [upd_ne hx]
                exact o10.at ne (kb9 x o ne e)
            · exact (B10.upd Eb Ec).mono (by omega)
            · rw [upd_same, List.map_append]
              rfl
            · intro k w' v' h1 h2
              rw [List.getElem?_append] at h2
              split at h2
              · exact hrs k w' v' h1 h2
              · rename_i hk
                rw [List.getElem?_singleton] at h2
                split at h2
                · rename_i h0
                  obtain rfl : k = j := by omega
                  cases h2
                  rw [hw'] at h1
                  cases h1
                  exact ⟨r0, r1⟩
                · cases h2
          · rintro H9 ⟨kb9, B9, rs, hE, hrl, hrs⟩
            rw [List.length_map] at hrl B9
            have inr : InR ws rs := InR.of_get hrl hrs
            refine tupL_of (SqL.of hE) fun t nt => ?_
            have st := same_new (o := HO.tup (rs.map V.int)) nt
            have hD9 := st _ _ (kb9 _ _ Db hD)
            have htt : (upd H9 t (HO.tup (rs.map V.int))) t = some (HO.tup (rs.map V.int)) := upd_same
            have tD : t ≠ D := (ne_of_none (kb9 _ _ Db hD) nt).symm
            refine ⟨_, hD9, ?_, ?_, ?_, ps ++ [t], ?_, by rw [List.length_append, hpl]; rfl, ?_⟩
            · rw [List.length_map]
              exact small1000 (by omega)
            · intro x o ne e
              by_cases hx : x = D
              · rw [hx, nD] at e
                cases e
              · rw [upd_ne hx]
                exact st _ _ (kb9 x o ne (kbC x o ne e))
            · exact ((B9.same st).upd Db Dc).mono (by omega)
            · rw [upd_same, List.map_append]
              rfl
            · intro p m
              rcases List.mem_append.mp m with m | m
              · obtain ⟨rs', h1, h2⟩ := hps p m
                have pb : p ≠ b := fun z => by
                  obtain ⟨ns', p', r', k', m', h', _⟩ := BC
                  rw [z, h'] at h1
                  cases h1
                have pD : p ≠ D := fun z => by rw [z, hD] at h1; cases h1
                exact ⟨rs', by rw [upd_ne pD]; exact st _ _ (kb9 _ _ pb h1), h2⟩
              · obtain rfl := List.mem_singleton.mp m
                exact ⟨rs, by rw [upd_ne tD]; exact htt, inr⟩
        · rintro HC ⟨kbC, BC, ps, hD, hpl, hps⟩
          refine ⟨D, ⟨_, _, _, _, _, _, _, _, _, _, _, _, _, _, rfl⟩, kbC _ _ lb hl, BC.mono (by decide), ⟨ps, hD, by omega, by omega, hps, fun z => ?_⟩, Db⟩
          exact absurd (decide_eq_true z) c3
    clear hl BB
    rintro σ HC ⟨r, ⟨o3, o4, o5, o6, o8, o9, o11, o12, o13, o14, o15, o16, o17, o18, rfl⟩, hl, BC, hR, rb⟩
    -- their numbers
    refine ⟨fun σ' H' => Sr a b l (prodR ws.reverse) r σ' ∧ H' l = some (.lst (ws.map V.int)) ∧ BagAt H' b c 100 ∧ RowsOk H' r ws, ?_, ?_⟩
    · refine ⟨_, rfl, _, _, rfl, rfl, _, rfl, ite2 (fun c3 => ?_) (fun c3 => ⟨⟨_, _, _, _, _, _, _, _, _, _, _, _, _, _, rfl⟩, hl, BC, hR⟩)⟩
      obtain ⟨ps, hr, n1, n4, hps, hall⟩ := id hR
      obtain ⟨e1, e2⟩ := hall (of_decide_eq_true c3)
      refine ⟨_, rfl, r, rfl, ⟨_, SqL.of hr⟩, fun D nD => ?_⟩
      refine lc_list (K := K) (a := r) (xs := ps.map V.ref) (fun i H' => Same HC H' ∧ H' D = some (.lst ((upI i).map V.int))) ⟨same_new nD, upd_same⟩ (fun i H' _ h => SqL.of (h.1 _ _ hr)) ?_ ?_
      · rintro i x H1 hx ⟨sm, hD⟩
        obtain ⟨p, hp, rfl⟩ : ∃ p, ps[i]? = some p ∧ x = V.ref p := by
          rw [List.getElem?_map] at hx
          cases e : ps[i]? with
          | none => rw [e] at hx; cases hx
          | some z => rw [e] at hx; exact ⟨z, rfl, (Option.some.inj hx).symm⟩
        have hi : i < ps.length := (List.getElem?_eq_some_iff.mp hp).1
        obtain ⟨ri, rn⟩ := row_in (k := i) wpos (by omega)
        refine ⟨rfl, _, rfl, _, rfl, l, p, ws, _, rfl, .inl (SqL.of (sm _ _ hl)), .inr (SqT.of (sm _ _ (e2 i p hp))), ri.len, bw, fun H2 s2 => ?_⟩
        rw [List.reverse_reverse, rn]
        refine ⟨_, s2 _ _ hD, ?_, fun x o e => ?_, ?_⟩
        · rw [List.length_map, upI_len]
          exact small1000 (by omega)
        · rw [upd_ne (ne_of_none e nD)]
          exact s2 _ _ (sm _ _ e)
        · rw [upd_same, upI_succ, List.map_append]
          rfl
      · rintro H1 ⟨sm, hD⟩
        rw [List.length_map] at hD
        refine ⟨_, rfl, prodR ws.reverse, rfl, RgOk.of_le (by decide) (by omega) (by decide) (by omega), fun q nq => ?_⟩
        rw [← e1, rgV_ints]
        have sq := same_new (o := HO.lst ((upI ps.length).map V.int)) nq
        refine ⟨_, _, dpl_ints (SqL.of (sq _ _ hD)), dpl_ints (SqL.of upd_same), shapedL_ints _, shapedL_ints _, _, rfl, ?_⟩
        rw [eqvL_ints, decide_eq_true rfl]
        have s3 := sm.trans sq
        exact iteF ⟨⟨_, _, _, _, _, _, _, _, _, _, _, _, _, _, rfl⟩, s3 _ _ hl, BC.same s3, hR.same s3⟩
    clear hl BC hR
    rintro σ HC ⟨⟨o3, o4, o5, o6, o8, o9, o11, o12, o13, o14, o15, o16, o17, o18, rfl⟩, hl, BC, hR⟩
    -- each row's number, and the row of the number
    refine ⟨fun σ' H' => Sr a b l (prodR ws.reverse) r σ' ∧ H' l = some (.lst (ws.map V.int)) ∧ BagAt H' b c 100 ∧ RowsOk H' r ws, ?_, ?_⟩
    · obtain ⟨ps, hr, n1, n4, hps, -⟩ := id hR
      refine ⟨_, rfl, _, rfl, l, rfl, ⟨_, SqL.of hl⟩, fun D nD => ?_⟩
      refine lc_list (K := K) (a := l) (xs := ws.map V.int) (fun i H' => Same HC H' ∧ H' D = some (.lst (((ws.take i).map fun _ => (0 : Int)).map V.int))) ⟨same_new nD, upd_same⟩ (fun i H' _ h => SqL.of (h.1 _ _ hl)) ?_ ?_
      · rintro i x H1 hx ⟨sm, hD⟩
        obtain ⟨w, hw', rfl⟩ := getMap hx
        have hi := (List.getElem?_eq_some_iff.mp hw').1
        refine ⟨rfl, _, hD, ?_, fun x o e => ?_, ?_⟩
        · rw [List.length_map, List.length_map, List.length_take]
          exact small1000 (by omega)
        · rw [upd_ne (ne_of_none e nD)]
          exact sm _ _ e
        · rw [upd_same, List.take_add_one, hw', List.map_append, List.map_append]
          rfl
      rintro H1 ⟨s1', hD⟩
      rw [List.length_map, List.take_length] at hD
      refine tupL_of (SqL.of hD) fun z1 nz1 => ?_
      have sz1 := same_new (o := HO.tup ((ws.map fun _ => (0 : Int)).map V.int)) nz1
      have g1 := upd_same (H := H1) (a := z1) (o := HO.tup ((ws.map fun _ => (0 : Int)).map V.int))
      generalize upd H1 z1 (HO.tup ((ws.map fun _ => (0 : Int)).map V.int)) = H2 at sz1 g1 ⊢
      have s2' := s1'.trans sz1
      refine ⟨_, rfl, l, rfl, ⟨_, SqL.of (s2' _ _ hl)⟩, fun D2 nD2 => ?_⟩
      refine lc_list (K := K) (a := l) (xs := ws.map V.int) (fun i H' => Same H2 H' ∧ H' D2 = some (.lst (((ws.take i).map fun w => w - 1).map V.int))) ⟨same_new nD2, upd_same⟩ (fun i H' _ h => SqL.of (h.1 _ _ (s2' _ _ hl))) ?_ ?_
      · rintro i x H3 hx ⟨sm, hD⟩
        obtain ⟨w, hw', rfl⟩ := getMap hx
        have hi := (List.getElem?_eq_some_iff.mp hw').1
        refine ⟨rfl, _, rfl, _, _, rfl, rfl, _, hD, ?_, fun x o e => ?_, ?_⟩
        · rw [List.length_map, List.length_map, List.length_take]
          exact small1000 (by omega)
        · rw [upd_ne (ne_of_none e nD2)]
          exact sm _ _ e
        · rw [upd_same, List.take_add_one, hw', List.map_append, List.map_append]
          rfl
      rintro H3 ⟨s3', hD2⟩
      rw [List.length_map, List.take_length] at hD2
      refine tupL_of (SqL.of hD2) fun z2 nz2 => ?_
      have sz2 := same_new (o := HO.tup ((ws.map fun w => w - 1).map V.int)) nz2
      have g2 := upd_same (H := H3) (a := z2) (o := HO.tup ((ws.map fun w => w - 1).map V.int))
      generalize upd H3 z2 (HO.tup ((ws.map fun w => w - 1).map V.int)) = H4 at sz2 g2 ⊢
      have s4' := s2'.trans (s3'.trans sz2)
      have g14 := (s3'.trans sz2) _ _ g1
      refine ⟨two, fun q nq => ?_⟩
      have sq := same_new (o := HO.lst [V.ref z1, V.ref z2]) nq
      refine ⟨r, q, ps.map V.ref, _, rfl, rfl, sq _ _ (s4' _ _ hr), upd_same, ?_, fun L nL => ?_⟩
      · rw [List.length_map]
        exact Nat.le_trans (show ps.length + 2 ≤ 402 by omega) (by decide)
      have e9 : ps.map V.ref ++ [V.ref z1, V.ref z2] = (ps ++ [z1, z2]).map V.ref := by rw [List.map_append]; rfl
      rw [e9]
      have sL := sq.trans (same_new (o := HO.lst ((ps ++ [z1, z2]).map V.ref)) nL)
      have hL : (upd (upd H4 q (HO.lst [V.ref z1, V.ref z2])) L (HO.lst ((ps ++ [z1, z2]).map V.ref))) L = some (HO.lst ((ps ++ [z1, z2]).map V.ref)) := upd_same
      have sC := s4'.trans sL
      have g1L := sL _ _ g14
      have g2L := sL _ _ g2
      generalize upd (upd H4 q (HO.lst [V.ref z1, V.ref z2])) L (HO.lst ((ps ++ [z1, z2]).map V.ref)) = HL at sC hL g1L g2L ⊢
      have all : ∀ p ∈ ps ++ [z1, z2], ∃ rs : List Int, HL p = some (.tup (rs.map V.int)) ∧ InR ws rs := fun p m => by
        rcases List.mem_append.mp m with m | m
        · obtain ⟨rs, x1, x2⟩ := hps p m
          exact ⟨rs, sC _ _ x1, x2⟩
        · simp only [List.mem_cons, List.not_mem_nil, or_false] at m
          rcases m with rfl | rfl
          · refine ⟨_, g1L, InR.of_get (by rw [List.length_map]) fun i w v h1 h2 => ?_⟩
            rw [List.getElem?_map, h1] at h2
            cases h2
            have := wpos w (List.mem_of_getElem? h1)
            exact ⟨Int.le_refl _, this⟩
          · refine ⟨_, g2L, InR.of_get (by rw [List.length_map]) fun i w v h1 h2 => ?_⟩
            rw [List.getElem?_map, h1] at h2
            cases h2
            have := wpos w (List.mem_of_getElem? h1)
            show 0 ≤ w - 1 ∧ w - 1 < w
            omega
      have hlL := sC _ _ hl
      refine ⟨L, rfl, ⟨_, SqL.of hL⟩, for_list (K := K) (a := L) (xs := (ps ++ [z1, z2]).map V.ref) (fun i σ H' => Same HL H' ∧ Sr a b l (prodR ws.reverse) r σ) ⟨Same.refl _, _, _, _, _, _, _, _, _, _, _, _, _, _, _, rfl⟩ (fun i σ H' _ h => SqL.of (h.1 _ _ hL)) ?_ ?_⟩
      · rintro i x σ H5 hx ⟨s5, o3, o4, o5, o6, o8, o9, o11, o12, o13, o14, o15, o16, o17, o18, rfl⟩
        obtain ⟨p, hp, rfl⟩ : ∃ p, p ∈ ps ++ [z1, z2] ∧ x = V.ref p := by
          obtain ⟨p, hp, e⟩ := List.mem_map.mp (List.mem_of_getElem? hx)
          exact ⟨p, hp, e.symm⟩
        obtain ⟨rs, hrs, inr⟩ := all p hp
        have hl5 := s5 _ _ hlL
        have hp5 := s5 _ _ hrs
        refine ⟨_, rfl, tupL_of (SqL.of hl5) fun t nt => ?_⟩
        have st := same_new (o := HO.tup (ws.map V.int)) nt
        refine ⟨_, rfl, t, p, ws, rs, rfl, .inr (SqT.of upd_same), .inr (SqT.of (st _ _ hp5)), inr.len, bw, fun H6 s6 => ?_⟩
        have s56 := st.trans s6
        have hl6 := s56 _ _ hl5
        have hp6 := s56 _ _ hp5
        have sHL := s5.trans s56
        clear st s6 nt
        refine ⟨_, rfl, l, _, rfl, .inl (SqL.of hl6), ((ws.map V.int).length : Int), rfl, by rw [List.length_map]; omega, by rw [List.length_map]; omega, ?_⟩
        rw [Int.toNat_natCast, List.length_map]
        refine for_range (lo := 0) (n := ws.length) (fun i σ H' => H' = H6 ∧ S4 a b l (prodR ws.reverse) r p (numR ws.reverse rs.reverse) (numR (ws.take i).reverse (rs.take i).reverse) σ) ⟨rfl, _, _, _, _, _, _, _, _, _, _, _, rfl⟩ ?_ ?_
        · rintro i σ H' hi ⟨rfl, o3, o4, o5, o6, o8, o9, o14, o15, o16, o17, o18, rfl⟩
          have hw' : ws[i]? = some ws[i] := List.getElem?_eq_getElem hi
          have hi2 : i < rs.length := by rw [inr.len]; exact hi
          have hr' : rs[i]? = some rs[i] := List.getElem?_eq_getElem hi2
          have b6 := bw ws[i] (List.getElem_mem hi)
          have aw : atI (ws.map V.int) ((0 : Int) + (i : Int)) = some (.int ws[i]) := by
            rw [Int.zero_add]
            exact atI_nat (by rw [List.getElem?_map, hw']; rfl)
          have ar : atI (rs.map V.int) ((0 : Int) + (i : Int)) = some (.int rs[i]) := by
            rw [Int.zero_add]
            exact atI_nat (by rw [List.getElem?_map, hr']; rfl)
          refine ⟨_, rfl, _, rfl, _, rfl, l, _, _, _, rfl, rfl, SqL.of hl6, aw, _, _, rfl, rfl, .inr ⟨by omega, by omega⟩, ?_⟩
          refine ⟨_, rfl, _, rfl, p, _, _, _, rfl, rfl, SqT.of hp6, ar, _, _, rfl, rfl, rfl, ?_⟩
          rw [take_rev hw', take_rev hr']
          exact ⟨_, _, _, _, _, _, _, _, _, _, _, rfl⟩
        · rintro σ H' ⟨rfl, o3, o4, o5, o6, o8, o9, o14, o15, o16, o17, o18, rfl⟩
          rw [List.take_length, ← inr.len, List.take_length]
          refine ⟨_, rfl, _, rfl, rfl, _, rfl, ?_⟩
          rw [decide_eq_true rfl]
          have b29 : ∀ w ∈ ws, 0 < w ∧ w < 2 ^ 29 := fun w m => by have := gd'.bd w m; omega
          refine iteF ⟨_, rfl, _, rfl, l, ws, _, rfl, .inl (SqL.of hl6), b29, by omega, fun pp H7 s7 np hpp => ?_⟩
          rw [digs_num inr.rev, List.reverse_reverse] at hpp
          refine ⟨_, rfl, _, _, dp_ints (SqT.of hpp), dp_ints (SqT.of (s7 _ _ hp6)), shaped_ints _, shaped_ints _, _, rfl, ?_⟩
          rw [eqv_ints, decide_eq_true rfl]
          refine iteF ⟨_, rfl, _, rfl, l, ws, _, rfl, .inl (SqL.of (s7 _ _ hl6)), b29, by omega, fun pq H8 s8 nq hpq => ?_⟩
          exact ⟨_, _, _, _, _, rfl, .ty _, ty_sqT (SqT.of hpq), ktt, _, rfl, iteF ⟨sHL.trans (s7.trans s8), _, _, _, _, _, _, _, _, _, _, _, _, _, _, rfl⟩⟩
      · rintro σ H5 ⟨s5, o3, o4, o5, o6, o8, o9, o11, o12, o13, o14, o15, o16, o17, o18, rfl⟩
        have sm := sC.trans s5
        exact ⟨⟨_, _, _, _, _, _, _, _, _, _, _, _, _, _, rfl⟩, sm _ _ hl, BC.same sm, hR.same sm⟩
    clear hl BC hR
    rintro σ HC ⟨⟨o3, o4, o5, o6, o8, o9, o11, o12, o13, o14, o15, o16, o17, o18, rfl⟩, hl, BC, hR⟩
    -- every row of small widths
    refine ⟨_, rfl, b, c, 2, _, rfl, BC, by decide, by decide, by decide, fun r0 H1 a0 b0 p1 B1 => ⟨_, _, rfl, rfl, ?_⟩⟩
    obtain ⟨j, rfl⟩ : ∃ j : Nat, r0 = (j : Int) := ⟨r0.toNat, by omega⟩
    have hl1 := p1.at lb hl
    have hR1 : RowsOk H1 r ws := by
      obtain ⟨ps, h1, h2, h3, h4, h5⟩ := hR
      have nb : ∀ {p : Addr} {rs : List Int}, HC p = some (.tup (rs.map V.int)) → p ≠ b := fun h z => by
        obtain ⟨ns', p', r', k', m', h', _⟩ := BC
        rw [z, h'] at h
        cases h
      refine ⟨ps, p1.at rb h1, h2, h3, fun p m => ?_, fun z => ⟨(h5 z).1, fun k p hp => p1.at (nb ((h5 z).2 k p hp)) ((h5 z).2 k p hp)⟩⟩
      obtain ⟨rs, x1, x2⟩ := h4 p m
      exact ⟨rs, p1.at (nb x1) x1, x2⟩
    clear hl BC hR
    refine ⟨(4 : Int) + (j : Int), rfl, by omega, by omega, fun u nu => ?_⟩
    have ub := (B1.new nu).1
    have uc := (B1.new nu).2
    rw [show (4 : Int) + (j : Int) = ((4 + j : Nat) : Int) by omega, Int.toNat_natCast]
    refine lc_range (lo := 0) (n := 4 + j) (fun i H' => Kb b H1 H' ∧ BagAt H' b c (102 + i) ∧ ∃ us : List Int, H' u = some (.lst (us.map V.int)) ∧ us.length = i ∧ ∀ w ∈ us, 1 ≤ w ∧ w ≤ 3) ⟨kb_new nu, (B1.updNew nu).mono (by decide), [], upd_same, rfl, (fun _ m => by cases m)⟩ ?_ ?_
    · rintro i H2 hi ⟨kb2, B2, us, hu, hul, hus⟩
      refine ⟨rfl, _, rfl, b, c, 3, _, rfl, B2, by decide, by decide, by omega, fun v H3 v0 v3 p3 B3 => ⟨_, _, rfl, rfl, ?_⟩⟩
      refine ⟨_, p3.at ub hu, ?_, fun x o ne e => ?_, ?_, us ++ [1 + v], ?_, by rw [List.length_append, hul]; rfl, fun w m => ?_⟩
      · rw [List.length_map]
        exact small1000 (by omega)
      · by_cases hx : x = u
        · rw [hx, nu] at e
          cases e
        · rw [upd_ne hx]
          exact p3.at ne (kb2 x o ne e)
      · exact (B3.upd ub uc).mono (by omega)
      · rw [upd_same, List.map_append]
        rfl
      · rcases List.mem_append.mp m with m | m
        · exact hus w m
        · obtain rfl := List.mem_singleton.mp m
          omega
    rintro H2 ⟨kb2, B2, us, hu, hul, hus⟩
    have hl2 := kb2 _ _ lb hl1
    have hR2 : RowsOk H2 r ws := by
      obtain ⟨ps, h1, h2, h3, h4, h5⟩ := hR1
      have nb : ∀ {p : Addr} {rs : List Int}, H1 p = some (.tup (rs.map V.int)) → p ≠ b := fun h z => by
        obtain ⟨ns', p', r', k', m', h', _⟩ := B1
        rw [z, h'] at h
        cases h
      refine ⟨ps, kb2 _ _ rb h1, h2, h3, fun p m => ?_, fun z => ⟨(h5 z).1, fun k p hp => kb2 _ _ (nb ((h5 z).2 k p hp)) ((h5 z).2 k p hp)⟩⟩
      obtain ⟨rs, x1, x2⟩ := h4 p m
      exact ⟨rs, kb2 _ _ (nb x1) x1, x2⟩
    have usr : ∀ w ∈ us.reverse, 1 ≤ w ∧ w ≤ 3 := fun w m => hus w (List.mem_reverse.mp m)
    have upos : ∀ w ∈ us, 0 < w := fun w m => by have := hus w m; omega
    have pr3 : prodR us.reverse ≤ 243 := prod_le3 usr (by rw [List.length_reverse]; omega)
    have prp : 0 < prodR us.reverse := prodR_pos fun w m => upos w (List.mem_reverse.mp m)
    refine ⟨_, rfl, u, us, rfl, .inl (SqL.of hu), fun w m => by have := hus w m; omega, by omega, by omega, fun e H3 s3 ne hE => ?_⟩
    have hl3 := s3 _ _ hl2
    have B3 : BagAt H3 b c 200 := (B2.same s3).mono (by omega)
    have hR3 := hR2.same s3
    have hu3 := s3 _ _ hu
    clear hl1 hl2 hR1 hR2 hu B1 B2 kb2 nu p1
    have ub3 : ∀ w ∈ us, w.natAbs < 2 ^ 60 := fun w m => by have := hus w m; omega
    obtain ⟨qs, hqs, hql, hqa⟩ := hE
    refine ⟨fun σ' H' => Sw a b l (prodR ws.reverse) r u e σ' ∧ H' l = some (.lst (ws.map V.int)) ∧ BagAt H' b c 200 ∧ RowsOk H' r ws ∧ H' u = some (.lst (us.map V.int)) ∧ H' e = some (.lst (qs.map V.ref)), ?_, ?_⟩
    · refine ⟨_, rfl, e, rfl, ⟨_, SqL.of hqs⟩, fun D nD => ?_⟩
      refine lc_list (K := K) (a := e) (xs := qs.map V.ref) (fun i H' => Same H3 H' ∧ H' D = some (.lst ((upI i).map V.int))) ⟨same_new nD, upd_same⟩ (fun i H' _ h => SqL.of (h.1 _ _ hqs)) ?_ ?_
      · rintro i x H4 hx ⟨sm, hD⟩
        obtain ⟨p, hp, rfl⟩ : ∃ p, qs[i]? = some p ∧ x = V.ref p := by
          rw [List.getElem?_map] at hx
          cases e : qs[i]? with
          | none => rw [e] at hx; cases hx
          | some z => rw [e] at hx; exact ⟨z, rfl, (Option.some.inj hx).symm⟩
        have hi : i < qs.length := (List.getElem?_eq_some_iff.mp hp).1
        obtain ⟨ri, rn⟩ := row_in (k := i) upos (by omega)
        refine ⟨rfl, _, rfl, _, rfl, u, p, us, _, rfl, .inl (SqL.of (sm _ _ hu3)), .inr (SqT.of (sm _ _ (hqa i p hp))), ri.len, ub3, fun H5 s5 => ?_⟩
        rw [List.reverse_reverse, rn]
        refine ⟨_, s5 _ _ hD, ?_, fun x o e => ?_, ?_⟩
        · rw [List.length_map, upI_len]
          exact small1000 (by omega)
        · rw [upd_ne (ne_of_none e nD)]
          exact s5 _ _ (sm _ _ e)
        · rw [upd_same, upI_succ, List.map_append]
          rfl
      rintro H4 ⟨s4, hD⟩
      rw [List.length_map] at hD
      refine ⟨_, rfl, e, _, rfl, .inl (SqL.of (s4 _ _ hqs)), ((qs.map V.ref).length : Int), rfl, RgOk.of_le (by decide) (by rw [List.length_map]; omega) (by decide) (by omega), fun q nq => ?_⟩
      rw [rgV_ints, List.length_map]
      have sq := same_new (o := HO.lst ((upI qs.length).map V.int)) nq
      refine ⟨_, _, dpl_ints (SqL.of (sq _ _ hD)), dpl_ints (SqL.of upd_same), shapedL_ints _, shapedL_ints _, _, rfl, ?_⟩
      rw [eqvL_ints, decide_eq_true rfl]
      have s5 := s4.trans sq
      generalize upd H4 q (HO.lst ((upI qs.length).map V.int)) = H5 at s5 ⊢
      refine iteF ⟨_, rfl, e, _, rfl, .inl (SqL.of (s5 _ _ hqs)), ((qs.map V.ref).length : Int), rfl, by rw [List.length_map]; omega, by rw [List.length_map]; omega, fun D2 nD2 => ?_⟩
      rw [Int.toNat_natCast, List.length_map]
      refine lc_range (lo := 0) (n := qs.length) (fun i H' => Same H5 H' ∧ ∃ zs : List Addr, H' D2 = some (.lst (zs.map V.ref)) ∧ zs.length = i ∧ ∀ (k : Nat) (z : Addr), zs[k]? = some z → H' z = some (.tup ((digs us.reverse k).reverse.map V.int))) ⟨same_new nD2, [], upd_same, rfl, fun k z h => by simp at h⟩ ?_ ?_
      · rintro i H6 hi ⟨s6, zs, hz, hzl, hza⟩
        refine ⟨rfl, _, rfl, _, rfl, u, us, _, rfl, .inl (SqL.of (s6 _ _ (s5 _ _ hu3))), fun w m => by have := hus w m; omega, by omega, fun p H7 s7 np hp => ?_⟩
        have hz7 := s7 _ _ hz
        rw [show (0 : Int) + (i : Int) = (i : Int) by omega] at hp
        have pD : p ≠ D2 := (ne_of_none hz np).symm
        refine ⟨_, hz7, ?_, fun x o e => ?_, zs ++ [p], ?_, by rw [List.length_append, hzl]; rfl, fun k z hk => ?_⟩
        · rw [List.length_map]
          exact small1000 (by omega)
        · rw [upd_ne (ne_of_none e nD2)]
          exact s7 _ _ (s6 _ _ e)
        · rw [upd_same, List.map_append]
          rfl
        · rw [List.getElem?_append] at hk
          split at hk
          · have h1 := hza k z hk
            have zD : z ≠ D2 := fun q => by rw [q, hz] at h1; cases h1
            rw [upd_ne zD]
            exact s7 _ _ h1
          · rename_i hkl
            rw [List.getElem?_singleton] at hk
            split at hk
            · rename_i hk0
              cases hk
              obtain rfl : k = i := by omega
              rw [upd_ne pD]
              exact hp
            · cases hk
      rintro H6 ⟨s6, zs, hz, hzl, hza⟩
      have s36 := s5.trans s6
      let xss : List (List Int) := (List.range qs.length).map fun k : Nat => (digs us.reverse k).reverse
      have xl : xss.length = qs.length := by rw [List.length_map, List.length_range]
      have xg : ∀ (k : Nat) (xs : List Int), xss[k]? = some xs → xs = (digs us.reverse k).reverse := fun k xs h => by
        have hk := (List.getElem?_eq_some_iff.mp h).1
        rw [xl] at hk
        rw [List.getElem?_map, List.getElem?_range hk] at h
        exact (Option.some.inj h).symm
      refine ⟨_, rfl, _, _, .lst (SqL.of hz) (dpRows (xss := xss) (by rw [xl, hzl]) fun k p xs h1 h2 => ?_), .lst (SqL.of (s36 _ _ hqs)) (dpRows (xss := xss) xl.symm fun k p xs h1 h2 => ?_), shapedRows _, shapedRows _, _, rfl, ?_⟩
      · rw [xg k xs h2]
        exact hza k p h1
      · rw [xg k xs h2]
        exact s36 _ _ (hqa k p h1)
      have ev : PyData.eqv (.list (rowsD xss)) (.list (rowsD xss)) = true := eqvRows xss
      rw [ev]
      exact iteF ⟨⟨_, _, _, _, _, _, _, _, _, _, _, _, rfl⟩, s36 _ _ hl3, B3.same s36, hR3.same s36, s36 _ _ hu3, s36 _ _ hqs⟩
    clear hl3 B3 hR3 hu3 hqs hqa
    rintro σ H3 ⟨⟨o3, o4, o5, o6, o8, o9, o11, o12, o13, o16, o17, o18, rfl⟩, hl, BC, hR, hu, hqs⟩
    -- empty widths
    refine ⟨_, rfl, u, us, rfl, .inl (SqL.of hu), ub3, _, rfl, e, _, rfl, .inl (SqL.of hqs), rfl, _, rfl, ?_⟩
    rw [List.length_map, ← hql, decide_eq_true rfl]
    refine iteF ⟨Nat.zero_le _, fun x1 nx1 => ⟨Nat.zero_le _, fun y1 ny1 => ?_⟩⟩
    have sx := (same_new (o := HO.lst []) nx1).trans (same_new (o := HO.tup []) ny1)
    refine ⟨x1, y1, [], [], rfl, .inl (SqL.of (same_new ny1 _ _ upd_same)), .inr (SqT.of upd_same), rfl, (fun _ m => by cases m), fun H4 s4 => ⟨rfl, _, rfl, iteF ?_⟩⟩
    have s34 := sx.trans s4
    clear sx s4
    refine ⟨Nat.zero_le _, fun x2 nx2 => ⟨x2, [], 0, rfl, .inl (SqL.of upd_same), (fun _ m => by cases m), by decide, fun p H5 s5 np hp => ⟨Nat.zero_le _, fun y2 ny2 => ?_⟩⟩⟩
    have sy := same_new (o := HO.tup []) ny2
    refine ⟨_, _, dp_ints (ns := []) (SqT.of (sy _ _ hp)), dp_ints (ns := []) (SqT.of upd_same), shaped_ints _, shaped_ints _, _, rfl, iteF ?_⟩
    have s35 := s34.trans ((same_new nx2).trans (s5.trans sy))
    have hl5 := s35 _ _ hl
    have B5 := BC.same s35
    obtain ⟨ps, hr, n1, n4, hps, -⟩ := hR.same s35
    generalize upd H5 y2 (HO.tup []) = H6 at hl5 B5 hr hps ⊢
    clear hl BC hR hu hqs s34 s35 sy nx2
    -- a row
    refine ⟨_, rfl, _, rfl, _, rfl, r, _, rfl, .inl (SqL.of hr), b, c, _, _, rfl, B5, by rw [List.length_map]; omega, ?_, by decide, fun k H7 k0 k1 p7 B7 => ?_⟩
    · rw [List.length_map]
      exact Int.lt_of_le_of_lt (show ((ps.length : Nat) : Int) ≤ 400 by omega) (by decide)
    obtain ⟨kn, rfl⟩ : ∃ kn : Nat, k = (kn : Int) := ⟨k.toNat, by omega⟩
    rw [List.length_map] at k1
    have hkn : kn < ps.length := by omega
    obtain ⟨rs, hrs, inr⟩ := hps ps[kn] (List.getElem_mem hkn)
    have pb : ps[kn] ≠ b := fun z => by
      obtain ⟨ns', p', r', k', m', h', _⟩ := B5
      rw [z, h'] at hrs
      cases hrs
    have hl7 := p7.at lb hl5
    have hr7 := p7.at rb hr
    have hrs7 := p7.at pb hrs
    refine ⟨r, _, (kn : Int), .ref ps[kn], rfl, rfl, SqL.of hr7, atI_nat (by rw [List.getElem?_map, List.getElem?_eq_getElem hkn]; rfl), ps[kn], _, rfl, .inr (SqT.of hrs7), fun rl nrl => ?_⟩
    have srl := same_new (o := HO.lst (rs.map V.int)) nrl
    have hl8 := srl _ _ hl7
    have B8 := B7.same srl
    have rlb := (B7.new nrl).1
    have hrl : (upd H7 rl (HO.lst (rs.map V.int))) rl = some (HO.lst (rs.map V.int)) := upd_same
    generalize upd H7 rl (HO.lst (rs.map V.int)) = H8 at hl8 B8 hrl ⊢
    clear hl5 B5 hr hps hl7 hr7 hrs7 hrs p7 B7 srl nrl pb
    have rlen := inr.len
    have gl1 := gd'.l1
    have r40 : ∀ v ∈ rs, v.natAbs < 10 ^ 40 := fun v m => by
      obtain ⟨i, hi, e⟩ := List.getElem_of_mem m
      have h1 : rs[i]? = some v := by rw [List.getElem?_eq_getElem hi, e]
      have hi2 : i < ws.length := by omega
      have h2 : ws[i]? = some ws[i] := List.getElem?_eq_getElem hi2
      have := inr.get h2 h1
      have := gd'.bd _ (List.getElem_mem hi2)
      omega
    have or : ∀ {Hx : Hp}, ∀ x ∈ rs.map V.int, Odd Hx x := fun {Hx} => odds_ints r40
    refine ⟨_, rfl, _, rfl, l, ws, .ref rl, true, rfl, .inl (SqL.of hl8), .lst hrl or (by rw [List.length_map]; omega), fun H9 s9 => ⟨_, rfl, ?_⟩⟩
    rw [seqOf_lst hrl, rowOk_of inr]
    refine iteF ⟨_, rfl, tupL_of (SqL.of (s9 _ _ hl8)) fun t1 nt1 => ⟨_, rfl, tupL_of (SqL.of (same_new nt1 _ _ (s9 _ _ hrl))) fun t2 nt2 => ?_⟩⟩
    have st2 := same_new (o := HO.tup (rs.map V.int)) nt2
    refine ⟨t1, ws, .ref t2, true, rfl, .inr (SqT.of (st2 _ _ upd_same)), .tup upd_same or (by rw [List.length_map]; omega), fun H10 s10 => ⟨_, rfl, ?_⟩⟩
    rw [seqOf_tup upd_same, rowOk_of inr]
    have sT := s9.trans ((same_new nt1).trans (st2.trans s10))
    have hl10 := sT _ _ hl8
    have hrl10 := sT _ _ hrl
    have B10 := B8.same sT
    clear hl8 hrl B8 sT s10 st2 nt2 s9
    refine iteF ?_
    -- the wrong cell
    refine ⟨_, rfl, _, rfl, rl, _, rfl, .inl (SqL.of hrl10), b, c, _, _, rfl, B10, by rw [List.length_map]; omega, ?_, by decide, fun ai H11 i0 i1 p11 B11 => ?_⟩
    · rw [List.length_map]
      exact Int.lt_of_le_of_lt (show ((rs.length : Nat) : Int) ≤ 3 by omega) (by decide)
    obtain ⟨i, rfl⟩ : ∃ i : Nat, ai = (i : Int) := ⟨ai.toNat, by omega⟩
    rw [List.length_map] at i1
    have hi : i < rs.length := by omega
    have hi2 : i < ws.length := by omega
    have hl11 := p11.at lb hl10
    have hrl11 := p11.at rlb hrl10
    refine ⟨_, rfl, rl, _, rfl, .inl (SqL.of hrl11), fun wr nwr => ?_⟩
    have swr := same_new (o := HO.lst (rs.map V.int)) nwr
    have hl12 := swr _ _ hl11
    have hrl12 := swr _ _ hrl11
    have B12 := B11.same swr
    obtain ⟨wrb, wrc⟩ := B11.new nwr
    have wrl : l ≠ wr := ne_of_none hl11 nwr
    have wrr : rl ≠ wr := ne_of_none hrl11 nwr
    have hwr : (upd H11 wr (HO.lst (rs.map V.int))) wr = some (HO.lst (rs.map V.int)) := upd_same
    generalize upd H11 wr (HO.lst (rs.map V.int)) = H12 at hl12 hrl12 B12 hwr ⊢
    clear hl10 hrl10 B10 hl11 hrl11 B11 p11 swr nwr
    have aw : atI (ws.map V.int) (i : Int) = some (.int ws[i]) := atI_nat (by rw [List.getElem?_map, List.getElem?_eq_getElem hi2]; rfl)
    refine ⟨_, rfl, _, rfl, l, _, _, _, rfl, rfl, SqL.of hl12, aw, ?_⟩
    refine ⟨_, rfl, by show 1 ≤ sizeLine; decide, fun t nt => ?_⟩
    have st := same_new (o := HO.tup [V.int 0]) nt
    refine ⟨_, rfl, _, rfl, l, _, _, _, rfl, rfl, SqL.of (st _ _ hl12), aw, ?_⟩
    refine ⟨_, rfl, _, _, rfl, rfl, ⟨by decide, by decide, by decide⟩, b, c, _, _, rfl, B12.same st, by decide +kernel, by decide +kernel, by decide, fun r1 H13 a1 b1 p13 B13 => ?_⟩
    have tb := (B12.new nt).1
    refine ⟨_, _, rfl, rfl, by show 7 ≤ sizeLine; decide, fun q nq => ?_⟩
    have qb := (B13.new nq).1
    refine ⟨_, rfl, b, c, 7, _, rfl, B13.updNew nq, by decide, by decide, by decide, fun r2 H14 a2 b2 p14 B14 => ?_⟩
    have ht14 : H14 t = some (.tup [.int 0]) := p14.at tb (same_new nq _ _ (p13.at tb upd_same))
    have hl14 := p14.at lb (same_new nq (o := HO.lst [V.int ws[i], V.int (-1), V.bl false, V.non, V.str "0", V.ref t, V.int (ws[i] + r1)]) _ _ (p13.at lb (st _ _ hl12)))
    have hrl14 := p14.at rlb (same_new nq (o := HO.lst [V.int ws[i], V.int (-1), V.bl false, V.non, V.str "0", V.ref t, V.int (ws[i] + r1)]) _ _ (p13.at rlb (st _ _ hrl12)))
    have hwr14 := p14.at wrb (same_new nq (o := HO.lst [V.int ws[i], V.int (-1), V.bl false, V.non, V.str "0", V.ref t, V.int (ws[i] + r1)]) _ _ (p13.at wrb (st _ _ hwr)))
    obtain ⟨v, hat, hv, bad⟩ := wrong_item ht14 (gd'.bd _ (List.getElem_mem hi2)) a1 b1 a2 b2
    refine ⟨q, _, r2, v, rfl, rfl, SqL.of (p14.at qb upd_same), hat, ?_⟩
    refine ⟨_, rfl, _, rfl, wr, _, (i : Int), i, rfl, rfl, hwr14, ix_nat (by rw [List.length_map]; exact hi), ?_⟩
    have hv15 : Odd (upd H14 wr (.lst ((rs.map V.int).set i v))) v := hv.keep fun x xs e => by
      by_cases hx : x = wr
      · rw [hx, hwr14] at e
        cases e
      · rw [upd_ne hx]
        exact e
    have hl15 : (upd H14 wr (.lst ((rs.map V.int).set i v))) l = some (.lst (ws.map V.int)) := by rw [upd_ne wrl]; exact hl14
    have hrl15 : (upd H14 wr (.lst ((rs.map V.int).set i v))) rl = some (.lst (rs.map V.int)) := by rw [upd_ne wrr]; exact hrl14
    have hwr15 : (upd H14 wr (.lst ((rs.map V.int).set i v))) wr = some (.lst ((rs.map V.int).set i v)) := upd_same
    have B15 : BagAt (upd H14 wr (.lst ((rs.map V.int).set i v))) b c 300 := (B14.upd wrb wrc).mono (by decide)
    generalize upd H14 wr (.lst ((rs.map V.int).set i v)) = H15 at hv15 hl15 hrl15 hwr15 B15 ⊢
    clear hl12 hrl12 B12 hwr st nt B13 p13 tb nq qb B14 p14 ht14 hl14 hrl14 hwr14 hv hat
    have badx : rowOk ws (some ((rs.map V.int).set i v)) = false := by
      show (_ && allIn ws ((rs.map V.int).set i v)) = false
      rw [allIn_bad (List.getElem?_eq_getElem hi2) (by rw [List.length_map]; exact hi) bad, Bool.and_false]
    have lenx : ∀ xs : List V, xs.length ≠ ws.length → rowOk ws (some xs) = false := fun xs h => by
      show (decide (xs.length = ws.length) && _) = false
      rw [decide_eq_false h, Bool.false_and]
    -- the wrong rows
    refine ⟨_, rfl, _, rfl, _, rfl, _, rfl, rl, _, rfl, SqL.of hrl15, fun y1 ny1 => ?_⟩
    have q1 := same_new (o := HO.lst (cutV (rs.map V.int) none (some (-1)))) ny1
    refine ⟨_, rfl, by show 1 ≤ sizeLine; decide, fun x1 nx1 => ?_⟩
    have q2 := same_new (o := HO.lst [V.int 0]) nx1
    refine ⟨rl, x1, rs.map V.int, _, rfl, rfl, q2 _ _ (q1 _ _ hrl15), upd_same, ?_, fun y2 ny2 => ?_⟩
    · rw [List.length_map]
      exact Nat.le_trans (show rs.length + 1 ≤ 4 by omega) (by decide)
    have q3 := same_new (o := HO.lst (rs.map V.int ++ [V.int 0])) ny2
    refine ⟨Nat.zero_le _, fun y3 ny3 => ?_⟩
    have q4 := same_new (o := HO.tup []) ny3
    refine ⟨_, rfl, tupL_of (SqL.of (q4 _ _ (q3 _ _ (q2 _ _ (q1 _ _ hwr15))))) fun y4 ny4 => ?_⟩
    have q5 := same_new (o := HO.tup ((rs.map V.int).set i v)) ny4
    refine ⟨by show 8 ≤ sizeLine; decide, fun L nL => ?_⟩
    have q6 := same_new (o := HO.lst [V.ref wr, V.ref y1, V.ref y2, V.ref y3, V.non, V.int 0, V.str "0", V.ref y4]) nL
    have qa := q1.trans (q2.trans (q3.trans (q4.trans (q5.trans q6))))
    have h1 := (q2.trans (q3.trans (q4.trans (q5.trans q6)))) _ _ (upd_same (H := H15) (a := y1) (o := HO.lst (cutV (rs.map V.int) none (some (-1)))))
    have h2 := (q4.trans (q5.trans q6)) _ _ (upd_same (a := y2) (o := HO.lst (rs.map V.int ++ [V.int 0])))
    have h3 := (q5.trans q6) _ _ (upd_same (a := y3) (o := HO.tup []))
    have h4 := q6 _ _ (upd_same (a := y4) (o := HO.tup ((rs.map V.int).set i v)))
    have hL := upd_same (H := upd (upd (upd (upd (upd H15 y1 (HO.lst (cutV (rs.map V.int) none (some (-1))))) x1 (HO.lst [V.int 0])) y2 (HO.lst (rs.map V.int ++ [V.int 0]))) y3 (HO.tup [])) y4 (HO.tup ((rs.map V.int).set i v))) (a := L) (o := HO.lst [V.ref wr, V.ref y1, V.ref y2, V.ref y3, V.non, V.int 0, V.str "0", V.ref y4])
    have hlL := qa _ _ hl15
    have hwL := qa _ _ hwr15
    have BL := B15.same qa
    have hvL := hv15.same qa
    generalize upd (upd (upd (upd (upd (upd H15 y1 (HO.lst (cutV (rs.map V.int) none (some (-1))))) x1 (HO.lst [V.int 0])) y2 (HO.lst (rs.map V.int ++ [V.int 0]))) y3 (HO.tup [])) y4 (HO.tup ((rs.map V.int).set i v))) L (HO.lst [V.ref wr, V.ref y1, V.ref y2, V.ref y3, V.non, V.int 0, V.str "0", V.ref y4]) = HL at h1 h2 h3 h4 hL hlL hwL BL hvL ⊢
    rw [cut_last (by omega)] at h1
    clear q1 q2 q3 q4 q5 q6 qa hv15 hl15 hrl15 hwr15 B15
    have setl : ((rs.map V.int).set i v).length ≤ 100 := by rw [List.length_set, List.length_map]; omega
    have args : ∀ x ∈ [V.ref wr, V.ref y1, V.ref y2, V.ref y3, V.non, V.int 0, V.str "0", V.ref y4], Arg HL x ∧ rowOk ws (seqOf HL x) = false := by
      intro x m
      simp only [List.mem_cons, List.not_mem_nil, or_false] at m
      rcases m with rfl | rfl | rfl | rfl | rfl | rfl | rfl | rfl
      · exact ⟨.lst hwL (odds_set' or hvL i) setl, by rw [seqOf_lst hwL]; exact badx⟩
      · refine ⟨.lst h1 (fun x m => ?_) (by rw [List.length_map, List.length_take]; omega), by rw [seqOf_lst h1]; exact lenx _ (by rw [List.length_map, List.length_take]; omega)⟩
        obtain ⟨n, hn, rfl⟩ := List.mem_map.mp m
        exact .int n (r40 n (List.mem_of_mem_take hn))
      · refine ⟨.lst h2 (fun x m => ?_) (by rw [List.length_append, List.length_map]; show rs.length + 1 ≤ 100; omega), by rw [seqOf_lst h2]; exact lenx _ (by rw [List.length_append, List.length_map]; show rs.length + 1 ≠ ws.length; omega)⟩
        rcases List.mem_append.mp m with m | m
        · exact or x m
        · obtain rfl := List.mem_singleton.mp m
          exact .int 0 (by decide)
      · exact ⟨.tup h3 (fun _ m => by cases m) (by decide), by rw [seqOf_tup h3]; exact lenx _ (by show 0 ≠ ws.length; omega)⟩
      · exact ⟨.one .non, rfl⟩
      · exact ⟨.one (.int 0 (by decide)), rfl⟩
      · exact ⟨.one (.str _ (by decide +kernel)), rfl⟩
      · exact ⟨.tup h4 (odds_set' or hvL i) setl, by rw [seqOf_tup h4]; exact badx⟩
    refine ⟨L, rfl, ⟨_, SqL.of hL⟩, for_list (K := K) (a := L) (xs := [V.ref wr, V.ref y1, V.ref y2, V.ref y3, V.non, V.int 0, V.str "0", V.ref y4]) (fun i σ H' => Same HL H' ∧ Sl a b l σ) ⟨Same.refl _, _, _, _, _, _, _, _, _, _, _, _, _, _, _, _, _, rfl⟩ (fun i σ H' _ h => SqL.of (h.1 _ _ hL)) ?_ ?_⟩
    · rintro i x σ H' hx ⟨sm, o3, o4, o5, o6, o7, o8, o9, o10, o11, o12, o13, o14, o15, o16, o17, o18, rfl⟩
      obtain ⟨ar, no⟩ := args x (List.mem_of_getElem? hx)
      obtain ⟨U, kn⟩ := ar.kn.1
      refine ⟨_, rfl, _, rfl, l, ws, x, false, rfl, .inl (SqL.of (sm _ _ hlL)), ar.same sm, fun H9 s9 => ⟨_, rfl, ?_⟩⟩
      rw [kn.seqOf sm, no]
      exact iteF ⟨sm.trans s9, _, _, _, _, _, _, _, _, _, _, _, _, _, _, _, _, rfl⟩
    · rintro σ H' ⟨sm, o3, o4, o5, o6, o7, o8, o9, o10, o11, o12, o13, o14, o15, o16, o17, o18, rfl⟩
      refine ⟨_, rfl, b, c, _, rfl, BL.same sm, by decide, fun H9 _ B9 => ⟨_, rfl, iteT ⟨_, rfl, b, c, _, rfl, B9, by decide, fun HX _ _ => kQ HX⟩⟩⟩
end
end K02

set_option maxRecDepth 100000
set_option maxHeartbeats 0
namespace K02
open PySem PySem.Spec PyProof.Rows L2 Q
def ob (s : PySem.W.SharedT) : He.AlD := obsFG 6 fb fn (HandSHeadRun.getT s)
abbrev hk : PySem.W.Hook := hookF 6 fb fn
theorem ob_eq (s : PySem.W.SharedT) : ob s = hk.obs s.abs := obsFG_eq (HandSHeadRun.getT_eq s)
abbrev RowQ : PySem.W.OpenRow := PySem.W.OpenLaw.row PySem.Challenge.rw_fewfetches_k02_rows_by_their_numbers
theorem run (w : World) : HandSHeadRun.RunEq RowQ (PySem.W.view RowQ.prog [28]) hk ob 4000 ["FetchError", "BadWidths", "BadRow", "LETTERS", "LONGEST_NAME", "MOST_COLUMNS", "MOST_VALUES", "MOST_ROWS", "is_whole", "is_name", "row_count", "check_widths", "check_row", "row_number", "row_at", "_law_bag", "_law_draw", "_law_good", "_law_widths_told", "_law_row_right", "_law_widths", "_law_all", "_law_is", "_law_words_right", "_law_far_right"] w := by
  intro os
  kernel_rfl

end K02

set_option maxRecDepth 100000
set_option maxHeartbeats 4000000
namespace K02
open PySem PySem.Spec PyProof.Rows L2 Q RZ RT
theorem ends {P : Program} {w : World} {K : PySem.W.Frag} {h : Heap} {mg : Str → Option Value} {f : Addr} (X : K.In h) (G : h.Ns mainGlobals mg) (hf : mg ("law" : Str) = some (.ref f)) (c : SaysF fb fn K) :
    ∃ fd : FuncData, (∀ (s : Shared) (v : Value), BindsTo s fd ⟨[v], []⟩ [("script", v)]) ∧ ∀ base : Heap, K.In base → base.Ns mainGlobals mg → FnG P w K mg base CX0 6 f fd ["script"] (spLaw K) := by
  have T := tx_of X G c
  cases hf.symm.trans T.g_law
  obtain ⟨fd, F⟩ := T.d_law
  refine ⟨fd, fun s v => F.bindsA (ps := ["script"]) (fun _ _ _ _ _ _ us hl => match us, hl with | [_], _ => rfl) s [v] rfl, fun base _ _ => ?_⟩
  obtain ⟨fd', law, F'⟩ := ok_law (P := P) (w := w) (base := base) T
  obtain ⟨_, _, _, _, _, _, _, _, _, _, _, e1, _⟩ := F.ex
  obtain ⟨_, _, _, _, _, _, _, _, _, _, _, e2, _⟩ := F'.ex
  have e := e1.symm.trans e2
  obtain rfl : fd = fd' := by
    injection e with e
    injection e with _ _ e _
    injection e
  exact law

end K02
open PySem PySem.W PySem.Calls PyProof.Rows
set_option maxRecDepth 100000 in
set_option maxHeartbeats 0 in
theorem PySem.Challenge.cw_fewfetches_k02_rows_by_their_numbers_holds : PySem.Challenge.rw_fewfetches_k02_rows_by_their_numbers.Holds := by
  w_on; o_law
  refine HandSHeadRun.head_any (r := OpenLaw.row PySem.Challenge.rw_fewfetches_k02_rows_by_their_numbers) (q := view (OpenLaw.row PySem.Challenge.rw_fewfetches_k02_rows_by_their_numbers).prog [28]) (H := K02.hk) (ob := K02.ob) (M := 4000) (loose := ["FetchError", "BadWidths", "BadRow", "LETTERS", "LONGEST_NAME", "MOST_COLUMNS", "MOST_VALUES", "MOST_ROWS", "is_whole", "is_name", "row_count", "check_widths", "check_row", "row_number", "row_at", "_law_bag", "_law_draw", "_law_good", "_law_widths_told", "_law_row_right", "_law_widths", "_law_all", "_law_is", "_law_words_right", "_law_far_right"]) (d := HandSHeadRun.topDef (OpenLaw.row PySem.Challenge.rw_fewfetches_k02_rows_by_their_numbers).prog 28) (kwd := []) K02.ob_eq
    (by kernel_rfl) (fun s => by kernel_rfl) K02.run (by kernel_rfl) (by kernel_rfl) (by kernel_rfl) (by rfl) (by first | assumption | decide +kernel) (by decide +kernel) ⟨rfl, rfl, rfl, rfl, rfl, by decide +kernel⟩ ?hw ?hc
  case hw => w_witness2
  case hc =>
    refine Q.walk_ofG (l := PySem.Challenge.rw_fewfetches_k02_rows_by_their_numbers) (n := 63) (k := 6) (x := "script") (CX := L2.CX0) rfl (by decide) (by kernel_rfl) ⟨rfl, by decide, by decide⟩ ?F (fun _ _ _ _ z => z)
    intro w mg fa h Y G hmg0
    obtain ⟨K, KX, c⟩ := Y
    have hmg : mg ("law" : PySem.Str) = some (.ref fa) := by
      have e : (HandSHeadRun.topDef (OpenLaw.row PySem.Challenge.rw_fewfetches_k02_rows_by_their_numbers).prog 28).name = ("law" : PySem.Str) := by kernel_rfl
      rw [← e]
      exact hmg0
    obtain ⟨fd, hb, hF⟩ := K02.ends (P := (PySem.Challenge.rw_fewfetches_k02_rows_by_their_numbers).prog) (w := w) KX G hmg c
    exact ⟨K, fd, K02.spLaw K, KX, hb, fun H a ns hl _ hS => ⟨a, ns, rfl, hS, fun _ => rfl⟩, hF⟩
#print axioms PySem.Challenge.cw_fewfetches_k02_rows_by_their_numbers_holds


