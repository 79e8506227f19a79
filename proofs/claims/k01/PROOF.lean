import PyProof.Rows.All
import Wide.All
import OpenK.AllK
import Wide.FinOn
import KE.KStateDown
import Lean
import PyProof.ReprRoads
import KE.KExcIs
import HandS.Base
import HandS.Call
import HandS.List
import HandS.Comp
import HandS.Ends
import HandS.Exc
import HandS.ExcOwn
import HandS.ExcInit
import HandS.ExcField
import HandS.ExcIs
import HandS.TryOnly
import HandS.Dict
import HandS.Iter
import HandS.Text
import HandS.More
import HandS.Words
import HandS.WordsList
import HandS.WordsDict
import HandS.WordsExc
import HandS.Defaults
import HandS.IsInst
import HandS.Wide
import HandS.Zip
import HandS.Conv
import HandS.Codes
import HandS.TupAny
import HandS.DeepEq
import HandS.Head0
import HandS.Head1
import HandS.Head2
import HandS.HeadEnd
import HandS.HeadHook1
import HandS.HeadHook2
import HandS.HeadNt
import PySem.Challenge.RW_fewfetches_k01_boxes_refused_in_order
set_option Elab.async false
set_option linter.all false
set_option maxRecDepth 100000
set_option maxHeartbeats 4000000
/-! What all our proofs share: how a caller takes a def, heaps, an exception's isinstance, repr of data. -/
namespace Q
open PySem PySem.Spec PyProof.Rows L2
/-! ### a def as its callers take it -/
structure Cal (P : Program) (w : World) (K : PySem.W.Frag) (mg : Str → Option Value) (base : Heap) (CX : CXT) (k : Nat) (x : Str) (ps : List Str) (dvs : List V) (sp : Sp) : Prop where
  ex : ∃ (f : Addr) (fd : FuncData) (ds : List Value), FnOk P w K mg base CX k f fd ps sp ∧ mg x = some (.ref f) ∧ PySem.W.keepIn K (.ref f) = true ∧ Binds K fd ps ds ∧ Vals dvs ds
section
variable {X : Cx} {CX : CXT} {k : Nat} {ps : List Str} {sp : Sp} {dvs : List V} {E : XK} {x : Str} {p pos : Pos} {e : Expr} {es : List Expr} {t : TA}
theorem pe_cal (C : Cal X.prog X.w X.K X.mg X.base CX k x ps dvs sp) (hr : Room k X.A) (hx : Passes CX X E) (ha : PA X (e :: es) t) (hg : Gl X x := by rfl) (hdb : (x == ("__debug__" : Str)) = false := by decide)
    (he : starEach (e :: es) X.env = (false, eval e X.env) :: starEach es X.env := by rfl) (hpl : (backTo pos (starEach es X.env)).any (·.1) = false := by rfl) :
    PE X (.Call (.Name x p) (e :: es) [] pos) (tCall sp dvs E t) := by
  obtain ⟨f, fd, ds, G, g, kp, b, v⟩ := C.ex
  exact pe_call G hr hg g kp b v hx ha hdb he hpl
theorem pe_cal0 (C : Cal X.prog X.w X.K X.mg X.base CX k x ps dvs sp) (hr : Room k X.A) (hx : Passes CX X E) (hg : Gl X x := by rfl) (hdb : (x == ("__debug__" : Str)) = false := by decide) :
    PE X (.Call (.Name x p) [] [] pos) (tCall sp dvs E tNil) := by
  obtain ⟨f, fd, ds, G, g, kp, b, v⟩ := C.ex
  exact pe_call0 G hr hg g kp b v hx hdb
end
section
variable {X : Cx} {CX : CXT} {k : Nat} {ps : List Str} {sp : Sp} {E : L2.St → XK} {x : Str} {p pos : Pos} {e : Expr} {es : List Expr} {t : TA}
theorem pe_calS (C : Cal X.prog X.w X.K X.mg X.base CX k x ps [] sp) (hr : Room k X.A) (hx : ∀ σ, PassesAt CX X σ (E σ)) (ha : PA X (e :: es) t) (hg : Gl X x := by rfl) (hdb : (x == ("__debug__" : Str)) = false := by decide)
    (he : starEach (e :: es) X.env = (false, eval e X.env) :: starEach es X.env := by rfl) (hpl : (backTo pos (starEach es X.env)).any (·.1) = false := by rfl) :
    PE X (.Call (.Name x p) (e :: es) [] pos) (tCallS sp E t) := by
  obtain ⟨f, fd, ds, G, g, kp, b, v⟩ := C.ex
  cases v
  exact pe_callS G hr hg g kp b hx ha hdb he hpl
end
/-! ### an instance made by an __init__ that may raise, in a try's body -/
section
variable {X : Cx} {CX : CXT} {k : Nat} {f C : Addr} {fd : FuncData} {ps : List Str} {sp : Sp} {E : L2.St → XK} {x : Str} {p pos : Pos} {e : Expr} {es : List Expr} {t : TA}
theorem run_newS {pins : List (Addr × Obj)} {σ : L2.St} {H : Hp} {s : Shared} {Q : VK} {us : List Value} {vs : List V} (M : Mk X.K C f) (F : FnOk X.prog X.w X.K X.mg X.base CX k f fd ps sp) (hr : Room (k + 1) X.A) (hb : Binds X.K fd ps [])
    (hx : PassesAt CX X σ (E σ)) (I : Inv X pins σ H s) (r : Vals vs us)
    (h : ∀ y dy, H y = none → H dy = none → dy ≠ y → sp (.ref y :: vs) (upd (upd H dy (.own y)) y (.ins C dy [])) (fun v H2 => v = .non ∧ Q (.ref y) H2) (E σ)) :
    wpAny (model X.prog X.w) X.A (call (.ref C) us) (EP X pins σ Q) X.xe s := by
  have n1 : H (s.heap.objs.size + 1) = none := I.hok.fresh (Nat.le_succ _)
  have n0 : H s.heap.objs.size = none := I.hok.fresh (Nat.le_refl _)
  have todo := h _ _ n1 n0 (Nat.ne_of_lt (Nat.lt_succ_self _))
  have J := Inv.made (C := C) I
  have rr : Vals (V.ref (s.heap.objs.size + 1) :: vs) (Value.ref (s.heap.objs.size + 1) :: us) := .cons rfl r
  have ln : (Value.ref (s.heap.objs.size + 1) :: us).length = ps.length := by
    have e1 := rr.length
    have e2 := F.len _ _ _ _ todo
    omega
  have bb := hb _ (Value.ref (s.heap.objs.size + 1) :: us) J.kIn (by rw [List.append_nil]; exact ln)
  rw [List.append_nil] at bb
  refine wpAny_call (make_map (f := f) I.kIn M.makes M.init (beq_iff_eq.mp M.fn) (codeAny_mono
    (F.run _ X.stack _ _ ⟨Value.ref (s.heap.objs.size + 1) :: us, []⟩ _ _ _ (E σ) (hr.make C us []) (J.env0.make C us []) bb rr todo) fun r s' z => ?_))
  cases r with
  | error er => exact hx pins _ _ er s' J z
  | ok fl =>
    cases fl with
    | ret u =>
      obtain ⟨v, H', I3, rv, ev, q3⟩ := J.after z
      subst ev
      exact ⟨rv, V.ref (s.heap.objs.size + 1), H', I3, rfl, q3⟩
    | next => exact z.elim
    | brk => exact z.elim
    | cont => exact z.elim
def tNewS (C : Addr) (sp : Sp) (E : L2.St → XK) (t : TA) : TE := fun σ H Q => t σ H fun vs H1 => ∀ y dy, H1 y = none → H1 dy = none → dy ≠ y →
  sp (.ref y :: vs) (upd (upd H1 dy (.own y)) y (.ins C dy [])) (fun v H2 => v = .non ∧ Q (.ref y) H2) (E σ)
theorem pe_newS (M : Mk X.K C f) (F : FnOk X.prog X.w X.K X.mg X.base CX k f fd ps sp) (hr : Room (k + 1) X.A) (hm : X.mg x = some (.ref C)) (hb : Binds X.K fd ps []) (hx : ∀ σ, PassesAt CX X σ (E σ))
    (ha : PA X (e :: es) t) (hg : Gl X x := by rfl) (hdb : (x == ("__debug__" : Str)) = false := by decide) (he : starEach (e :: es) X.env = (false, eval e X.env) :: starEach es X.env := by rfl)
    (hpl : (backTo pos (starEach es X.env)).any (·.1) = false := by rfl) : PE X (.Call (.Name x p) (e :: es) [] pos) (tNewS C sp E t) := by
  refine ⟨fun pins s σ H Q I h => wpAny_Call_Name_kw (ld_glob I hg hm ?_ hdb)⟩
  refine PySem.W.callWith_K (h₀ := X.base) I.ok.mod.kin M.kp (thn (ha.run pos pins s σ H _ I h) fun us s1 ⟨vs, H1, I1, r, q⟩ => ⟨I1.kIn, ?_⟩) he hpl
  exact run_newS M F hr hb (hx σ) I1 r q
end
/-! ### isinstance of a caught exception, its dict there or not -/
def rIsX (K : PySem.W.Frag) (D a : Addr) (cls : Value) (d : Option Addr) : List V → Hp → VK → Prop := fun xs H Q => cls = .ref D ∧ (∀ dd, d = some dd → ∃ o, H dd = some o) ∧ rIsE K D a xs H Q
theorem call_isX {X : Cx} {a D : Addr} {oe : Obj} {cls : Value} {d : Option Addr} {pn : List (Addr × Obj)} (T : ExcC X.K D) (hz : Zc cls d oe) (hf : ∃ vs, oe.data = .fields vs) : CallR (X.suite a ((a, oe) :: pn)) (.builtin "isinstance") (rIsX X.K D a cls d) := by
  intro pins s σ H xs us Q I r h
  obtain ⟨rfl, there, c, cv, b, rfl, hcv, e, q⟩ := h
  obtain ⟨u1, u2, rfl, r1, r2⟩ := vals2 r
  obtain rfl : u1 = Value.ref a := r1
  obtain rfl := hcv _ r2
  have got := (I.pin (a, oe) (List.mem_append_left _ List.mem_cons_self)).1
  obtain ⟨vs, hv⟩ := hf
  have nc : PySem.W.notCls oe := by
    unfold PySem.W.notCls
    rw [hv]
  obtain ⟨od, hod⟩ : ∃ od : Option Obj, PySem.W.InstAt s.heap a oe D od := by
    cases d with
    | none => exact ⟨none, got, hz.1, nc, by rw [hz.2]; trivial⟩
    | some dd =>
      obtain ⟨o, ho⟩ := there dd rfl
      obtain ⟨u, hu⟩ := objOk_get (I.hok dd o ho)
      exact ⟨some u, got, hz.1, nc, by rw [hz.2]; exact hu⟩
  exact PySem.W.kia_one (PySem.W.kitx_exc (od := od) (by obtain ⟨cd, hc, _⟩ := PySem.W.any_some T.hd; rw [hc]; rfl) T.hg T.hk T.hs T.ha T.hn T.ht T.hm) I.kIn hod e (fun z => nomatch z) fun tk => ⟨.bl b, H, I.kept (t' := tk) fun _ _ z => z, rfl, q⟩
/-! ### repr of data that stands in the heap: asked where no repr runs around -/
def rReprD (K : PySem.W.Frag) : List V → Hp → VK → Prop := fun xs H Q => ∃ (x : V) (d : PyData), xs = [x] ∧ Dp K H x d ∧ (∃ a, x = .ref a) ∧ d.showable = true ∧ d.hasDict = false ∧ d.depth ≤ 60 ∧ d.shown.length ≤ sizeLine ∧ Q (.str d.shown) H
theorem call_reprD {X : Cx} (hg : X.A.guards = some []) (hu : X.A.units + 64 < cLine) : CallR X (.builtin "repr") (rReprD X.K) := by
  intro pins s σ H xs us Q I r h
  obtain ⟨x, d, rfl, hD, ⟨a, rfl⟩, hs, hno, hdp, hl, q⟩ := h
  obtain ⟨u, rfl, r1⟩ := vals1 r
  obtain rfl : u = Value.ref a := r1
  obtain ⟨as, rd⟩ := Dp.reads I d _ _ hD rfl
  refine repr_of_reads' rd hs (fun z => by rw [hno] at z; cases z) hg (by omega) (fun _ _ e => e) (fun h' t tk hk => ⟨.str d.shown, H, I.kept (t' := tk) hk, ⟨t, rfl⟩, q⟩) hl
/-! ### defs that ask for this: their promise is kept where no repr runs around -/
structure FnG (P : Program) (w : World) (K : PySem.W.Frag) (mg : Str → Option Value) (base : Heap) (CX : CXT) (k : Nat) (f : Addr) (fd : FuncData) (ps : List Str) (sp : Sp) : Prop where
  len : ∀ vs H Q E, sp vs H Q E → vs.length = ps.length
  run : ∀ (A : Around) (outer : List Env) (s : Shared) (H : Hp) (args : Args) (us : List Value) (vs : List V) (Q : VK) (E : XK), A.guards = some [] → Room k A → Env0 P w K mg base A outer s H → BindsTo s fd args (ps.zip us) → Vals vs us →
    sp vs H Q E → codeAny (model P w) A (.call (.ref f) args) (CR CX outer P w H s Q E) s
theorem FnG.of {P : Program} {w : World} {K : PySem.W.Frag} {mg : Str → Option Value} {base : Heap} {CX : CXT} {k : Nat} {f : Addr} {fd : FuncData} {ps : List Str} {sp : Sp} (F : FnOk P w K mg base CX k f fd ps sp) : FnG P w K mg base CX k f fd ps sp :=
  ⟨F.len, fun A outer s H args us vs Q E _ => F.run A outer s H args us vs Q E⟩
section
variable {P : Program} {w : World} {K : PySem.W.Frag} {mg : Str → Option Value} {base : Heap} {x qual : Str} {params : Arguments} {body : List Stmt} {scope : Scope} {dvs : List V} {kws : List (Str × V)} {f : Addr} {fd : FuncData} {CX : CXT} {N ps : List Str} {k : Nat} {sp : Sp}
theorem funG (F : FunD K x qual params body scope dvs kws f fd) (S : FnScope N ps scope) (len : ∀ vs H Q E, sp vs H Q E → vs.length = ps.length)
    (hbody : ∀ (cdv : Value) (A : Around) (outer : List Env) (s : Shared) (H : Hp) (vs : List V) (Q : VK) (E : XK), A.guards = some [] → Room k (A.deeper (envOfC qual scope s.heap.objs.size f cdv)) → sp vs H Q E →
      ∃ t, PSs (cxOf CX P w K mg base N qual scope f cdv A outer s H E) body t ∧ t { nx := fun _ H' => Q .non H', rt := Q } (start N vs) H) : FnG P w K mg base CX (k + 1) f fd ps sp := by
  obtain ⟨oc, od, dV, kV, doc, pm, an, cdv, ct, osl, rfl, lk, hcd, -, -⟩ := F.ex
  refine ⟨len, fun A outer s H args us vs Q E gd hr e0 hb r todo => ?_⟩
  have hlen := len _ _ _ _ todo
  have inH : K.In s.heap := e0.mod.kin.keeps fun b o z => (e0.bs b o z).1
  have noLim : s.heap.NoLimit := e0.mod.nolimit.keeps fun b o z => (e0.bs b o z).1
  refine codeAny_call_function hr.depth (inH _ _ lk) rfl S.co S.gen rfl (PySem.W.codeRec_of inH hcd) (hb _ _ _ _ (wpAny_newFunctionEnv_cells S.kind (fun y hy => ?_) fun env he s1 entered => ?_))
  · rcases S.par y.1 (List.of_mem_zip (show (y.1, y.2) ∈ ps.zip us from hy)).1 with c | c
    · exact .inl c
    · exact .inr ⟨c, PySem.W.cellsFrom_some _ _ _ (.inl c)⟩
  · subst he
    obtain ⟨t, ht, hq⟩ := hbody cdv A outer s H vs Q E gd (hr.deeper _) todo
    have J : Inv (cxOf CX P w K mg base N qual scope f cdv A outer s H E) [] (start N vs) H s1 := inv_start S hr.hd e0 hlen r entered
    refine ⟨noLim.keeps entered.toInCall.keep, codeAny_func (wpAny_mono (ht.run [] s1 (start N vs) H _ J hq) (fun fl s' over => ?_) fun _ _ z => z)⟩
    cases fl with
    | ret u => exact let ⟨v, _, H', J', rv, qv⟩ := over; ⟨v, H', J'.os, J'.bare, J'.base, J'.hok, rv, qv⟩
    | next => exact let ⟨_, H', J', qv⟩ := over; ⟨V.non, H', J'.os, J'.bare, J'.base, J'.hok, rfl, qv⟩
    | brk => exact let ⟨_, _, _, z⟩ := over; False.elim z
    | cont => exact let ⟨_, _, _, z⟩ := over; False.elim z
end
structure CalG (P : Program) (w : World) (K : PySem.W.Frag) (mg : Str → Option Value) (base : Heap) (CX : CXT) (k : Nat) (x : Str) (ps : List Str) (dvs : List V) (sp : Sp) : Prop where
  ex : ∃ (f : Addr) (fd : FuncData) (ds : List Value), FnG P w K mg base CX k f fd ps sp ∧ mg x = some (.ref f) ∧ PySem.W.keepIn K (.ref f) = true ∧ Binds K fd ps ds ∧ Vals dvs ds
section
variable {X : Cx} {CX : CXT} {k : Nat} {ps : List Str} {sp : Sp} {dvs : List V} {E : XK} {x : Str} {p pos : Pos} {e : Expr} {es : List Expr} {t : TA}
theorem pe_calG (C : CalG X.prog X.w X.K X.mg X.base CX k x ps dvs sp) (gd : X.A.guards = some []) (hr : Room k X.A) (hx : Passes CX X E) (ha : PA X (e :: es) t) (hg : Gl X x := by rfl) (hdb : (x == ("__debug__" : Str)) = false := by decide)
    (he : starEach (e :: es) X.env = (false, eval e X.env) :: starEach es X.env := by rfl) (hpl : (backTo pos (starEach es X.env)).any (·.1) = false := by rfl) :
    PE X (.Call (.Name x p) (e :: es) [] pos) (tCall sp dvs E t) := by
  obtain ⟨f, fd, ds, G, g, kp, hb, hd⟩ := C.ex
  refine ⟨fun pins s σ H Q I h => wpAny_Call_Name_kw (ld_glob I hg g ?_ hdb)⟩
  refine PySem.W.callWith_K (h₀ := X.base) I.ok.mod.kin kp (thn (ha.run pos pins s σ H _ I h) fun us s1 ⟨vs, H1, I1, r, q⟩ => ⟨I1.kIn, ?_⟩) he hpl
  have rr : Vals (vs ++ dvs) (us ++ ds) := r.append hd
  have ln : (us ++ ds).length = ps.length := rr.length.symm.trans (G.len _ _ _ _ q)
  refine wpAny_call (codeAny_mono (G.run X.A X.stack s1 H1 ⟨us, []⟩ _ _ Q E gd hr I1.env0 (hb s1 us I1.kIn ln) rr q) fun res s' z => ?_)
  cases res with
  | error er => exact hx pins σ H1 s1 er s' I1 z
  | ok fl =>
    cases fl with
    | ret u => exact I1.after z
    | next => exact z.elim
    | brk => exact z.elim
    | cont => exact z.elim
end
/-! ### the law's end, its def's promise kept where no repr runs around -/
section
open PySem.W
/-- the heap in which the script alone is tracked (as the object that it is), or nothing -/
def scriptH (K : Frag) (a : Addr) (vs : List Value) (ns : List Int) : Hp := fun b => if b = a ∧ K.lookup a = none then some (.frz { cls := .type "list", data := .seq vs.toArray } (.lst (ns.map V.int))) else none
theorem scriptH_some {K : Frag} {a b : Addr} {vs : List Value} {ns : List Int} {u : HO} (h : scriptH K a vs ns b = some u) : b = a ∧ K.lookup a = none ∧ u = .frz { cls := .type "list", data := .seq vs.toArray } (.lst (ns.map V.int)) := by
  unfold scriptH at h
  split at h
  · rename_i c
    exact ⟨c.1, c.2, (Option.some.inj h).symm⟩
  · cases h
theorem law_callG {P : Program} {w : World} {K : Frag} {mg mb : Str → Option Value} {CX : CXT} {k : Nat} {fa a : Addr} {fd : FuncData} {x : Str} {sp : Sp} {s₁ : Shared} {vs : List Value} {ns : List Int}
    (KX : K.In s₁.heap) (hns : s₁.heap.Ns mainGlobals mg) (hb : s₁.heap.Ns builtinsNs mb) (hbb : ∀ x : Str, x ≠ "__name__" → mb x = bootBuiltins x) (hlim : s₁.heap.NoLimit) (hg : s₁.gens = #[])
    (ha : s₁.heap.get? a = some { cls := .type "list", data := .seq vs.toArray }) (hi : IntsAre vs ns) (hl : ns.length ≤ sizeLine) (hr : Room k callerA)
    (F : ∀ base : Heap, K.In base → base.Ns mainGlobals mg → FnG P w K mg base CX k fa fd [x] sp) (hbind : ∀ (s : Shared) (u : Value), BindsTo s fd ⟨[u], []⟩ [(x, u)])
    (hsp : ∀ H : Hp, Only H → SqL K H a (ns.map V.int) → sp [.ref a] H (fun v _ => v = .bl true) fun _ _ _ => False) (hCX : ∀ H e s', CX [] H s₁ (fun _ _ _ => False) e s' → False) :
    codeAny (model P w) callerA (.call (.ref fa) ⟨[.ref a], []⟩) (fun r s' => r = .ok (.ret (.bool true)) ∧ OldK s₁.heap s'.heap ∧ s'.os = s₁.os ∧ AllBare s'.gens) s₁ := by
  generalize hH : scriptH K a vs ns = H
  have only : Only H := fun b => by
    cases q : H b with
    | none => exact .inl rfl
    | some u =>
      rw [← hH] at q
      obtain ⟨-, -, rfl⟩ := scriptH_some q
      exact .inr ⟨_, _, rfl⟩
  have ok : HOk P w H s₁.heap := fun b u q => by
    rw [← hH] at q
    obtain ⟨rfl, -, rfl⟩ := scriptH_some q
    exact ⟨ha, by rw [List.length_map]; exact hl, vs, _, vals_ints hi, ha⟩
  have isA : ∀ b u, H b = some u → b = a ∧ K.lookup a = none := fun b u q => by
    rw [← hH] at q
    exact ⟨(scriptH_some q).1, (scriptH_some q).2.1⟩
  have seen : SqL K H a (ns.map V.int) := by
    cases hk : K.lookup a with
    | some o =>
      have z := KX a o hk
      rw [ha] at z
      cases z
      exact .inr ⟨_, vs.toArray, _, hk, rfl, rfl, rfl, by rw [List.size_toArray, hi.length]; exact hl, by simpa using vals_ints hi⟩
    | none => exact .inl (.inr ⟨{ cls := .type "list", data := .seq vs.toArray }, by rw [← hH]; unfold scriptH; rw [if_pos ⟨rfl, hk⟩]⟩)
  have dictFree : ∀ {b : Addr} {o : Obj} {es : Array DictEntry} {ep : Nat}, s₁.heap.get? b = some o → o.data = .dict es ep → H b = none := fun {b o es ep} e d => by
    cases q : H b with
    | none => rfl
    | some u =>
      obtain ⟨rfl, -⟩ := isA b u q
      rw [ha] at e
      cases e
      cases d
  have nsOn : ∀ {b : Addr} {m : Str → Option Value}, s₁.heap.Ns b m → (hidT s₁.heap H).Ns b m := fun {b m} ⟨o, es, ep, e, d, r⟩ => ⟨o, es, ep, hidT_get e (dictFree e d), d, r⟩
  have kinB : K.In (hidT s₁.heap H) := fun b o e => hidT_get (KX b o e) (by
    cases q : H b with
    | none => rfl
    | some u =>
      obtain ⟨rfl, z⟩ := isA b u q
      rw [z] at e
      cases e)
  have e0 : Env0 P w K mg (hidT s₁.heap H) callerA [] s₁ H :=
    ⟨rfl, ⟨kinB, nsOn hns, ⟨mb, nsOn hb, hbb⟩, let ⟨mc, h1, h2⟩ := hlim; ⟨mc, nsOn h1, h2⟩⟩, fun b o e => of_hidT e, Nat.le_of_eq (hidT_size _ _), trivial, fun b hb => absurd (show b ∈ ([] : List Addr) from hb) (by simp), ok, .of_eq hg⟩
  refine codeAny_mono ((F _ kinB (nsOn hns)).run callerA [] s₁ H ⟨[.ref a], []⟩ [.ref a] [.ref a] _ _ rfl hr e0 (hbind s₁ (.ref a)) (.cons rfl .nil) (hsp H only seen)) fun res s' z => ?_
  cases res with
  | error e => exact (hCX H e s' z).elim
  | ok fl =>
    cases fl with
    | ret u =>
      obtain ⟨v, H', os, bare, un, hok', rv, qv⟩ := z
      have ev : v = .bl true := qv
      subst ev
      obtain rfl : u = Value.bool true := rv
      refine ⟨rfl, OldK.of_keep fun b o e => ?_, os, bare⟩
      cases q : H b with
      | none => exact un.keep b o e q (fun z => absurd (show b ∈ ([] : List Addr) from z) (by simp)) (by simp)
      | some u =>
        rcases only b with z | ⟨ob, xs, z⟩
        · rw [z] at q
          cases q
        · have now := (hok' b _ (un.frzs b ob _ z)).1
          have old := (ok b _ z).1
          rw [e] at old
          cases old
          exact now
    | next => exact z.elim
    | brk => exact z.elim
    | cont => exact z.elim
theorem walk_ofG {l : PySem.W.OpenLaw} {n k : Nat} {q : Program} {loose : List Str} {XP : (Str → Option Value) → Heap → Prop} {YP : World → Heap → Prop} {d : DefRec} {CX : CXT} {x : Str}
    (hn : l.most = some n) (hn2 : n ≤ sizeLine) (hdf : d.params.defaults = []) (hr : Room k callerA)
    (F : ∀ (w : World) (mg : Str → Option Value) (fa : Addr) (h : Heap), YP w h → h.Ns mainGlobals mg → mg d.name = some (.ref fa) →
      ∃ (K : PySem.W.Frag) (fd : FuncData) (sp : Sp), K.In h ∧ (∀ (s : Shared) (u : Value), BindsTo s fd ⟨[u], []⟩ [(x, u)]) ∧
        (∀ (H : Hp) (a : Addr) (ns : List Int), ns.length ≤ n → Only H → SqL K H a (ns.map V.int) → sp [.ref a] H (fun v _ => v = .bl true) fun _ _ _ => False) ∧
        ∀ base : Heap, K.In base → base.Ns mainGlobals mg → FnG l.prog w K mg base CX k fa fd [x] sp)
    (hCX : ∀ (H : Hp) (s : Shared) (e : Value) (s' : Shared), CX [] H s (fun _ _ _ => False) e s' → False) : PySem.W.WalkO q loose XP YP l.row.toRowW d [] (fun f vs => PySem.call f vs) := by
  refine Att.attach_call hn hdf fun w s₀ s₁ mg mb fa o pm cd doc a vs ns G Y _ _ _ hmg hobj hints hlen hg => ?_
  obtain ⟨K, fd, sp, KX, hbd, hsp, hF⟩ := F w mg fa _ Y G.T.g hmg
  exact law_callG KX G.T.g G.T.b G.T.builtins G.T.nolimit hg hobj hints (Nat.le_trans hlen hn2) hr hF hbd (fun H hO hS => hsp H a ns hlen hO hS) fun H e s' => hCX H s₁ e s'
end
/-! ### facts of the top, told by one Bool -/
section
open PySem.W
def obsF (fb : Frag → Bool) (fn : List He.DefD) (K : Frag) : He.AlD := (fb K && fn.all fun d => d.ok K, fn.map fun d => He.fnW K d.at_)
def SaysF (fb : Frag → Bool) (fn : List He.DefD) (K : Frag) : Prop := obsF fb fn K = He.valD fn
def obsFG (n : Nat) (fb : Frag → Bool) (fn : List He.DefD) (g : Addr → Option Obj) : He.AlD := obsF fb fn (He.frG g (He5.asA g n))
def hookF (n : Nat) (fb : Frag → Bool) (fn : List He.DefD) : Hook where
  α := He.AlD
  obs := fun s => obsFG n fb fn s.heap.get?
  val := fun _ => He.valD fn
  says := fun _ h => ∃ K : Frag, K.In h ∧ SaysF fb fn K
  of := fun _ _ e => ⟨_, He.frG_in, e⟩
  keeps := fun _ _ _ ⟨K, inK, c⟩ k => ⟨K, Frag.In.keeps inK k, c⟩
theorem obsFG_eq {n : Nat} {fb : Frag → Bool} {fn : List He.DefD} {g : Addr → Option Obj} {s : Shared} (h : ∀ a, g a = s.heap.get? a) : obsFG n fb fn g = (hookF n fb fn).obs s := by
  obtain rfl : g = s.heap.get? := funext h
  rfl
theorem SaysF.all {fb : Frag → Bool} {fn : List He.DefD} {K : Frag} (c : SaysF fb fn K) : fb K = true ∧ ∀ d ∈ fn, d.ok K = true := by
  have z : (fb K && fn.all fun d => d.ok K) = true := congrArg (fun z : He.AlD => z.1) c
  exact ⟨(Bool.and_eq_true_iff.mp z).1, List.all_eq_true.mp (Bool.and_eq_true_iff.mp z).2⟩
theorem SaysF.def_ {fb : Frag → Bool} {fn : List He.DefD} {K : Frag} (c : SaysF fb fn K) {d : He.DefD} (h : d ∈ fn) : ∃ fd, FunD K d.name d.qual d.params d.body d.scope (d.dvs K) (d.kws K) (He.fAd K d.at_) fd := by
  have e : fn.map (fun d => He.fnW K d.at_) = fn.map He.DefD.val := congrArg (fun z : He.AlD => z.2) c
  exact He.DefD.funD (List.map_inj_left.mp e d h) (c.all.2 d h)
end
/-! ### an own exception class with an __init__ of its own, as one Bool -/
section
open PySem.W
def oexB (K : Frag) (C : Addr) : Bool := (match K.lookup C with
  | some ⟨.type "type", _, .cls cd, sl⟩ => (match cd.mro, sl.toList with
    | .ref C' :: bm, [_, _, _, _, some (.builtin n), _] => C' == C && (n == "ValueError.__new__" && (!cd.hasDel && (cd.hasDict && HandSPX.refsVE bm)))
    | _, _ => false)
  | _ => false) && (decide (findIn K (.ref C) "__setattr__" = some (some (.builtin "object.__setattr__"))) && (decide (subIn K (.ref C) (.type "BaseException") = some true) && (decide (typeIn K (.ref C) = some (.type "type")) && keepIn K (.ref C))))
theorem oexB_ok {K : Frag} {C : Addr} (h : oexB K C = true) : OexC K C := by
  obtain ⟨h1, h⟩ := He.ba h
  obtain ⟨h2, h⟩ := He.ba h
  obtain ⟨h3, h⟩ := He.ba h
  obtain ⟨h4, h5⟩ := He.ba h
  refine ⟨?_, of_decide_eq_true h2, of_decide_eq_true h3, of_decide_eq_true h4, h5⟩
  split at h1
  · rename_i dd cd sl found
    split at h1
    · rename_i C' bm k0 k1 k2 k3 n k5 isMro isSl
      obtain ⟨e1, h1⟩ := He.ba h1
      obtain ⟨e2, h1⟩ := He.ba h1
      obtain ⟨e3, h1⟩ := He.ba h1
      obtain ⟨e4, e5⟩ := He.ba h1
      obtain rfl := beq_iff_eq.mp e1
      obtain rfl := beq_iff_eq.mp e2
      obtain ⟨nm, bs, mro, ns, qn, hd, sn, sub, ab, col, del⟩ := cd
      obtain ⟨l⟩ := sl
      dsimp only at isMro isSl e3 e4
      subst isMro isSl e4
      obtain rfl : del = false := by simpa using e3
      exact ⟨nm, qn, ns, bs, bm, sn, sub, ab, col, dd, k0, k1, k2, k3, k5, found, e5⟩
    · cases h1
  · cases h1
def excB (K : Frag) (D : Addr) : Bool := decide (findIn K (.ref D) "__getattribute__" = some (some (.builtin "BaseException.__getattribute__"))) && (decide (findIn K (.ref D) "__getattr__" = some none) && (decide (subIn K (.ref D) (.type "BaseException") = some true) && (hasDictIn K D &&
  (decide (findIn K (.ref D) "__class__" = some (some (.builtin "object.__class__"))) && (decide (specialIn K (.builtin "object.__class__") "__get__" = some (some (.builtin "getset_descriptor.__get__"))) && (decide (takesIn K (.builtin "object.__class__") = some true) && decide (mroIn K D (.type "object") = some true)))))))
theorem excB_ok {K : Frag} {D : Addr} (h : excB K D = true) : ExcC K D := by
  obtain ⟨h1, h⟩ := He.ba h
  obtain ⟨h2, h⟩ := He.ba h
  obtain ⟨h3, h⟩ := He.ba h
  obtain ⟨h4, h⟩ := He.ba h
  obtain ⟨h5, h⟩ := He.ba h
  obtain ⟨h6, h⟩ := He.ba h
  obtain ⟨h7, h8⟩ := He.ba h
  exact ⟨of_decide_eq_true h1, of_decide_eq_true h2, of_decide_eq_true h3, h4, of_decide_eq_true h5, of_decide_eq_true h6, of_decide_eq_true h7, of_decide_eq_true h8⟩
theorem xfC_of {K : Frag} {D : Addr} (h : ExcC K D) : XfC K D := ⟨h.hg, h.hk, h.hs, h.hd⟩
end
/-! ### constants of the top; heaps that part at one address alone; the laws' bag of draws -/
section
variable {X : Cx} {x : Str} {pos : Pos}
theorem pe_gint {i : Int} (h : ∃ t, X.mg x = some (.int i t)) (hg : Gl X x := by rfl) (hd : (x == ("__debug__" : Str)) = false := by decide) : PE X (.Name x pos) (tC (.int i)) := by
  obtain ⟨t, e⟩ := h
  exact pe_glob hg e ⟨t, rfl⟩ hd
theorem pe_gstr {z : Str} (h : ∃ t, X.mg x = some (.str z t)) (hg : Gl X x := by rfl) (hd : (x == ("__debug__" : Str)) = false := by decide) : PE X (.Name x pos) (tC (.str z)) := by
  obtain ⟨t, e⟩ := h
  exact pe_glob hg e ⟨t, rfl⟩ hd
end
/-- H' is H but at b -/
def Off (b : Addr) (H H' : Hp) : Prop := ∀ a, a ≠ b → H' a = H a
theorem Off.refl (b : Addr) (H : Hp) : Off b H H := fun _ _ => rfl
theorem Off.trans {b : Addr} {H H1 H2 : Hp} (h : Off b H H1) (h' : Off b H1 H2) : Off b H H2 := fun a n => (h' a n).trans (h a n)
theorem Off.upd {b : Addr} {H : Hp} {o : HO} : Off b H (upd H b o) := fun _ n => upd_ne n
theorem Off.at {b a : Addr} {H H' : Hp} {o : HO} (h : Off b H H') (n : a ≠ b) (e : H a = some o) : H' a = some o := (h a n).trans e
theorem same_new {H : Hp} {p : Addr} {o : HO} (h : H p = none) : Same H (upd H p o) := fun b x e => by
  rw [upd_ne (ne_of_none e h)]
  exact e
/-- all that was tracked, but for the object at b, is as it was -/
def Kb (b : Addr) (H H' : Hp) : Prop := ∀ a o, a ≠ b → H a = some o → H' a = some o
theorem Kb.refl (b : Addr) (H : Hp) : Kb b H H := fun _ _ _ e => e
theorem Kb.trans {b : Addr} {H H1 H2 : Hp} (h : Kb b H H1) (h' : Kb b H1 H2) : Kb b H H2 := fun a o n e => h' a o n (h a o n e)
theorem Off.kb {b : Addr} {H H' : Hp} (h : Off b H H') : Kb b H H' := fun _ _ n e => h.at n e
theorem Kb.of_same {b : Addr} {H H' : Hp} (h : Same H H') : Kb b H H' := fun a o _ e => h a o e
theorem kb_new {b : Addr} {H : Hp} {p : Addr} {o : HO} (h : H p = none) : Kb b H (L2.upd H p o) := .of_same (same_new h)
abbrev bagO (c : Addr) (p r k m : Int) : HO := .lst [.ref c, .int p, .int r, .int k, .int m]
/-- a bag at b, its cells at c, of which at most n draws were made -/
def BagAt (H : Hp) (b c : Addr) (n : Int) : Prop := ∃ (ns : List Int) (p : Nat) (r k m : Int), H b = some (bagO c p r k m) ∧ H c = some (.lst (ns.map V.int)) ∧ 0 ≤ k ∧ k ≤ n ∧ 0 ≤ m ∧ m < 2147483647
theorem BagAt.mono {H : Hp} {b c : Addr} {n n' : Int} (h : BagAt H b c n) (l : n ≤ n') : BagAt H b c n' := by
  obtain ⟨ns, p, r, k, m, h1, h2, h3, h4, h5, h6⟩ := h
  exact ⟨ns, p, r, k, m, h1, h2, h3, Int.le_trans h4 l, h5, h6⟩
theorem BagAt.there {H : Hp} {b c : Addr} {n : Int} (h : BagAt H b c n) : (∃ o, H b = some o) ∧ ∃ o, H c = some o := by
  obtain ⟨ns, p, r, k, m, h1, h2, _⟩ := h
  exact ⟨⟨_, h1⟩, _, h2⟩
theorem BagAt.new {H : Hp} {a b c : Addr} {n : Int} (h : BagAt H b c n) (na : H a = none) : a ≠ b ∧ a ≠ c := by
  obtain ⟨⟨_, h1⟩, _, h2⟩ := h.there
  exact ⟨(ne_of_none h1 na).symm, (ne_of_none h2 na).symm⟩
theorem BagAt.two {H : Hp} {b c : Addr} {n : Int} (h : BagAt H b c n) : c ≠ b := fun z => by
  obtain ⟨ns, p, r, k, m, h1, h2, _⟩ := h
  rw [z, h1] at h2
  cases ns with
  | nil => cases h2
  | cons n ns => cases h2
/-- the bag stays where what was tracked stays -/
theorem BagAt.same {H H' : Hp} {b c : Addr} {n : Int} (h : BagAt H b c n) (e : Same H H') : BagAt H' b c n := by
  obtain ⟨ns, p, r, k, m, h1, h2, h3⟩ := h
  exact ⟨ns, p, r, k, m, e _ _ h1, e _ _ h2, h3⟩
theorem BagAt.upd {H : Hp} {a b c : Addr} {n : Int} {o : HO} (h : BagAt H b c n) (nb : a ≠ b) (nc : a ≠ c) : BagAt (L2.upd H a o) b c n := by
  obtain ⟨ns, p, r, k, m, h1, h2, h3⟩ := h
  exact ⟨ns, p, r, k, m, by rw [upd_ne nb.symm]; exact h1, by rw [upd_ne nc.symm]; exact h2, h3⟩
theorem BagAt.updNew {H : Hp} {a b c : Addr} {n : Int} {o : HO} (h : BagAt H b c n) (na : H a = none) : BagAt (L2.upd H a o) b c n := h.upd (h.new na).1 (h.new na).2
/-- _law_bag(script) -/
def spBag (K : PySem.W.Frag) : Sp := fun vs H Q _ => ∃ (a : Addr) (ns : List Int), vs = [.ref a] ∧ SqL K H a (ns.map V.int) ∧ ∀ b c H', H b = none → H c = none → Same H H' → BagAt H' b c 0 → Q (.ref b) H'
/-- _law_draw(bag, limit): a number from 0 to limit - 1, the bag turned -/
def spDraw : Sp := fun vs H Q _ => ∃ (b c : Addr) (lim n : Int), vs = [.ref b, .int lim] ∧ BagAt H b c n ∧ 0 < lim ∧ lim < 2 ^ 200 ∧ n < 2 ^ 60 ∧ ∀ (r : Int) (H' : Hp), 0 ≤ r → r < lim → Off b H H' → BagAt H' b c (n + 1) → Q (.int r) H'
theorem cut63 {ns : List Int} : cutV (ns.map V.int) none (some 63) = (ns.take 63).map V.int := by
  unfold cutV
  rw [show HT.sIx (ns.map V.int).length (ns.map V.int).length (some 63) = min 63 (ns.map V.int).length from HT.sIx_nat _ _ 63, HT.sIx_none, List.drop_zero, Nat.sub_zero, ← List.map_take]
  congr 1
  rw [List.length_map, Nat.min_comm]
  by_cases h : ns.length ≤ 63
  · rw [Nat.min_eq_left h, List.take_of_length_le (Nat.le_refl _), List.take_of_length_le h]
  · rw [Nat.min_eq_right (by omega)]
/-! ### own exceptions whose __init__ stores its arguments, one a field -/
/-- __init__(self, ..) of the class at C keeps this: the fields are fs of the arguments -/
def spXI (C : Addr) (n : Nat) (fs : List V → List (Str × V)) : Sp := fun vs H Q _ => ∃ (a : Addr) (ws : List V), vs = .ref a :: ws ∧ ws.length = n ∧ H a = some (exo a C none) ∧
  ∀ dx, H dx = none → dx ≠ a → Q .non (L2.upd (L2.upd H dx (exd dx (fs ws))) a (exo a C (some dx)))
/-- C(e, ..): for every new d the error, its dict at d -/
def tMkF (C : Addr) (n : Nat) (fs : List V → List (Str × V)) (ta : TA) : L2.St → Hp → XK → Prop := fun σ H Q => ta σ H fun vs H1 => vs.length = n ∧ ∀ d, H1 d = none → Q (.ref C) (some d) (L2.upd H1 d (.xd (fs vs)))
theorem pmk_fld {X : Cx} {CX : CXT} {x : Str} {C fI : Addr} {k n : Nat} {fd : FuncData} {ps : List Str} {fs : List V → List (Str × V)} {e : Expr} {es : List Expr} {ta : TA} {p pos : Pos} (T : OexC X.K C) (iC : PySem.W.findIn X.K (.ref C) "__init__" = some (some (.ref fI))) (tI : PySem.W.typeIn X.K (.ref fI) = some (.type "function"))
    (F1 : FnOk X.prog X.w X.K X.mg X.base CX k fI fd ps (spXI C n fs)) (hr : Room (k + 1) X.A) (hb : Binds X.K fd ps []) (hx : Passes CX X (fun _ _ _ => False)) (hm : X.mg x = some (.ref C)) (hn : n ≤ 1000) (ha : PA X (e :: es) ta)
    (mono : ∀ σ H (R R' : List V → Hp → Prop), (∀ vs H1, R vs H1 → R' vs H1) → ta σ H R → ta σ H R') (hg : Gl X x := by rfl)
    (hdb : (x == ("__debug__" : Str)) = false := by decide) (he : starEach (e :: es) X.env = (false, eval e X.env) :: starEach es X.env := by rfl) (hpl : (backTo pos (starEach es X.env)).any (·.1) = false := by rfl) :
    PMk X (.Call (.Name x p) (e :: es) [] pos) (tMkF C n fs ta) := by
  have base := pmk_oex (p := p) (pos := pos) (dvs := []) (ds := []) T iC tI F1 hr hb .nil hx hg hm ha hdb he hpl
  intro pins s σ H Q I h
  refine base pins s σ H Q I (mono σ H _ _ (fun vs H1 q => ?_) h)
  obtain ⟨hl, q⟩ := q
  refine ⟨by omega, fun a na => ⟨a, vs, by rw [List.append_nil], hl, upd_same, fun dx nd ne => ⟨rfl, dx, fs vs, upd_same, by rw [upd_ne ne, upd_same], ?_, ?_⟩⟩⟩
  · rw [upd_ne ne] at nd
    exact nd
  · have nd1 : H1 dx = none := by
      rw [upd_ne ne] at nd
      exact nd
    have e : L2.upd (L2.del (L2.upd (L2.upd (L2.upd H1 a (exo a C none)) dx (exd dx (fs vs))) a (exo a C (some dx))) a) dx (.xd (fs vs)) = L2.upd H1 dx (.xd (fs vs)) := by
      funext b
      by_cases h1 : b = dx
      · rw [h1, upd_same, upd_same]
      · rw [upd_ne h1, upd_ne h1]
        by_cases h2 : b = a
        · rw [h2, del_same, na]
        · rw [del_ne h2, upd_ne h2, upd_ne h1, upd_ne h2]
    rw [e]
    exact q dx nd1
theorem xi_two {H : Hp} {a dx C : Addr} {f1 f2 : Str} {y1 y2 : V} (ne : dx ≠ a) : L2.upd (L2.upd (L2.upd H dx (exd dx [(f1, y1)])) a (exo a C (some dx))) dx (exd dx [(f2, y2), (f1, y1)]) = L2.upd (L2.upd H dx (exd dx [(f2, y2), (f1, y1)])) a (exo a C (some dx)) := by
  funext b
  by_cases h1 : b = dx
  · rw [h1, upd_same, upd_ne ne, upd_same]
  · by_cases h2 : b = a
    · rw [h2, upd_ne ne.symm, upd_same, upd_same]
    · rw [upd_ne h1, upd_ne h2, upd_ne h1, upd_ne h2, upd_ne h1]
/-! ### what a value is, by its built-in class -/
inductive Kn (H : Hp) : V → String → Prop
  | non : Kn H .non "NoneType"
  | bl (b : Bool) : Kn H (.bl b) "bool"
  | int (i : Int) : Kn H (.int i) "int"
  | str (x : Str) : Kn H (.str x) "str"
  | lst {a : Addr} {xs : List V} (e : H a = some (.lst xs)) : Kn H (.ref a) "list"
  | tup {a : Addr} {xs : List V} (e : H a = some (.tup xs)) : Kn H (.ref a) "tuple"
  | dct {a : Addr} {kvs : List (Key × V)} (e : H a = some (.dK kvs)) : Kn H (.ref a) "dict"
theorem Kn.ty {K : PySem.W.Frag} {H : Hp} {v : V} {T : String} (h : Kn H v T) : TyX K H v (.type T) := by
  cases h with
  | non => exact .base .non
  | bl b => exact .base (.bl b)
  | int i => exact .base (.int i)
  | str x => exact .base (.str x)
  | lst e => exact .base (.lst e)
  | tup e => exact .base (.tup e)
  | dct e => exact .base (.dK e)
def wholeV (v : V) (lo hi : Int) : Bool := match v with
  | .int i => decide (lo ≤ i) && decide (i ≤ hi)
  | _ => false
/-- an int, a truth, or neither -/
theorem Kn.whole {K : PySem.W.Frag} {H : Hp} {v : V} {T : String} (h : Kn H v T) : (∃ i, v = .int i ∧ PySem.W.kitOne K (.type T) (.type "int") = some true ∧ PySem.W.kitOne K (.type T) (.type "bool") = some false) ∨
    (((PySem.W.kitOne K (.type T) (.type "int") = some true ∧ PySem.W.kitOne K (.type T) (.type "bool") = some true) ∨ PySem.W.kitOne K (.type T) (.type "int") = some false) ∧ (∀ i, v ≠ .int i) ∧ ∀ lo hi, wholeV v lo hi = false) := by
  cases h with
  | int i => exact .inl ⟨i, rfl, kit_ty (by decide +kernel), kit_ty (by decide +kernel)⟩
  | bl b => exact .inr ⟨.inl ⟨kit_ty (by decide +kernel), kit_ty (by decide +kernel)⟩, (fun _ z => nomatch z), fun _ _ => rfl⟩
  | non => exact .inr ⟨.inr (kit_ty (by decide +kernel)), (fun _ z => nomatch z), fun _ _ => rfl⟩
  | str x => exact .inr ⟨.inr (kit_ty (by decide +kernel)), (fun _ z => nomatch z), fun _ _ => rfl⟩
  | lst e => exact .inr ⟨.inr (kit_ty (by decide +kernel)), (fun _ z => nomatch z), fun _ _ => rfl⟩
  | tup e => exact .inr ⟨.inr (kit_ty (by decide +kernel)), (fun _ z => nomatch z), fun _ _ => rfl⟩
  | dct e => exact .inr ⟨.inr (kit_ty (by decide +kernel)), (fun _ z => nomatch z), fun _ _ => rfl⟩
/-- isinstance(v, (list, tuple)) -/
def seqT (T : String) : Bool := decide (T = "list") || decide (T = "tuple")
theorem Kn.seq {K : PySem.W.Frag} {H : Hp} {v : V} {T : String} (h : Kn H v T) : PySem.W.kitAny K (.type T) [.type "list", .type "tuple"] = some (seqT T) := by
  have two : ∀ {a b : Bool}, PySem.W.kitOne K (.type T) (.type "list") = some a → PySem.W.kitOne K (.type T) (.type "tuple") = some b → PySem.W.kitAny K (.type T) [.type "list", .type "tuple"] = some (a || b) := fun {a b} e1 e2 =>
    kitAny_cons e1 (fun ea => by rw [ea]; exact kitAny_cons e2 (fun eb => by rw [eb]; exact kitAny_nil) (fun eb => by rw [eb]; rfl)) (fun ea => by rw [ea]; rfl)
  cases h with
  | int i => exact two (a := false) (b := false) (kit_ty (by decide +kernel)) (kit_ty (by decide +kernel))
  | bl b => exact two (a := false) (b := false) (kit_ty (by decide +kernel)) (kit_ty (by decide +kernel))
  | non => exact two (a := false) (b := false) (kit_ty (by decide +kernel)) (kit_ty (by decide +kernel))
  | str x => exact two (a := false) (b := false) (kit_ty (by decide +kernel)) (kit_ty (by decide +kernel))
  | lst e => exact two (a := true) (b := false) (kit_ty (by decide +kernel)) (kit_ty (by decide +kernel))
  | tup e => exact two (a := false) (b := true) (kit_ty (by decide +kernel)) (kit_ty (by decide +kernel))
  | dct e => exact two (a := false) (b := false) (kit_ty (by decide +kernel)) (kit_ty (by decide +kernel))
/-- the items of a list or a tuple; none of another thing -/
def seqOf (H : Hp) : V → Option (List V)
  | .ref a => match H a with
    | some (.lst xs) => some xs
    | some (.tup xs) => some xs
    | _ => none
  | _ => none
theorem Kn.seqSome {H : Hp} {v : V} {T : String} (h : Kn H v T) : (seqT T = true ∧ ∃ a xs, v = .ref a ∧ seqOf H v = some xs ∧ ((H a = some (.lst xs)) ∨ H a = some (.tup xs))) ∨ (seqT T = false ∧ seqOf H v = none) := by
  cases h with
  | @lst a xs e => exact .inl ⟨rfl, a, xs, rfl, by simp only [seqOf, e], .inl e⟩
  | @tup a xs e => exact .inl ⟨rfl, a, xs, rfl, by simp only [seqOf, e], .inr e⟩
  | dct e => exact .inr ⟨rfl, by simp only [seqOf, e]⟩
  | int i => exact .inr ⟨rfl, rfl⟩
  | bl b => exact .inr ⟨rfl, rfl⟩
  | non => exact .inr ⟨rfl, rfl⟩
  | str x => exact .inr ⟨rfl, rfl⟩
theorem seqOf_lst {H : Hp} {a : Addr} {xs : List V} (h : H a = some (.lst xs)) : seqOf H (.ref a) = some xs := by simp only [seqOf, h]
theorem seqOf_tup {H : Hp} {a : Addr} {xs : List V} (h : H a = some (.tup xs)) : seqOf H (.ref a) = some xs := by simp only [seqOf, h]
theorem Kn.keep {H H' : Hp} {v : V} {T : String} (h : Kn H v T) (k : ∀ a o, v = .ref a → H a = some o → H' a = some o) : Kn H' v T := by
  cases h with
  | non => exact .non
  | bl b => exact .bl b
  | int i => exact .int i
  | str x => exact .str x
  | lst e => exact .lst (k _ _ rfl e)
  | tup e => exact .tup (k _ _ rfl e)
  | dct e => exact .dct (k _ _ rfl e)
theorem Kn.same {H H' : Hp} {v : V} {T : String} (h : Kn H v T) (k : Same H H') : Kn H' v T := h.keep fun a o _ e => k a o e
theorem Kn.seqOf {H H' : Hp} {v : V} {T : String} (h : Kn H v T) (k : Same H H') : seqOf H' v = Q.seqOf H v := by
  cases h with
  | lst e => simp only [Q.seqOf, k _ _ e, e]
  | tup e => simp only [Q.seqOf, k _ _ e, e]
  | dct e => simp only [Q.seqOf, k _ _ e, e]
  | _ => rfl
theorem seqOf_same {H H' : Hp} {v : V} {xs : List V} (h : seqOf H v = some xs) (k : Same H H') : seqOf H' v = some xs := by
  cases v with
  | ref a =>
    simp only [seqOf] at h ⊢
    cases e : H a with
    | none => rw [e] at h; cases h
    | some o =>
      rw [k _ _ e]
      rw [e] at h
      exact h
  | _ => cases h
/-- is_whole(thing, low, high), all three given -/
def spWhole : Sp := fun vs H Q _ => ∃ (v : V) (lo hi : Int) (T : String), vs = [v, .int lo, .int hi] ∧ Kn H v T ∧ Q (.bl (wholeV v lo hi)) H
/-! ### a list or a tuple, whichever -/
def Sq (K : PySem.W.Frag) (H : Hp) (a : Addr) (xs : List V) : Prop := SqL K H a xs ∨ SqT K H a xs
theorem sq_of {K : PySem.W.Frag} {H : Hp} {a : Addr} {xs : List V} (h : H a = some (.lst xs) ∨ H a = some (.tup xs)) : Sq K H a xs := h.elim (fun e => .inl (SqL.of e)) fun e => .inr (SqT.of e)
theorem sqT_same {K : PySem.W.Frag} {H H' : Hp} {a : Addr} {xs : List V} (e : Same H H') (h : SqT K H a xs) : SqT K H' a xs := by
  rcases h with (h | ⟨o, h⟩) | h
  · exact .inl (.inl (e _ _ h))
  · exact .inl (.inr ⟨o, e _ _ h⟩)
  · exact .inr h
theorem Sq.same {K : PySem.W.Frag} {H H' : Hp} {a : Addr} {xs : List V} (h : Sq K H a xs) (e : Same H H') : Sq K H' a xs := h.elim (fun z => .inl (e.seq z)) fun z => .inr (sqT_same e z)
theorem rix_of {K : PySem.W.Frag} {H : Hp} {a : Addr} {xs : List V} {i : Int} {v : V} {R : VK} (h : Sq K H a xs) (e : atI xs i = some v) (q : R v H) : rIx K (.ref a) (.int i) H R :=
  h.elim (fun z => .inl ⟨a, xs, i, v, rfl, rfl, z, e, q⟩) fun z => .inr (.inl ⟨a, xs, i, v, rfl, rfl, z, e, q⟩)
@[irreducible] def rTupOf (K : PySem.W.Frag) : List V → Hp → VK → Prop := fun xs H R => ∃ p ys, xs = [V.ref p] ∧ ((SqL K H p ys ∧ ∀ l, H l = none → R (.ref l) (L2.upd H l (.tup ys))) ∨ (SqT K H p ys ∧ R (.ref p) H))
theorem call_tupOf {X : Cx} : CallR X (.type "tuple") (rTupOf X.K) := by
  unfold rTupOf
  exact call_tuple_of
theorem tupOf_of {K : PySem.W.Frag} {H : Hp} {a : Addr} {xs : List V} {R : VK} (h : Sq K H a xs) (q : ∀ (l : Addr) (H' : Hp), SqT K H' l xs → Same H H' → (∀ b, H b = none → b ≠ l → H' b = none) → R (.ref l) H') : rTupOf K [.ref a] H R := by
  unfold rTupOf
  exact ⟨a, xs, rfl, h.elim (fun z => .inl ⟨z, fun l hl => q l _ (SqT.of upd_same) (same_new hl) fun b e n => by rw [upd_ne n]; exact e⟩) fun z => .inr ⟨z, q a H z (Same.refl H) fun b e _ => e⟩⟩
/-! ### rows of whole numbers as data -/
theorem dpAll_ints {K : PySem.W.Frag} {H : Hp} : ∀ ns : List Int, DpAll K H (ns.map V.int) (ns.map PyData.int)
  | [] => .nil
  | n :: ns => .cons (.int n) (dpAll_ints ns)
theorem lay_ints : ∀ ns : List Int, PyData.canLayAll0 (ns.map PyData.int) = true
  | [] => rfl
  | n :: ns => by
    show (true && PyData.canLayAll0 (ns.map PyData.int)) = true
    rw [lay_ints ns]
    rfl
theorem depth_ints : ∀ ns : List Int, PyData.depthAll (ns.map PyData.int) = 0
  | [] => rfl
  | n :: ns => by
    show max 0 (PyData.depthAll (ns.map PyData.int)) = 0
    rw [depth_ints ns]
    rfl
theorem shaped_ints (ns : List Int) : SeqAt.shaped (.tuple (ns.map PyData.int)) = true := by
  show (PyData.canLayAll0 (ns.map PyData.int) && decide (PyData.depthAll (ns.map PyData.int) + 1 ≤ 64)) = true
  rw [lay_ints, depth_ints]
  rfl
theorem eqvAll_ints : ∀ ns ms : List Int, PyData.eqvAll (ns.map PyData.int) (ms.map PyData.int) = decide (ns = ms)
  | [], [] => rfl
  | [], _ :: _ => rfl
  | _ :: _, [] => rfl
  | n :: ns, m :: ms => by
    show ((n == m) && PyData.eqvAll (ns.map PyData.int) (ms.map PyData.int)) = _
    rw [eqvAll_ints ns ms]
    by_cases h : n = m
    · subst h
      rw [beq_self_eq_true, Bool.true_and]
      by_cases h2 : ns = ms
      · rw [decide_eq_true h2, h2]
        exact (decide_eq_true rfl).symm
      · rw [decide_eq_false h2]
        exact (decide_eq_false fun z => h2 (List.cons.inj z).2).symm
    · rw [beq_eq_false_iff_ne.mpr h, Bool.false_and]
      exact (decide_eq_false fun z => h (List.cons.inj z).1).symm
theorem eqv_ints (ns ms : List Int) : PyData.eqv (.tuple (ns.map PyData.int)) (.tuple (ms.map PyData.int)) = decide (ns = ms) := eqvAll_ints ns ms
theorem dp_ints {K : PySem.W.Frag} {H : Hp} {p : Addr} {ns : List Int} (h : SqT K H p (ns.map V.int)) : Dp K H (.ref p) (.tuple (ns.map PyData.int)) := .tup h (dpAll_ints ns)
theorem ix_nat {n j : Nat} (h : j < n) : ixN n (j : Int) = some j := by
  unfold ixN
  rw [if_pos (by omega), if_pos (by omega), Int.toNat_natCast]
/-- tuple(a list that stands) is new -/
theorem tupL_of {K : PySem.W.Frag} {H : Hp} {a : Addr} {xs : List V} {R : VK} (h : SqL K H a xs) (q : ∀ l : Addr, H l = none → R (.ref l) (L2.upd H l (.tup xs))) : rTupOf K [.ref a] H R := by
  unfold rTupOf
  exact ⟨a, xs, rfl, .inl ⟨h, q⟩⟩
/-! ### data stand where what was tracked stands -/
mutual
theorem dp_same {K : PySem.W.Frag} {H H' : Hp} (e : Same H H') : ∀ (d : PyData) (v : V), Dp K H v d → Dp K H' v d
  | .none, _, h => by
    cases h
    exact .non
  | .bool b, _, h => by
    cases h
    exact .bl b
  | .int i, _, h => by
    cases h
    exact .int i
  | .str x, _, h => by
    cases h
    exact .str x
  | .list ds, _, h => by
    cases h with
    | lst s a => exact .lst (e.seq s) (dpAll_same e ds _ a)
  | .tuple ds, _, h => by
    cases h with
    | tup s a => exact .tup (sqT_same e s) (dpAll_same e ds _ a)
  | .dict _, _, h => by cases h
theorem dpAll_same {K : PySem.W.Frag} {H H' : Hp} (e : Same H H') : ∀ (ds : List PyData) (vs : List V), DpAll K H vs ds → DpAll K H' vs ds
  | [], _, h => by
    cases h
    exact .nil
  | d :: ds, _, h => by
    cases h with
    | cons a b => exact .cons (dp_same e d _ a) (dpAll_same e ds _ b)
end
end Q

set_option maxRecDepth 100000
set_option maxHeartbeats 4000000
namespace K01
open PySem PySem.Spec PyProof.Rows L2 Q
def topS (i : Nat) : Stmt := PySem.Challenge.pw_fewfetches_k01_boxes_refused_in_order.main.body.getD i (.Pass ⟨0, 0, 0, 0⟩)
abbrev FnP (K : PySem.W.Frag) (x qual : Str) (st : Stmt) (dvs : List V) (f : Addr) (fd : FuncData) : Prop := FunD K x qual (defArgs st) (defBody st) (defScope st) dvs [] f fd
abbrev s_BadBox___init__ : Stmt := inClass (topS 3) 0
theorem sc_BadBox___init__ : FnScope ["self", "what", "at"] ["self", "what", "at"] (defScope s_BadBox___init__) := ⟨rfl, rfl, rfl, by decide +kernel, rfl, by decide +kernel, by decide +kernel⟩
abbrev s_is_whole : Stmt := topS 5
theorem sc_is_whole : FnScope ["thing", "low", "high"] ["thing", "low", "high"] (defScope s_is_whole) := ⟨rfl, rfl, rfl, by decide +kernel, rfl, by decide +kernel, by decide +kernel⟩
abbrev s_Box___init__ : Stmt := inClass (topS 9) 0
theorem sc_Box___init__ : FnScope ["self", "lows", "highs", "at", "low", "high"] ["self", "lows", "highs"] (defScope s_Box___init__) := ⟨rfl, rfl, rfl, by decide +kernel, rfl, by decide +kernel, by decide +kernel⟩
abbrev s__law_bag : Stmt := topS 11
theorem sc__law_bag : FnScope ["script", "cell"] ["script"] (defScope s__law_bag) := ⟨rfl, rfl, rfl, by decide +kernel, rfl, by decide +kernel, by decide +kernel⟩
abbrev s__law_draw : Stmt := topS 12
theorem sc__law_draw : FnScope ["bag", "limit", "digit", "cell", "mixed", "twice"] ["bag", "limit"] (defScope s__law_draw) := ⟨rfl, rfl, rfl, by decide +kernel, rfl, by decide +kernel, by decide +kernel⟩
abbrev s__law_odd : Stmt := topS 13
theorem sc__law_odd : FnScope ["bag", "low"] ["bag", "low"] (defScope s__law_odd) := ⟨rfl, rfl, rfl, by decide +kernel, rfl, by decide +kernel, by decide +kernel⟩
abbrev s__law_whole : Stmt := topS 14
theorem sc__law_whole : FnScope ["thing", "low", "high"] ["thing", "low", "high"] (defScope s__law_whole) := ⟨rfl, rfl, rfl, by decide +kernel, rfl, by decide +kernel, by decide +kernel⟩
abbrev s__law_due : Stmt := topS 15
theorem sc__law_due : FnScope ["lows", "highs", "k"] ["lows", "highs"] (defScope s__law_due) := ⟨rfl, rfl, rfl, by decide +kernel, rfl, by decide +kernel, by decide +kernel⟩
abbrev s__law_told : Stmt := topS 16
theorem sc__law_told : FnScope ["lows", "highs", "made", "e"] ["lows", "highs"] (defScope s__law_told) := ⟨rfl, rfl, rfl, by decide +kernel, rfl, by decide +kernel, by decide +kernel⟩
abbrev s_law : Stmt := topS 17
theorem sc_law : FnScope ["script", "bag", "turn", "columns", "lows", "highs", "k", "end", "low", "wrong", "at", "one", "other", "choice", "before"] ["script"] (defScope s_law) := ⟨rfl, rfl, rfl, by decide +kernel, rfl, by decide +kernel, by decide +kernel⟩
/-! ### what the top has written -/
structure Tx (K : PySem.W.Frag) (mg : Str → Option Value) : Prop where
  n_ValueError : mg "ValueError" = none
  n_abs : mg "abs" = none
  n_bool : mg "bool" = none
  n_int : mg "int" = none
  n_isinstance : mg "isinstance" = none
  n_len : mg "len" = none
  n_list : mg "list" = none
  n_range : mg "range" = none
  n_repr : mg "repr" = none
  n_tuple : mg "tuple" = none
  n_zip : mg "zip" = none
  c_MOST_COLUMNS : ∃ t, mg "MOST_COLUMNS" = some (.int (5) t)
  c_HIGHEST : ∃ t, mg "HIGHEST" = some (.int (64) t)
  g_FetchError : mg "FetchError" = some (.ref (He.ga K "FetchError"))
  x_FetchError : ExcC K (He.ga K "FetchError")
  e_FetchError : PySem.W.exmOne K (.ref (He.ga K "FetchError")) (.ref (He.ga K "FetchError")) = some true
  b_FetchError : PySem.W.excIn K (He.ga K "FetchError") He.veBase "ValueError.__new__" = true
  k_FetchError : PySem.W.keepIn K (.ref (He.ga K "FetchError")) = true
  g_BadBox : mg "BadBox" = some (.ref (He.ga K "BadBox"))
  x_BadBox : ExcC K (He.ga K "BadBox")
  e_BadBox : PySem.W.exmOne K (.ref (He.ga K "BadBox")) (.ref (He.ga K "BadBox")) = some true
  o_BadBox : OexC K (He.ga K "BadBox")
  i_BadBox : PySem.W.findIn K (.ref (He.ga K "BadBox")) "__init__" = some (some (.ref (He.ma K (He.ga K "BadBox") "__init__")))
  t_BadBox : PySem.W.typeIn K (.ref (He.ma K (He.ga K "BadBox") "__init__")) = some (.type "function")
  noat_BadBox_what : PySem.W.findIn K (.ref (He.ga K "BadBox")) "what" = some none
  noat_BadBox_at : PySem.W.findIn K (.ref (He.ga K "BadBox")) "at" = some none
  g_Box : mg "Box" = some (.ref (He.ga K "Box"))
  cls_Box : Cls K (He.ga K "Box")
  mk_Box : Mk K (He.ga K "Box") (He.ma K (He.ga K "Box") "__init__")
  m_Box_holds : Meth K (He.ga K "Box") "holds" (He.ma K (He.ga K "Box") "holds")
  noat_Box_lows : PySem.W.findIn K (.ref (He.ga K "Box")) "lows" = some none
  noat_Box_highs : PySem.W.findIn K (.ref (He.ga K "Box")) "highs" = some none
  noat_Box_told : PySem.W.findIn K (.ref (He.ga K "Box")) "told" = some none
  noat_Box_size : PySem.W.findIn K (.ref (He.ga K "Box")) "size" = some none
  kit_BadBox_FetchError : PySem.W.kitOne K (.ref (He.ga K "BadBox")) (.ref (He.ga K "FetchError")) = some true
  kit_BadBox_ValueError : PySem.W.kitOne K (.ref (He.ga K "BadBox")) (.type "ValueError") = some true
  d_BadBox___init__ : ∃ fd, FnP K "__init__" "BadBox.__init__" s_BadBox___init__ [] (He.ma K (He.ga K "BadBox") "__init__") fd
  g_is_whole : mg "is_whole" = some (.ref (He.ga K "is_whole"))
  d_is_whole : ∃ fd, FnP K "is_whole" "is_whole" s_is_whole [.non, .non] (He.ga K "is_whole") fd
  d_Box___init__ : ∃ fd, FnP K "__init__" "Box.__init__" s_Box___init__ [] (He.ma K (He.ga K "Box") "__init__") fd
  g__law_bag : mg "_law_bag" = some (.ref (He.ga K "_law_bag"))
  d__law_bag : ∃ fd, FnP K "_law_bag" "_law_bag" s__law_bag [] (He.ga K "_law_bag") fd
  g__law_draw : mg "_law_draw" = some (.ref (He.ga K "_law_draw"))
  d__law_draw : ∃ fd, FnP K "_law_draw" "_law_draw" s__law_draw [] (He.ga K "_law_draw") fd
  g__law_odd : mg "_law_odd" = some (.ref (He.ga K "_law_odd"))
  d__law_odd : ∃ fd, FnP K "_law_odd" "_law_odd" s__law_odd [] (He.ga K "_law_odd") fd
  g__law_whole : mg "_law_whole" = some (.ref (He.ga K "_law_whole"))
  d__law_whole : ∃ fd, FnP K "_law_whole" "_law_whole" s__law_whole [] (He.ga K "_law_whole") fd
  g__law_due : mg "_law_due" = some (.ref (He.ga K "_law_due"))
  d__law_due : ∃ fd, FnP K "_law_due" "_law_due" s__law_due [] (He.ga K "_law_due") fd
  g__law_told : mg "_law_told" = some (.ref (He.ga K "_law_told"))
  d__law_told : ∃ fd, FnP K "_law_told" "_law_told" s__law_told [] (He.ga K "_law_told") fd
  g_law : mg "law" = some (.ref (He.ga K "law"))
  d_law : ∃ fd, FnP K "law" "law" s_law [] (He.ga K "law") fd
def fb0 (K : PySem.W.Frag) : Bool := (He.Fa.free "ValueError").ok K && ((He.Fa.free "abs").ok K && ((He.Fa.free "bool").ok K && ((He.Fa.free "int").ok K && ((He.Fa.free "isinstance").ok K && ((He.Fa.free "len").ok K && ((He.Fa.free "list").ok K && ((He.Fa.free "range").ok K && ((He.Fa.free "repr").ok K && ((He.Fa.free "tuple").ok K && ((He.Fa.free "zip").ok K && ((He.Fa.int "MOST_COLUMNS" (5)).ok K)))))))))))
def fb1 (K : PySem.W.Frag) : Bool := (He.Fa.int "HIGHEST" (64)).ok K && ((He.Fa.glo "FetchError").ok K && (excB K (He.ga K "FetchError") && (decide (PySem.W.exmOne K (.ref (He.ga K "FetchError")) (.ref (He.ga K "FetchError")) = some true) && (PySem.W.excIn K (He.ga K "FetchError") He.veBase "ValueError.__new__" && (PySem.W.keepIn K (.ref (He.ga K "FetchError")) && ((He.Fa.glo "BadBox").ok K && (excB K (He.ga K "BadBox") && (decide (PySem.W.exmOne K (.ref (He.ga K "BadBox")) (.ref (He.ga K "BadBox")) = some true) && (oexB K (He.ga K "BadBox") && (decide (PySem.W.findIn K (.ref (He.ga K "BadBox")) "__init__" = some (some (.ref (He.ma K (He.ga K "BadBox") "__init__")))) && (decide (PySem.W.typeIn K (.ref (He.ma K (He.ga K "BadBox") "__init__")) = some (.type "function")))))))))))))
def fb2 (K : PySem.W.Frag) : Bool := decide (PySem.W.findIn K (.ref (He.ga K "BadBox")) "what" = some none) && (decide (PySem.W.findIn K (.ref (He.ga K "BadBox")) "at" = some none) && ((He.Fa.glo "Box").ok K && ((He.Fa.cls "Box").ok K && ((He.Fa.mkr "Box").ok K && ((He.Fa.meth "Box" "holds").ok K && (decide (PySem.W.findIn K (.ref (He.ga K "Box")) "lows" = some none) && (decide (PySem.W.findIn K (.ref (He.ga K "Box")) "highs" = some none) && (decide (PySem.W.findIn K (.ref (He.ga K "Box")) "told" = some none) && (decide (PySem.W.findIn K (.ref (He.ga K "Box")) "size" = some none) && (decide (PySem.W.kitOne K (.ref (He.ga K "BadBox")) (.ref (He.ga K "FetchError")) = some true) && (decide (PySem.W.kitOne K (.ref (He.ga K "BadBox")) (.type "ValueError") = some true))))))))))))
def fb3 (K : PySem.W.Frag) : Bool := (He.Fa.glo "is_whole").ok K && ((He.Fa.glo "_law_bag").ok K && ((He.Fa.glo "_law_draw").ok K && ((He.Fa.glo "_law_odd").ok K && ((He.Fa.glo "_law_whole").ok K && ((He.Fa.glo "_law_due").ok K && ((He.Fa.glo "_law_told").ok K && ((He.Fa.glo "law").ok K)))))))
def fb (K : PySem.W.Frag) : Bool := fb0 K && (fb1 K && (fb2 K && (fb3 K)))
def dd_BadBox___init__ : He.DefD := ⟨("BadBox", some "__init__"), "__init__", "BadBox.__init__", defArgs s_BadBox___init__, defBody s_BadBox___init__, defScope s_BadBox___init__, [], []⟩
def dd_is_whole : He.DefD := ⟨("is_whole", none), "is_whole", "is_whole", defArgs s_is_whole, defBody s_is_whole, defScope s_is_whole, [.non, .non], []⟩
def dd_Box___init__ : He.DefD := ⟨("Box", some "__init__"), "__init__", "Box.__init__", defArgs s_Box___init__, defBody s_Box___init__, defScope s_Box___init__, [], []⟩
def dd__law_bag : He.DefD := ⟨("_law_bag", none), "_law_bag", "_law_bag", defArgs s__law_bag, defBody s__law_bag, defScope s__law_bag, [], []⟩
def dd__law_draw : He.DefD := ⟨("_law_draw", none), "_law_draw", "_law_draw", defArgs s__law_draw, defBody s__law_draw, defScope s__law_draw, [], []⟩
def dd__law_odd : He.DefD := ⟨("_law_odd", none), "_law_odd", "_law_odd", defArgs s__law_odd, defBody s__law_odd, defScope s__law_odd, [], []⟩
def dd__law_whole : He.DefD := ⟨("_law_whole", none), "_law_whole", "_law_whole", defArgs s__law_whole, defBody s__law_whole, defScope s__law_whole, [], []⟩
def dd__law_due : He.DefD := ⟨("_law_due", none), "_law_due", "_law_due", defArgs s__law_due, defBody s__law_due, defScope s__law_due, [], []⟩
def dd__law_told : He.DefD := ⟨("_law_told", none), "_law_told", "_law_told", defArgs s__law_told, defBody s__law_told, defScope s__law_told, [], []⟩
def dd_law : He.DefD := ⟨("law", none), "law", "law", defArgs s_law, defBody s_law, defScope s_law, [], []⟩
def fn : List He.DefD := [dd_BadBox___init__, dd_is_whole, dd_Box___init__, dd__law_bag, dd__law_draw, dd__law_odd, dd__law_whole, dd__law_due, dd__law_told, dd_law]
theorem tx_of {K : PySem.W.Frag} {h : Heap} {mg : Str → Option Value} (X : K.In h) (G : h.Ns mainGlobals mg) (c : SaysF fb fn K) : Tx K mg := by
  have top := c.all.1
  obtain ⟨z0, top⟩ := He.ba top
  obtain ⟨z1, top⟩ := He.ba top
  obtain ⟨z2, top⟩ := He.ba top
  have z3 := top
  obtain ⟨q0_0, z0⟩ := He.ba z0
  obtain ⟨q0_1, z0⟩ := He.ba z0
  obtain ⟨q0_2, z0⟩ := He.ba z0
  obtain ⟨q0_3, z0⟩ := He.ba z0
  obtain ⟨q0_4, z0⟩ := He.ba z0
  obtain ⟨q0_5, z0⟩ := He.ba z0
  obtain ⟨q0_6, z0⟩ := He.ba z0
  obtain ⟨q0_7, z0⟩ := He.ba z0
  obtain ⟨q0_8, z0⟩ := He.ba z0
  obtain ⟨q0_9, z0⟩ := He.ba z0
  obtain ⟨q0_10, z0⟩ := He.ba z0
  have q0_11 := z0
  obtain ⟨q1_0, z1⟩ := He.ba z1
  obtain ⟨q1_1, z1⟩ := He.ba z1
  obtain ⟨q1_2, z1⟩ := He.ba z1
  obtain ⟨q1_3, z1⟩ := He.ba z1
  obtain ⟨q1_4, z1⟩ := He.ba z1
  obtain ⟨q1_5, z1⟩ := He.ba z1
  obtain ⟨q1_6, z1⟩ := He.ba z1
  obtain ⟨q1_7, z1⟩ := He.ba z1
  obtain ⟨q1_8, z1⟩ := He.ba z1
  obtain ⟨q1_9, z1⟩ := He.ba z1
  obtain ⟨q1_10, z1⟩ := He.ba z1
  have q1_11 := z1
  obtain ⟨q2_0, z2⟩ := He.ba z2
  obtain ⟨q2_1, z2⟩ := He.ba z2
  obtain ⟨q2_2, z2⟩ := He.ba z2
  obtain ⟨q2_3, z2⟩ := He.ba z2
  obtain ⟨q2_4, z2⟩ := He.ba z2
  obtain ⟨q2_5, z2⟩ := He.ba z2
  obtain ⟨q2_6, z2⟩ := He.ba z2
  obtain ⟨q2_7, z2⟩ := He.ba z2
  obtain ⟨q2_8, z2⟩ := He.ba z2
  obtain ⟨q2_9, z2⟩ := He.ba z2
  obtain ⟨q2_10, z2⟩ := He.ba z2
  have q2_11 := z2
  obtain ⟨q3_0, z3⟩ := He.ba z3
  obtain ⟨q3_1, z3⟩ := He.ba z3
  obtain ⟨q3_2, z3⟩ := He.ba z3
  obtain ⟨q3_3, z3⟩ := He.ba z3
  obtain ⟨q3_4, z3⟩ := He.ba z3
  obtain ⟨q3_5, z3⟩ := He.ba z3
  obtain ⟨q3_6, z3⟩ := He.ba z3
  have q3_7 := z3
  exact ⟨He.free_ok X G q0_0,
    He.free_ok X G q0_1,
    He.free_ok X G q0_2,
    He.free_ok X G q0_3,
    He.free_ok X G q0_4,
    He.free_ok X G q0_5,
    He.free_ok X G q0_6,
    He.free_ok X G q0_7,
    He.free_ok X G q0_8,
    He.free_ok X G q0_9,
    He.free_ok X G q0_10,
    He.int_ok X G q0_11,
    He.int_ok X G q1_0,
    He.glo_ok X G q1_1,
    excB_ok q1_2,
    of_decide_eq_true q1_3,
    q1_4,
    q1_5,
    He.glo_ok X G q1_6,
    excB_ok q1_7,
    of_decide_eq_true q1_8,
    oexB_ok q1_9,
    of_decide_eq_true q1_10,
    of_decide_eq_true q1_11,
    of_decide_eq_true q2_0,
    of_decide_eq_true q2_1,
    He.glo_ok X G q2_2,
    He.cls_ok q2_3,
    He.mkr_ok q2_4,
    He.meth_ok q2_5,
    of_decide_eq_true q2_6,
    of_decide_eq_true q2_7,
    of_decide_eq_true q2_8,
    of_decide_eq_true q2_9,
    of_decide_eq_true q2_10,
    of_decide_eq_true q2_11,
    c.def_ (d := dd_BadBox___init__) (by simp only [fn, List.mem_cons, true_or, or_true]),
    He.glo_ok X G q3_0,
    c.def_ (d := dd_is_whole) (by simp only [fn, List.mem_cons, true_or, or_true]),
    c.def_ (d := dd_Box___init__) (by simp only [fn, List.mem_cons, true_or, or_true]),
    He.glo_ok X G q3_1,
    c.def_ (d := dd__law_bag) (by simp only [fn, List.mem_cons, true_or, or_true]),
    He.glo_ok X G q3_2,
    c.def_ (d := dd__law_draw) (by simp only [fn, List.mem_cons, true_or, or_true]),
    He.glo_ok X G q3_3,
    c.def_ (d := dd__law_odd) (by simp only [fn, List.mem_cons, true_or, or_true]),
    He.glo_ok X G q3_4,
    c.def_ (d := dd__law_whole) (by simp only [fn, List.mem_cons, true_or, or_true]),
    He.glo_ok X G q3_5,
    c.def_ (d := dd__law_due) (by simp only [fn, List.mem_cons, true_or, or_true]),
    He.glo_ok X G q3_6,
    c.def_ (d := dd__law_told) (by simp only [fn, List.mem_cons, true_or, or_true]),
    He.glo_ok X G q3_7,
    c.def_ (d := dd_law) (by simp only [fn, List.mem_cons, true_or, or_true])⟩
section
variable {P : Program} {w : World} {K : PySem.W.Frag} {mg : Str → Option Value} {base : Heap} {f : Addr} {fd : FuncData}
/-! ### the law's bag of draws -/
theorem ok_bag (T : Tx K mg) : ∃ fd, FnOk P w K mg base CX0 1 (He.ga K "_law_bag") fd ["script"] (spBag K) ∧ FnP K "_law_bag" "_law_bag" s__law_bag [] (He.ga K "_law_bag") fd := by
  obtain ⟨fd, F⟩ := T.d__law_bag
  refine ⟨fd, F.ok sc__law_bag (fun vs H Q E h => ?_) (fun cdv A outer s H vs Q E hr h => ?_), F⟩
  · obtain ⟨a, ns, rfl, _⟩ := h
    rfl
  · obtain ⟨a, ns, rfl, hS, k⟩ := h
    refine ⟨_, PSs.nox (pss_one (ps_ret (pe_lst (pa_cons (pe_lc (own := [("cell", 1)]) (g := gName 1) (tt := tYes) (by rfl) sc__law_bag.nd (pi_list (pe_slice sl_list (pv 0) po_none (po_some pe_int))) (blkOk_by (N := ["script", "cell"]) (sc := defScope s__law_bag) (by decide +kernel)) (fun _ _ _ _ _ => (pg_name (i := 1) sc__law_bag.nd rfl (Or.inl rfl))) (fun _ _ _ _ _ => pts_nil) (fun _ _ _ _ _ => (pe_callTy call_int1 (by rfl) T.n_int (by decide +kernel) (pa_cons (pv 1) pa_nil)))) (pa_cons pe_int (pa_cons pe_int (pa_cons pe_int (pa_cons pe_int pa_nil)))))))), ?_⟩
    refine ⟨_, rfl, 63, rfl, a, _, rfl, hS, fun q nq => ?_⟩
    rw [cut63]
    obtain ⟨l, hl, hl63⟩ : ∃ l, l = ns.take 63 ∧ l.length ≤ 63 := ⟨_, rfl, by rw [List.length_take]; omega⟩
    rw [← hl]
    have s1 : Same H (upd H q (.lst (l.map V.int))) := same_new nq
    refine ⟨q, rfl, ⟨_, .inl (.inl upd_same)⟩, fun D nD => ?_⟩
    have nDq : D ≠ q := fun z => by
      rw [z, upd_same] at nD
      cases nD
    have nDH : H D = none := by
      rw [upd_ne nDq] at nD
      exact nD
    refine lc_list (K := K) (a := q) (xs := l.map V.int) (fun i H' => Same H H' ∧ H' q = some (.lst (l.map V.int)) ∧ H' D = some (.lst ((l.take i).map V.int))) ⟨?_, ?_, ?_⟩ (fun i H' _ h => .inl (.inl h.2.1)) ?_ ?_
    · exact s1.trans (same_new nD)
    · rw [upd_ne nDq.symm, upd_same]
    · rw [upd_same]
      rfl
    · rintro i x H' hx ⟨e1, e2, e3⟩
      obtain ⟨z, hz, rfl⟩ : ∃ z, l[i]? = some z ∧ x = V.int z := by
        rw [List.getElem?_map] at hx
        cases e : l[i]? with
        | none =>
          rw [e] at hx
          cases hx
        | some z =>
          rw [e] at hx
          exact ⟨z, rfl, (Option.some.inj hx).symm⟩
      have hi : i < 63 := by
        have h1 := (List.getElem?_eq_some_iff.mp hz).1
        omega
      refine ⟨rfl, ⟨_, rfl, .inl ⟨z, rfl, _, e3, ?_, ?_, ?_, ?_⟩⟩⟩
      · rw [List.length_map, List.length_take]
        exact small1000 (by omega)
      · exact fun b o h => by
          rw [upd_ne (ne_of_none h nDH)]
          exact e1 b o h
      · rw [upd_ne nDq.symm]
        exact e2
      · rw [upd_same, List.take_add_one, hz, List.map_append]
        rfl
    · rintro H' ⟨e1, e2, e3⟩
      rw [List.length_map, List.take_length] at e3
      refine ⟨by show 5 ≤ sizeLine; decide, fun b nb => ?_⟩
      have nbD : b ≠ D := (ne_of_none e3 nb).symm
      refine k b D _ (e1.free nb) nDH (e1.trans (same_new nb)) ⟨l, 0, 0, 0, 20021, upd_same, by rw [upd_ne nbD.symm]; exact e3, by decide, by decide, by decide, by decide⟩
theorem C_bag (T : Tx K mg) : Cal P w K mg base CX0 1 "_law_bag" ["script"] [] (spBag K) := by
  obtain ⟨fd, G, F⟩ := ok_bag (P := P) (w := w) (base := base) T
  exact ⟨_, fd, [], G, T.g__law_bag, F.kp, F.bindsN fun _ _ _ _ _ _ us hl => match us, hl with | [_], _ => rfl, .nil⟩
theorem ok_draw (T : Tx K mg) : ∃ fd, FnOk P w K mg base CX0 1 (He.ga K "_law_draw") fd ["bag", "limit"] spDraw ∧ FnP K "_law_draw" "_law_draw" s__law_draw [] (He.ga K "_law_draw") fd := by
  obtain ⟨fd, F⟩ := T.d__law_draw
  refine ⟨fd, F.ok sc__law_draw (fun vs H Q E h => ?_) (fun cdv A outer s H vs Q E hr h => ?_), F⟩
  · obtain ⟨b, c, lim, n, rfl, _⟩ := h
    rfl
  · obtain ⟨b, c, lim, n, rfl, B, h0, h200, hn, k⟩ := h
    have wd : ∀ i : Int, CDivW i lim := fun i => wide_div h0 (b := 200) (by have := h200; omega) (by decide) (by decide)
    have hcb := B.two
    obtain ⟨ns, p, r, kk, m, hb, hc, k0, kn, m0, m1⟩ := B
    have md : ∀ i : Int, 0 ≤ i % lim ∧ i % lim < lim := fun i => ⟨Int.emod_nonneg i (by omega), Int.emod_lt_of_pos i h0⟩
    refine ⟨_, PSs.nox (pss_cons (ps_asg (pe_op op_add (pe_ix ix_list (pv 0) pe_int (fun _ _ => rfl)) pe_int) (pg_sub (pv 0) pe_int set_list))
      (pss_cons (ps_if (pt_cmpR op_gt (pe_ix ix_list (pv 0) pe_int (fun _ _ => rfl)) pe_int (nomark _))
        (pss_cons (ps_set (i := 2) sc__law_draw.nd rfl (Or.inl rfl) (pe_op op_mod (pe_callTy call_int1 (by rfl) T.n_int (by decide +kernel) (pa_cons (pe_ix ix_list (pv 0) pe_int (fun _ _ => rfl)) pa_nil)) (pv 1)))
        (pss_cons (ps_asg (pe_op op_fdivW (pe_ix ix_list (pv 0) pe_int (fun _ _ => rfl)) (pv 1)) (pg_sub (pv 0) pe_int set_list))
        (pss_one (ps_ret (pv 2)))))
        pss_nil)
      (pss_cons (ps_set (i := 3) sc__law_draw.nd rfl (Or.inl rfl) (pe_ix ix_list (pv 0) pe_int (fun _ _ => rfl)))
      (pss_cons (ps_if (pt_cmpR op_lt (pe_ix ix_list (pv 0) pe_int (fun _ _ => rfl)) (pe_callB call_len_seq (by rfl) T.n_len (by decide +kernel) (pa_cons (pe_ix ix_list (pv 0) pe_int (fun _ _ => rfl)) pa_nil)) (nomark _))
        (pss_cons (ps_set (i := 3) sc__law_draw.nd rfl (Or.inl rfl) (pe_ix ix_list (pe_ix ix_list (pv 0) pe_int (fun _ _ => rfl)) (pe_ix ix_list (pv 0) pe_int (fun _ _ => rfl)) (fun _ _ => rfl)))
        (pss_cons (ps_asg (pe_op op_add (pe_ix ix_list (pv 0) pe_int (fun _ _ => rfl)) pe_int) (pg_sub (pv 0) pe_int set_list))
        (pss_one (ps_if (pt_cmpR op_ge (pe_callB call_abs (by rfl) T.n_abs (by decide +kernel) (pa_cons (pv 3) pa_nil)) (pe_op op_pow pe_int pe_int) (nomark _))
          (pss_cons (ps_asg (pe_op op_fdivW (pe_callB call_abs (by rfl) T.n_abs (by decide +kernel) (pa_cons (pv 3) pa_nil)) (pv 1)) (pg_sub (pv 0) pe_int set_list))
          (pss_one (ps_ret (pe_op op_mod (pe_callTy call_int1 (by rfl) T.n_int (by decide +kernel) (pa_cons (pe_callB call_abs (by rfl) T.n_abs (by decide +kernel) (pa_cons (pv 3) pa_nil)) pa_nil)) (pv 1)))))
          pss_nil))))
        pss_nil)
      (pss_cons (ps_set (i := 4) sc__law_draw.nd rfl (Or.inl rfl) (pe_op op_mod (pe_callTy call_int1 (by rfl) T.n_int (by decide +kernel) (pa_cons (pe_op op_add (pe_op op_add (pe_op op_add (pe_op op_mul (pe_ix ix_list (pv 0) pe_int (fun _ _ => rfl)) pe_int) (pe_op op_mul (pe_op op_mod (pe_callTy call_int1 (by rfl) T.n_int (by decide +kernel) (pa_cons (pv 3) pa_nil)) pe_int) pe_int)) (pe_op op_mul (pe_ix ix_list (pv 0) pe_int (fun _ _ => rfl)) pe_int)) pe_int) pa_nil)) pe_int))
      (pss_cons (ps_asg (pv 4) (pg_sub (pv 0) pe_int set_list))
      (pss_cons (ps_set (i := 5) sc__law_draw.nd rfl (Or.inl rfl) (pe_op op_mod (pe_callTy call_int1 (by rfl) T.n_int (by decide +kernel) (pa_cons (pe_op op_add (pe_op op_add (pe_op op_mul (pv 4) pe_int) (pe_op op_mul (pe_op op_mul (pe_ix ix_list (pv 0) pe_int (fun _ _ => rfl)) (pe_ix ix_list (pv 0) pe_int (fun _ _ => rfl))) pe_int)) (pe_op op_fdiv (pv 4) pe_int)) pa_nil)) pe_int))
      (pss_one (ps_ret (pe_op op_mod (pe_callTy call_int1 (by rfl) T.n_int (by decide +kernel) (pa_cons (pe_op op_fdiv (pv 5) pe_int) pa_nil)) (pv 1))))))))))), ?_⟩
    -- bag[3] = bag[3] + 1
    refine ⟨_, rfl, b, _, 3, _, rfl, rfl, SqL.of hb, rfl, _, _, rfl, rfl, _, rfl, b, _, 3, 3, rfl, rfl, hb, rfl, ?_⟩
    -- the end, from any cell and any state that the branch between has left
    have fin : ∀ (σ2 σ3 σ5 : Option V) (cell : Int) (p' : Nat) (H1 : Hp), Off b H H1 → H1 b = some (bagO c p' r (kk + 1) m) →
        tSeq (tAsg (tOp (rI (fun _ j => 0 < j) fun i j => .int (i % j)) (tCB (fun xs H Q => (∃ i, xs = [.int i] ∧ Q (.int i) H) ∨ ∃ k, xs = [.bl k] ∧ Q (.int (if k then 1 else 0)) H) (tCons (tOp (rI0 fun i j => .int (i + j)) (tOp (rI0 fun i j => .int (i + j)) (tOp (rI0 fun i j => .int (i + j))
          (tOp (rI CMul fun i j => .int (i * j)) (tOp (rIxL K) (tVar 0) (tC (.int 4))) (tC (.int 48271)))
          (tOp (rI CMul fun i j => .int (i * j)) (tOp (rI (fun _ j => 0 < j) fun i j => .int (i % j)) (tCB (fun xs H Q => (∃ i, xs = [.int i] ∧ Q (.int i) H) ∨ ∃ k, xs = [.bl k] ∧ Q (.int (if k then 1 else 0)) H) (tCons (tVar 3) tNil)) (tC (.int 2147483629))) (tC (.int 69621))))
          (tOp (rI CMul fun i j => .int (i * j)) (tOp (rIxL K) (tVar 0) (tC (.int 3))) (tC (.int 7919)))) (tC (.int 11))) tNil)) (tC (.int 2147483647))) (gName 4))
        (tSeq (tAsg (tVar 4) (gSub (tVar 0) (tC (.int 4)) rSetL))
        (tSeq (tAsg (tOp (rI (fun _ j => 0 < j) fun i j => .int (i % j)) (tCB (fun xs H Q => (∃ i, xs = [.int i] ∧ Q (.int i) H) ∨ ∃ k, xs = [.bl k] ∧ Q (.int (if k then 1 else 0)) H) (tCons (tOp (rI0 fun i j => .int (i + j)) (tOp (rI0 fun i j => .int (i + j))
          (tOp (rI CMul fun i j => .int (i * j)) (tVar 4) (tC (.int 16807)))
          (tOp (rI CMul fun i j => .int (i * j)) (tOp (rI CMul fun i j => .int (i * j)) (tOp (rIxL K) (tVar 0) (tC (.int 3))) (tOp (rIxL K) (tVar 0) (tC (.int 3)))) (tC (.int 104729))))
          (tOp (rI CDiv fun i j => .int (i / j)) (tVar 4) (tC (.int 65536)))) tNil)) (tC (.int 998244353))) (gName 5))
        (tRet (tOp (rI (fun _ j => 0 < j) fun i j => .int (i % j)) (tCB (fun xs H Q => (∃ i, xs = [.int i] ∧ Q (.int i) H) ∨ ∃ k, xs = [.bl k] ∧ Q (.int (if k then 1 else 0)) H) (tCons (tOp (rI CDiv fun i j => .int (i / j)) (tVar 5) (tC (.int 7))) tNil)) (tVar 1))))) { nx := fun _ H' => Q .non H', rt := Q }
          [some (.ref b), some (.int lim), σ2, some (.int cell), σ3, σ5] H1 := fun σ2 σ3 σ5 cell p' H1 off e1 => by
      refine ⟨_, rfl, b, _, 4, _, rfl, rfl, SqL.of e1, rfl, _, _, rfl, rfl, .inr ⟨by decide, by decide⟩, ?_⟩
      refine ⟨_, rfl, .inl ⟨_, rfl, _, _, rfl, rfl, (by show (0 : Int) < 2147483629; decide), _, _, rfl, rfl, .inr ⟨by decide, by decide⟩, _, _, rfl, rfl, ?_⟩⟩
      refine ⟨_, rfl, b, _, 3, _, rfl, rfl, SqL.of e1, rfl, _, _, rfl, rfl, .inr ⟨by decide, by decide⟩, _, _, rfl, rfl, _, _, rfl, rfl, .inl ⟨_, rfl, _, _, rfl, rfl, (by show (0 : Int) < 2147483647; decide), ?_⟩⟩
      generalize hm : (m * 48271 + cell % 2147483629 * 69621 + (kk + 1) * 7919 + 11) % 2147483647 = mm
      have mm0 : 0 ≤ mm := by rw [← hm]; exact Int.emod_nonneg _ (by decide)
      have mm1 : mm < 2147483647 := by rw [← hm]; exact Int.emod_lt_of_pos _ (by decide)
      refine ⟨_, rfl, _, rfl, b, _, 4, 4, rfl, rfl, e1, rfl, ?_⟩
      have c1 : CMul (kk + 1) (kk + 1) := .inl ⟨by omega, by omega⟩
      refine ⟨_, rfl, _, _, rfl, rfl, .inr ⟨by decide, by decide⟩, _, rfl, b, _, 3, _, rfl, rfl, SqL.of upd_same, rfl, _, rfl, b, _, 3, _, rfl, rfl, SqL.of upd_same, rfl, _, _, rfl, rfl, c1, _, _, rfl, rfl, .inr ⟨by decide, by decide⟩, _, _, rfl, rfl,
        _, rfl, _, _, rfl, rfl, ⟨by decide, by decide⟩, _, _, rfl, rfl, .inl ⟨_, rfl, _, _, rfl, rfl, (by show (0 : Int) < 998244353; decide), ?_⟩⟩
      refine ⟨_, rfl, _, _, rfl, rfl, ⟨by decide, by decide⟩, .inl ⟨_, rfl, _, rfl, _, _, rfl, rfl, h0, ?_⟩⟩
      exact k _ _ (md _).1 (md _).2 (off.trans Off.upd) ⟨ns, p', r, kk + 1, mm, by rw [← hm]; exact upd_same, by rw [upd_ne hcb]; exact off.at hcb hc, by omega, by omega, mm0, mm1⟩
    -- if bag[2] > 0
    refine ⟨_, rfl, b, _, 2, _, rfl, rfl, SqL.of upd_same, rfl, _, _, rfl, rfl, _, rfl, ite2 (fun c2 => ?_) (fun c2 => ?_)⟩
    · refine ⟨_, rfl, b, _, 2, _, rfl, rfl, SqL.of upd_same, rfl, .inl ⟨_, rfl, _, rfl, _, _, rfl, rfl, h0, ?_⟩⟩
      refine ⟨_, rfl, b, _, 2, _, rfl, rfl, SqL.of upd_same, rfl, _, rfl, _, _, rfl, rfl, wd _, _, rfl, b, _, 2, 2, rfl, rfl, upd_same, rfl, ?_⟩
      rw [upd_upd]
      exact ⟨_, rfl, k _ _ (md r).1 (md r).2 Off.upd ⟨ns, p, r / lim, kk + 1, m, upd_same, by rw [upd_ne hcb]; exact hc, by omega, by omega, m0, m1⟩⟩
    -- cell = bag[3]; if bag[1] < len(bag[0])
    refine ⟨_, rfl, b, _, 3, _, rfl, rfl, SqL.of upd_same, rfl, ?_⟩
    have hc1 : (upd H b (bagO c p r (kk + 1) m)) c = some (.lst (ns.map V.int)) := by rw [upd_ne hcb]; exact hc
    refine ⟨_, rfl, b, _, 1, _, rfl, rfl, SqL.of upd_same, rfl, _, rfl, b, _, 0, _, rfl, rfl, SqL.of upd_same, rfl, c, _, rfl, .inl (SqL.of hc1), _, _, rfl, rfl, _, rfl, ite2 (fun c3 => ?_) (fun c3 => ?_)⟩
    · have hp : p < ns.length := by
        have z := of_decide_eq_true c3
        rw [List.length_map] at z
        omega
      have at_ : atI (ns.map V.int) ((p : Nat) : Int) = some (.int ns[p]) := atI_nat (by rw [List.getElem?_map, List.getElem?_eq_getElem hp]; rfl)
      refine ⟨_, rfl, b, _, 0, _, rfl, rfl, SqL.of upd_same, rfl, _, rfl, b, _, 1, _, rfl, rfl, SqL.of upd_same, rfl, c, _, _, _, rfl, rfl, SqL.of hc1, at_, ?_⟩
      refine ⟨_, rfl, b, _, 1, _, rfl, rfl, SqL.of upd_same, rfl, _, _, rfl, rfl, _, rfl, b, _, 1, 1, rfl, rfl, upd_same, rfl, ?_⟩
      rw [upd_upd]
      refine ⟨_, rfl, _, rfl, _, _, rfl, rfl, ⟨by decide, by decide, by decide⟩, _, _, rfl, rfl, _, rfl, ite2 (fun c4 => ?_) (fun c4 => ?_)⟩
      · refine ⟨_, rfl, _, rfl, _, rfl, _, _, rfl, rfl, wd _, _, rfl, b, _, 2, 2, rfl, rfl, upd_same, rfl, ?_⟩
        rw [upd_upd]
        refine ⟨_, rfl, _, rfl, .inl ⟨_, rfl, _, rfl, _, _, rfl, rfl, h0, ?_⟩⟩
        exact k _ _ (md _).1 (md _).2 Off.upd ⟨ns, p + 1, _, kk + 1, m, upd_same, by rw [upd_ne hcb]; exact hc, by omega, by omega, m0, m1⟩
      · exact fin _ _ _ _ (p + 1) _ Off.upd upd_same
    · exact fin _ _ _ _ p _ Off.upd upd_same
theorem C_draw (T : Tx K mg) : Cal P w K mg base CX0 1 "_law_draw" ["bag", "limit"] [] spDraw := by
  obtain ⟨fd, G, F⟩ := ok_draw (P := P) (w := w) (base := base) T
  exact ⟨_, fd, [], G, T.g__law_draw, F.kp, F.bindsN fun _ _ _ _ _ _ us hl => match us, hl with | [_, _], _ => rfl, .nil⟩

end
end K01

set_option maxRecDepth 100000
set_option maxHeartbeats 4000000
namespace K01
open PySem PySem.Spec PyProof.Rows L2 Q
section
variable {P : Program} {w : World} {K : PySem.W.Frag} {mg : Str → Option Value} {base : Heap} {f : Addr} {fd : FuncData}
/-! ### is_whole, its bounds given -/
theorem ok_whole (T : Tx K mg) : ∃ fd, FnOk P w K mg base CX0 1 (He.ga K "is_whole") fd ["thing", "low", "high"] spWhole ∧ FnP K "is_whole" "is_whole" s_is_whole [.non, .non] (He.ga K "is_whole") fd := by
  obtain ⟨fd, F⟩ := T.d_is_whole
  refine ⟨fd, F.ok sc_is_whole (fun vs H Q E h => ?_) (fun cdv A outer s H vs Q E hr h => ?_), F⟩
  · obtain ⟨v, lo, hi, t, rfl, _⟩ := h
    rfl
  · obtain ⟨v, lo, hi, t, rfl, kn, q⟩ := h
    refine ⟨_, PSs.nox (pss_cons (ps_if (PW.pt (pw_or (pt_not (pt_val (pe_callB call_isi (by rfl) T.n_isinstance (by decide +kernel) (pa_cons (pv 0) (pa_cons (pe_bltn (v := .ty "int") (u := .type "int") (by rfl) T.n_int (by decide +kernel) rfl) pa_nil))))) (pw_or1 (pt_val (pe_callB call_isi (by rfl) T.n_isinstance (by decide +kernel) (pa_cons (pv 0) (pa_cons (pe_bltn (v := .ty "bool") (u := .type "bool") (by rfl) T.n_bool (by decide +kernel) rfl) pa_nil)))))))
        (pss_one (ps_ret pe_bl))
        pss_nil)
      (pss_cons (ps_if (PW.pt (pw_and (pt_cmpR op_notN (pv 1) pe_non (nomark _)) (pw_and1 (pt_cmpR op_lt (pv 0) (pv 1) (nomark _)))))
        (pss_one (ps_ret pe_bl))
        pss_nil)
      (pss_one (ps_ret (pe_or (pe_cmpR op_isN (pv 2) pe_non (nomark _)) (pe_one (pe_cmpR op_le (pv 0) (pv 2) (nomark _)))))))), ?_⟩
    rcases kn.whole (K := K) with ⟨i, rfl, a1, a2⟩ | ⟨a, nv, no⟩
    · refine ⟨_, rfl, _, _, _, _, _, rfl, .ty _, kn.ty, a1, _, rfl, iteF ⟨_, rfl, _, _, _, _, _, rfl, .ty _, kn.ty, a2, _, rfl, iteF ?_⟩⟩
      refine ⟨_, rfl, rfl, _, rfl, iteT ⟨_, rfl, _, rfl, _, _, rfl, rfl, _, rfl, ite2 (fun c => ?_) (fun c => ?_)⟩⟩
      · have e : wholeV (.int i) lo hi = false := by
          have z := of_decide_eq_true c
          show (decide (lo ≤ i) && decide (i ≤ hi)) = false
          rw [decide_eq_false (by omega), Bool.false_and]
        rw [e] at q
        exact q
      · refine ⟨_, rfl, rfl, _, rfl, iteF ⟨_, rfl, _, rfl, _, _, rfl, rfl, ?_⟩⟩
        have e : wholeV (.int i) lo hi = decide (i ≤ hi) := by
          have z : ¬ i < lo := fun z => c (decide_eq_true z)
          show (decide (lo ≤ i) && decide (i ≤ hi)) = _
          rw [decide_eq_true (show lo ≤ i by omega), Bool.true_and]
        rw [e] at q
        exact q
    · rw [no] at q
      rcases a with ⟨a1, a2⟩ | a1
      · exact ⟨_, rfl, _, _, _, _, _, rfl, .ty _, kn.ty, a1, _, rfl, iteF ⟨_, rfl, _, _, _, _, _, rfl, .ty _, kn.ty, a2, _, rfl, iteT q⟩⟩
      · exact ⟨_, rfl, _, _, _, _, _, rfl, .ty _, kn.ty, a1, _, rfl, iteT (iteT q)⟩
theorem C_is_whole (T : Tx K mg) : Cal P w K mg base CX0 1 "is_whole" ["thing", "low", "high"] [] spWhole := by
  obtain ⟨fd, G, F⟩ := ok_whole (P := P) (w := w) (base := base) T
  obtain ⟨ds, v, b⟩ := F.binds1 (ps := ["thing", "low", "high"]) 3 2 (List.cons_ne_nil _ _) rfl fun _ _ _ _ _ _ _ us its hu hi => match us, hu, its, hi with | [_, _, _], _, [_, _], _ => ⟨_, rfl, rfl⟩
  exact ⟨_, fd, ds, G, T.g_is_whole, F.kp, b, v⟩

theorem C_law_whole (T : Tx K mg) : Cal P w K mg base CX0 1 "_law_whole" ["thing", "low", "high"] [] spWhole := by
  obtain ⟨fd, F⟩ := T.d__law_whole
  refine ⟨_, fd, [], F.ok sc__law_whole (fun vs H Q E h => ?_) (fun cdv A outer s H vs Q E hr h => ?_), T.g__law_whole, F.kp, F.bindsN fun _ _ _ _ _ _ us hl => match us, hl with | [_, _, _], _ => rfl, .nil⟩
  · obtain ⟨v, lo, hi, t, rfl, _⟩ := h
    rfl
  · obtain ⟨v, lo, hi, t, rfl, kn, q⟩ := h
    refine ⟨_, PSs.nox (pss_one (ps_ret (pe_and (pe_callB call_isi (by rfl) T.n_isinstance (by decide +kernel) (pa_cons (pv 0) (pa_cons (pe_bltn (v := .ty "int") (u := .type "int") (by rfl) T.n_int (by decide +kernel) rfl) pa_nil))) (pe_and (pe_not (pe_callB call_isi (by rfl) T.n_isinstance (by decide +kernel) (pa_cons (pv 0) (pa_cons (pe_bltn (v := .ty "bool") (u := .type "bool") (by rfl) T.n_bool (by decide +kernel) rfl) pa_nil)))) (pe_one (pe_chain op_le op_le (pv 1) (pv 0) (pv 2))))))), ?_⟩
    rcases kn.whole (K := K) with ⟨i, rfl, a1, a2⟩ | ⟨a, nv, no⟩
    · refine ⟨_, rfl, _, _, _, _, _, rfl, .ty _, kn.ty, a1, _, rfl, iteT ⟨_, rfl, _, _, _, _, _, rfl, .ty _, kn.ty, a2, _, rfl, _, rfl, iteT ?_⟩⟩
      refine ⟨_, rfl, _, rfl, _, _, rfl, rfl, _, rfl, ite2 (fun c => ?_) (fun c => ?_)⟩
      · refine ⟨_, rfl, _, _, rfl, rfl, ?_⟩
        have e : wholeV (.int i) lo hi = decide (i ≤ hi) := by
          show (decide (lo ≤ i) && decide (i ≤ hi)) = _
          rw [c, Bool.true_and]
        rw [e] at q
        exact q
      · have e : wholeV (.int i) lo hi = false := by
          show (decide (lo ≤ i) && decide (i ≤ hi)) = _
          rw [Bool.eq_false_iff.mpr c, Bool.false_and]
        rw [e] at q
        exact q
    · rw [no] at q
      rcases a with ⟨a1, a2⟩ | a1
      · exact ⟨_, rfl, _, _, _, _, _, rfl, .ty _, kn.ty, a1, _, rfl, iteT ⟨_, rfl, _, _, _, _, _, rfl, .ty _, kn.ty, a2, _, rfl, _, rfl, iteF q⟩⟩
      · exact ⟨_, rfl, _, _, _, _, _, rfl, .ty _, kn.ty, a1, _, rfl, iteF q⟩
theorem ok_badbox (T : Tx K mg) : ∃ fd, FnOk P w K mg base CX0 1 (He.ma K (He.ga K "BadBox") "__init__") fd ["self", "what", "at"] (spXI (He.ga K "BadBox") 2 fun vs => [("at", vs.getD 1 .non), ("what", vs.getD 0 .non)]) ∧ Binds K fd ["self", "what", "at"] [] := by
  obtain ⟨fd, F⟩ := T.d_BadBox___init__
  refine ⟨fd, F.ok sc_BadBox___init__ (fun vs H Q E h => ?_) (fun cdv A outer s H vs Q E hr h => ?_), F.bindsN fun _ _ _ _ _ _ us hl => match us, hl with | [_, _, _], _ => rfl⟩
  · obtain ⟨a, ws, rfl, hl, _⟩ := h
    show ws.length + 1 = 3
    omega
  · obtain ⟨a, ws, rfl, hl, ha, q⟩ := h
    match ws, hl with
    | [x, y], _ =>
      refine ⟨_, PSs.nox (pss_cons (ps_ost (pv 0) (pv 1)) (pss_one (ps_ost (pv 0) (pv 2)))), ?_⟩
      refine ⟨_, rfl, _, rfl, a, _, rfl, T.o_BadBox, T.noat_BadBox_what, .inl ⟨ha, fun dx nd ne => ?_⟩⟩
      refine ⟨_, rfl, _, rfl, a, _, rfl, T.o_BadBox, T.noat_BadBox_at, .inr ⟨dx, _, upd_same, by rw [upd_ne ne, upd_same], (by show 1 ≤ 900; decide), ?_⟩⟩
      have e := q dx nd ne
      rw [← xi_two ne] at e
      exact e
end
end K01

set_option maxRecDepth 100000
set_option maxHeartbeats 4000000
namespace K01
open PySem PySem.Spec PyProof.Rows L2 Q RZ
/-! ### Box(lows, highs): what is wrong first, or the box -/
def colFault (l h : V) : Option Str := match l with
  | .int i => if wholeV (.int i) 0 63 = true then (if wholeV h (i + 1) 64 = true then none else some ("high" : Str)) else some ("low" : Str)
  | _ => some ("low" : Str)
def faultFrom : Nat → List V → List V → Option (Str × Int)
  | n, l :: ls, h :: hs => match colFault l h with
    | some w => some (w, (n : Int))
    | none => faultFrom (n + 1) ls hs
  | _, _, _ => none
def boxFault : Option (List V) → Option (List V) → Option (Str × Int)
  | some ls, hs => if 5 < ls.length then some (("lows" : Str), 0) else match hs with
    | some hs => if hs.length = ls.length then faultFrom 0 ls hs else some (("highs" : Str), 0)
    | none => some (("highs" : Str), 0)
  | none, _ => some (("lows" : Str), 0)
theorem fault_step {n : Nat} {ls hs : List V} {l h : V} (e1 : ls[n]? = some l) (e2 : hs[n]? = some h) : faultFrom n (ls.drop n) (hs.drop n) = match colFault l h with
    | some w => some (w, (n : Int))
    | none => faultFrom (n + 1) (ls.drop (n + 1)) (hs.drop (n + 1)) := by
  obtain ⟨h1, rfl⟩ := List.getElem?_eq_some_iff.mp e1
  obtain ⟨h2, rfl⟩ := List.getElem?_eq_some_iff.mp e2
  rw [List.drop_eq_getElem_cons h1, List.drop_eq_getElem_cons h2]
  rfl
/-- a box's ranges: in bounds, none empty -/
def Rgs : List Int → List Int → Prop
  | l :: ls, h :: hs => 0 ≤ l ∧ l < h ∧ h ≤ 64 ∧ Rgs ls hs
  | [], [] => True
  | _, _ => False
theorem col_none {l h : V} (e : colFault l h = none) : ∃ i j, l = .int i ∧ h = .int j ∧ 0 ≤ i ∧ i < j ∧ j ≤ 64 := by
  unfold colFault at e
  split at e
  · rename_i i
    by_cases c : wholeV (.int i) 0 63 = true
    · rw [if_pos c] at e
      by_cases c2 : wholeV h (i + 1) 64 = true
      · cases h with
        | int j =>
          have z1 : (decide (0 ≤ i) && decide (i ≤ 63)) = true := c
          have z2 : (decide (i + 1 ≤ j) && decide (j ≤ 64)) = true := c2
          rw [Bool.and_eq_true, decide_eq_true_eq, decide_eq_true_eq] at z1 z2
          exact ⟨i, j, rfl, rfl, by omega, by omega, by omega⟩
        | _ => cases c2
      · rw [if_neg c2] at e
        cases e
    · rw [if_neg c] at e
      cases e
  · cases e
theorem fault_none : ∀ {n : Nat} {ls hs : List V}, ls.length = hs.length → faultFrom n ls hs = none → ∃ lz hz : List Int, ls = lz.map V.int ∧ hs = hz.map V.int ∧ Rgs lz hz
  | _, [], [], _, _ => ⟨[], [], rfl, rfl, trivial⟩
  | _, [], _ :: _, e, _ => by cases e
  | _, _ :: _, [], e, _ => by cases e
  | n, l :: ls, h :: hs, e, z => by
    have z' : (match colFault l h with
      | some w => some (w, (n : Int))
      | none => faultFrom (n + 1) ls hs) = none := z
    cases q : colFault l h with
    | some w =>
      rw [q] at z'
      cases z'
    | none =>
      rw [q] at z'
      obtain ⟨i, j, rfl, rfl, h1, h2, h3⟩ := col_none q
      obtain ⟨lz, hz, rfl, rfl, r⟩ := fault_none (n := n + 1) (by simpa using e) z'
      exact ⟨i :: lz, j :: hz, rfl, rfl, h1, h2, h3, r⟩
theorem Rgs.len : ∀ {ls hs : List Int}, Rgs ls hs → ls.length = hs.length
  | [], [], _ => rfl
  | [], _ :: _, h => h.elim
  | _ :: _, [], h => h.elim
  | l :: ls, h :: hs, r => by
    have e := Rgs.len (ls := ls) (hs := hs) r.2.2.2
    rw [List.length_cons, List.length_cons, e]
theorem Rgs.at : ∀ {ls hs : List Int} {i : Nat} {l h : Int}, Rgs ls hs → ls[i]? = some l → hs[i]? = some h → 0 ≤ l ∧ l < h ∧ h ≤ 64
  | [], _, _, _, _, _, e, _ => by simp at e
  | _ :: _, [], _, _, _, _, _, e => by simp at e
  | x :: ls, y :: hs, 0, l, h, r, e1, e2 => by
    have d1 : x = l := Option.some.inj e1
    have d2 : y = h := Option.some.inj e2
    rw [← d1, ← d2]
    exact ⟨r.1, r.2.1, r.2.2.1⟩
  | x :: ls, y :: hs, i + 1, l, h, r, e1, e2 => Rgs.at (ls := ls) (hs := hs) (i := i) r.2.2.2 (by simpa using e1) (by simpa using e2)
/-- the number of points of the first n columns -/
def boxSize (ls hs : List Int) : Nat → Int
  | 0 => 1
  | n + 1 => boxSize ls hs n * (hs.getD n 0 - ls.getD n 0)
theorem size_le {ls hs : List Int} (r : Rgs ls hs) : ∀ n : Nat, n ≤ ls.length → 0 ≤ boxSize ls hs n ∧ boxSize ls hs n ≤ 64 ^ n
  | 0, _ => ⟨(by show (0 : Int) ≤ 1; decide), (by show (1 : Int) ≤ 64 ^ 0; decide)⟩
  | n + 1, hn => by
    obtain ⟨h1, h2⟩ := size_le r n (by omega)
    have l1 : n < ls.length := by omega
    have l2 : n < hs.length := by rw [← r.len]; exact l1
    obtain ⟨b1, b2, b3⟩ := r.at (List.getElem?_eq_getElem l1) (List.getElem?_eq_getElem l2)
    have e1 : ls.getD n 0 = ls[n] := by rw [List.getD_eq_getElem?_getD, List.getElem?_eq_getElem l1]; rfl
    have e2 : hs.getD n 0 = hs[n] := by rw [List.getD_eq_getElem?_getD, List.getElem?_eq_getElem l2]; rfl
    have e : boxSize ls hs (n + 1) = boxSize ls hs n * (hs[n] - ls[n]) := by rw [← e1, ← e2]; rfl
    rw [e]
    refine ⟨Int.mul_nonneg h1 (by omega), ?_⟩
    rw [Int.pow_succ]
    exact Int.mul_le_mul h2 (by omega) (by omega) (Int.pow_nonneg (by decide))
/-- a box at y -/
def BoxAt (K : PySem.W.Frag) (H : Hp) (y : Addr) (lz hz : List Int) : Prop := ∃ (dy tl th tt : Addr) (fs : List (Str × V)), H y = some (.ins (He.ga K "Box") dy fs) ∧ fs.length ≤ 20 ∧ fs.lookup ("lows" : Str) = some (.ref tl) ∧ fs.lookup ("highs" : Str) = some (.ref th) ∧
  fs.lookup ("told" : Str) = some (.ref tt) ∧ fs.lookup ("size" : Str) = some (.int (boxSize lz hz lz.length)) ∧ SqT K H tl (lz.map V.int) ∧ SqT K H th (hz.map V.int) ∧ SqT K H tt [.ref tl, .ref th]
/-- every item of a list or a tuple is of a known kind -/
def Its (H : Hp) (v : V) : Prop := ∀ xs, seqOf H v = some xs → ∀ x ∈ xs, ∃ T, Kn H x T
theorem Its.same {H H' : Hp} {v : V} {T : String} (h : Its H v) (kn : Kn H v T) (e : Same H H') : Its H' v := fun xs hx x m => by
  rcases kn.seqSome with ⟨-, a, ys, rfl, hs, -⟩ | ⟨hT, hs⟩
  · rw [seqOf_same hs e] at hx
    cases hx
    obtain ⟨T, k⟩ := h _ hs x m
    exact ⟨T, k.same e⟩
  · rcases (kn.same e).seqSome with ⟨hT2, -⟩ | ⟨-, hs2⟩
    · rw [hT] at hT2
      cases hT2
    · rw [hs2] at hx
      cases hx
/-- Box.__init__ -/
def spBoxInit (K : PySem.W.Frag) : Sp := fun vs H Q E => ∃ (y dy : Addr) (v1 v2 : V) (T1 T2 : String), vs = [.ref y, v1, v2] ∧ H y = some (.ins (He.ga K "Box") dy []) ∧ Kn H v1 T1 ∧ Kn H v2 T2 ∧ Its H v1 ∧ Its H v2 ∧
  (∀ w at_ H' d, boxFault (seqOf H v1) (seqOf H v2) = some (w, at_) → Same H H' → H d = none → H' d = some (.xd [("at", .int at_), ("what", .str w)]) → E (.ref (He.ga K "BadBox")) (some d) H') ∧
  ∀ lz hz H', boxFault (seqOf H v1) (seqOf H v2) = none → seqOf H v1 = some (lz.map V.int) → seqOf H v2 = some (hz.map V.int) → Rgs lz hz → lz.length ≤ 5 → (∀ a o, a ≠ y → H a = some o → H' a = some o) → BoxAt K H' y lz hz → Q .non H'

end K01

set_option maxRecDepth 100000
set_option maxHeartbeats 4000000
namespace K01
open PySem PySem.Spec PyProof.Rows L2 Q RZ
section
variable {P : Program} {w : World} {K : PySem.W.Frag} {mg : Str → Option Value} {base : Heap} {f : Addr} {fd : FuncData}
theorem sqT_ins {H : Hp} {l y C C' dy dy' : Addr} {fs fs' : List (Str × V)} {xs : List V} (h : SqT K H l xs) (hy : H y = some (.ins C dy fs)) : SqT K (upd H y (.ins C' dy' fs')) l xs := by
  rcases h with (h | ⟨o, h⟩) | h
  · exact .inl (.inl (by rw [upd_ne (ne_of h hy (fun z => nomatch z))]; exact h))
  · exact .inl (.inr ⟨o, by rw [upd_ne (ne_of h hy (fun z => nomatch z))]; exact h⟩)
  · exact .inr h
/-- the four fields of a box -/
structure BoxFs (fs : List (Str × V)) (tl th tt : Addr) (n : Int) : Prop where
  lows : fs.lookup ("lows" : Str) = some (.ref tl)
  highs : fs.lookup ("highs" : Str) = some (.ref th)
  told : fs.lookup ("told" : Str) = some (.ref tt)
  size : fs.lookup ("size" : Str) = some (.int n)
theorem BoxFs.put {fs : List (Str × V)} {tl th tt : Addr} {n m : Int} (h : BoxFs fs tl th tt n) : BoxFs (putF "size" (.int m) fs) tl th tt m :=
  ⟨by rw [lookup_putF, if_neg (by decide +kernel)]; exact h.lows, by rw [lookup_putF, if_neg (by decide +kernel)]; exact h.highs, by rw [lookup_putF, if_neg (by decide +kernel)]; exact h.told, by rw [lookup_putF, if_pos rfl]⟩
theorem boxFs_new (tl th tt : Addr) (n : Int) : BoxFs (putF "size" (.int n) (putF "told" (.ref tt) (putF "highs" (.ref th) (putF "lows" (.ref tl) [])))) tl th tt n :=
  ⟨by rw [lookup_putF, if_neg (by decide +kernel), lookup_putF, if_neg (by decide +kernel), lookup_putF, if_neg (by decide +kernel), lookup_putF, if_pos rfl],
    by rw [lookup_putF, if_neg (by decide +kernel), lookup_putF, if_neg (by decide +kernel), lookup_putF, if_pos rfl], by rw [lookup_putF, if_neg (by decide +kernel), lookup_putF, if_pos rfl], by rw [lookup_putF, if_pos rfl]⟩
theorem ok_boxinit (T : Tx K mg) : ∃ fd, FnOk P w K mg base (L2.CX P w) 3 (He.ma K (He.ga K "Box") "__init__") fd ["self", "lows", "highs"] (spBoxInit K) ∧ Binds K fd ["self", "lows", "highs"] [] := by
  obtain ⟨fd, F⟩ := T.d_Box___init__
  obtain ⟨fdX, G_BadBox, b_BadBox⟩ := ok_badbox (P := P) (w := w) (base := base) T
  have C_is_whole := C_is_whole (P := P) (w := w) (base := base) T
  refine ⟨fd, F.ok sc_Box___init__ (fun vs H Q E h => ?_) (fun cdv A outer s H vs Q E hr h => ?_), F.bindsN fun _ _ _ _ _ _ us hl => match us, hl with | [_, _, _], _ => rfl⟩
  · obtain ⟨y, dy, v1, v2, T1, T2, rfl, _⟩ := h
    rfl
  · obtain ⟨y, dy, v1, v2, T1, T2, rfl, hy, kn1, kn2, it1, it2, kE, kQ⟩ := h
    refine ⟨_, (pss_cons (ps_if (PW.pt (pw_or (pt_not (pt_val (pe_callB call_isiT (by rfl) T.n_isinstance (by decide +kernel) (pa_cons (pv 1) (pa_cons (pe_tup (pa_cons (pe_bltn (v := .ty "list") (u := .type "list") (by rfl) T.n_list (by decide +kernel) rfl) (pa_cons (pe_bltn (v := .ty "tuple") (u := .type "tuple") (by rfl) T.n_tuple (by decide +kernel) rfl) pa_nil))) pa_nil))))) (pw_or1 (pt_cmpR op_gt (pe_callB call_len_seq (by rfl) T.n_len (by decide +kernel) (pa_cons (pv 1) pa_nil)) (pe_gint T.c_MOST_COLUMNS) (nomark _)))))
        (pss_one (ps_raise rfl (takes_of rfl rfl rfl rfl) (pmk_fld T.o_BadBox T.i_BadBox T.t_BadBox G_BadBox (hr.mono (by decide)) b_BadBox pass0 T.g_BadBox (by decide) (pa_cons pe_str (pa_cons pe_int pa_nil)) (fun _ _ _ _ h z => h _ _ z))))
        pss_nil)
      (pss_cons (ps_if (PW.pt (pw_or (pt_not (pt_val (pe_callB call_isiT (by rfl) T.n_isinstance (by decide +kernel) (pa_cons (pv 2) (pa_cons (pe_tup (pa_cons (pe_bltn (v := .ty "list") (u := .type "list") (by rfl) T.n_list (by decide +kernel) rfl) (pa_cons (pe_bltn (v := .ty "tuple") (u := .type "tuple") (by rfl) T.n_tuple (by decide +kernel) rfl) pa_nil))) pa_nil))))) (pw_or1 (pt_cmpR op_ne (pe_callB call_len_seq (by rfl) T.n_len (by decide +kernel) (pa_cons (pv 2) pa_nil)) (pe_callB call_len_seq (by rfl) T.n_len (by decide +kernel) (pa_cons (pv 1) pa_nil)) (nomark _)))))
        (pss_one (ps_raise rfl (takes_of rfl rfl rfl rfl) (pmk_fld T.o_BadBox T.i_BadBox T.t_BadBox G_BadBox (hr.mono (by decide)) b_BadBox pass0 T.g_BadBox (by decide) (pa_cons pe_str (pa_cons pe_int pa_nil)) (fun _ _ _ _ h z => h _ _ z))))
        pss_nil)
      (pss_cons (ps_for (passes_of rfl) rfl (pi_range1 (by rfl) T.n_range (pa_cons (pe_callB call_len_seq (by rfl) T.n_len (by decide +kernel) (pa_cons (pv 1) pa_nil)) pa_nil)) (pg_name (i := 3) sc_Box___init__.nd rfl (Or.inl rfl))
        (pss_cons (ps_if (pt_not (pt_val (pe_cal C_is_whole (hr.mono (by decide)) pass0 (pa_cons (pe_ix ix_seq (pv 1) (pv 3) (fun _ _ => rfl)) (pa_cons pe_int (pa_cons (pe_op op_sub (pe_gint T.c_HIGHEST) pe_int) pa_nil))))))
          (pss_one (ps_raise rfl (takes_of rfl rfl rfl rfl) (pmk_fld T.o_BadBox T.i_BadBox T.t_BadBox G_BadBox (hr.mono (by decide)) b_BadBox pass0 T.g_BadBox (by decide) (pa_cons pe_str (pa_cons (pv 3) pa_nil)) (fun _ _ _ _ h z => let ⟨v1, e1, z⟩ := z; ⟨v1, e1, h _ _ z⟩))))
          pss_nil)
        (pss_one (ps_if (pt_not (pt_val (pe_cal C_is_whole (hr.mono (by decide)) pass0 (pa_cons (pe_ix ix_seq (pv 2) (pv 3) (fun _ _ => rfl)) (pa_cons (pe_op op_add (pe_ix ix_seq (pv 1) (pv 3) (fun _ _ => rfl)) pe_int) (pa_cons (pe_gint T.c_HIGHEST) pa_nil))))))
          (pss_one (ps_raise rfl (takes_of rfl rfl rfl rfl) (pmk_fld T.o_BadBox T.i_BadBox T.t_BadBox G_BadBox (hr.mono (by decide)) b_BadBox pass0 T.g_BadBox (by decide) (pa_cons pe_str (pa_cons (pv 3) pa_nil)) (fun _ _ _ _ h z => let ⟨v1, e1, z⟩ := z; ⟨v1, e1, h _ _ z⟩))))
          pss_nil))))
      (pss_cons (ps_fld (pv 0) (pe_callTy call_tupOf (by rfl) T.n_tuple (by decide +kernel) (pa_cons (pv 1) pa_nil)) rfl)
      (pss_cons (ps_fld (pv 0) (pe_callTy call_tupOf (by rfl) T.n_tuple (by decide +kernel) (pa_cons (pv 2) pa_nil)) rfl)
      (pss_cons (ps_fld (pv 0) (pe_tup (pa_cons (pe_fld (pv 0) rfl) (pa_cons (pe_fld (pv 0) rfl) pa_nil))) rfl)
      (pss_cons (ps_fld (pv 0) pe_int rfl)
      (pss_one (ps_for (passes_of rfl) rfl (pi_zipA (by rfl) T.n_zip (pa_cons (pe_fld (pv 0) rfl) (pa_cons (pe_fld (pv 0) rfl) pa_nil))) (pg_tup rfl (pgs_cons (pg_name (i := 4) sc_Box___init__.nd rfl (Or.inl rfl)) (pgs_cons (pg_name (i := 5) sc_Box___init__.nd rfl (Or.inl rfl)) pgs_nil)))
        (pss_one (ps_fld (pv 0) (pe_op op_mul (pe_fld (pv 0) rfl) (pe_op op_sub (pv 5) (pv 4))) rfl))))))))))), ?_⟩
    -- not a sequence, or too long
    rcases kn1.seqSome with ⟨q1, a1, xs1, rfl, hs1, hh1⟩ | ⟨q1, hs1⟩
    case inr =>
      have z : PySem.W.kitAny K (.type T1) [.type "list", .type "tuple"] = some false := by rw [kn1.seq, q1]
      refine ⟨_, rfl, (by show 2 ≤ sizeLine; decide), fun p1 np1 => ⟨_, p1, _, _, _, _, rfl, upd_same, .cons (.ty _) (.cons (.ty _) .nil), (kn1.same (same_new np1)).ty, z, _, rfl, iteT (iteT ⟨rfl, fun d nd => ?_⟩)⟩⟩
      exact kE "lows" 0 _ d (by rw [hs1]; rfl) ((same_new np1).trans (same_new nd)) ((same_new np1).free nd) upd_same
    have z1 : PySem.W.kitAny K (.type T1) [.type "list", .type "tuple"] = some true := by rw [kn1.seq, q1]
    have sq1 : Sq K H a1 xs1 := sq_of hh1
    refine ⟨_, rfl, (by show 2 ≤ sizeLine; decide), fun p1 np1 => ⟨_, p1, _, _, _, _, rfl, upd_same, .cons (.ty _) (.cons (.ty _) .nil), (kn1.same (same_new np1)).ty, z1, _, rfl, iteF ?_⟩⟩
    have s1 := same_new (o := HO.tup [V.ty "list", V.ty "tuple"]) np1
    refine ⟨_, rfl, _, _, rfl, sq1.same s1, _, _, rfl, rfl, _, rfl, ite2 (fun c => ?_) (fun c => ?_)⟩
    · have c' : 5 < xs1.length := by
        have := of_decide_eq_true c
        omega
      refine ⟨rfl, fun d nd => kE "lows" 0 _ d ?_ (s1.trans (same_new nd)) (s1.free nd) upd_same⟩
      rw [hs1]
      show (if 5 < xs1.length then some ((("lows" : Str)), (0 : Int)) else _) = _
      rw [if_pos c']
    have c5 : ¬ 5 < xs1.length := fun z => c (decide_eq_true (by omega))
    -- highs
    generalize hH1 : upd H p1 (HO.tup [V.ty "list", V.ty "tuple"]) = H1 at s1 ⊢
    rcases kn2.seqSome with ⟨q2, a2, xs2, rfl, hs2, hh2⟩ | ⟨q2, hs2⟩
    case inr =>
      have z : PySem.W.kitAny K (.type T2) [.type "list", .type "tuple"] = some false := by rw [kn2.seq, q2]
      refine ⟨_, rfl, (by show 2 ≤ sizeLine; decide), fun p2 np2 => ⟨_, p2, _, _, _, _, rfl, upd_same, .cons (.ty _) (.cons (.ty _) .nil), (kn2.same (s1.trans (same_new np2))).ty, z, _, rfl, iteT (iteT ⟨rfl, fun d nd => ?_⟩)⟩⟩
      have s2 := s1.trans (same_new (o := HO.tup [V.ty "list", V.ty "tuple"]) np2)
      refine kE "highs" 0 _ d ?_ (s2.trans (same_new nd)) (s2.free nd) upd_same
      rw [hs1, hs2]
      show (if 5 < xs1.length then some ((("lows" : Str)), (0 : Int)) else _) = _
      rw [if_neg c5]
    have z2 : PySem.W.kitAny K (.type T2) [.type "list", .type "tuple"] = some true := by rw [kn2.seq, q2]
    have sq2 : Sq K H a2 xs2 := sq_of hh2
    refine ⟨_, rfl, (by show 2 ≤ sizeLine; decide), fun p2 np2 => ⟨_, p2, _, _, _, _, rfl, upd_same, .cons (.ty _) (.cons (.ty _) .nil), (kn2.same (s1.trans (same_new np2))).ty, z2, _, rfl, iteF ?_⟩⟩
    have s2 := s1.trans (same_new (o := HO.tup [V.ty "list", V.ty "tuple"]) np2)
    generalize hH2 : upd H1 p2 (HO.tup [V.ty "list", V.ty "tuple"]) = H2 at s2 ⊢
    have bf : boxFault (seqOf H (V.ref a1)) (seqOf H (V.ref a2)) = if xs2.length = xs1.length then faultFrom 0 xs1 xs2 else some (("highs" : Str), 0) := by
      rw [hs1, hs2]
      show (if 5 < xs1.length then some ((("lows" : Str)), (0 : Int)) else _) = _
      rw [if_neg c5]
    refine ⟨_, rfl, _, _, rfl, sq2.same s2, _, rfl, _, _, rfl, sq1.same s2, rfl, _, rfl, ite2 (fun c => ?_) (fun c => ?_)⟩
    · refine ⟨rfl, fun d nd => kE "highs" 0 _ d ?_ (s2.trans (same_new nd)) (s2.free nd) upd_same⟩
      rw [bf, if_neg]
      intro e
      rw [e] at c
      simp at c
    have el : xs2.length = xs1.length := by
      simp at c
      omega
    rw [if_pos el] at bf
    -- the columns, one by one
    refine ⟨_, rfl, _, _, rfl, sq1.same s2, (xs1.length : Int), rfl, by omega, by omega, ?_⟩
    rw [Int.toNat_natCast]
    refine for_range (lo := 0) (n := xs1.length) (fun i σ H' => (∃ v3, σ = [some (.ref y), some (.ref a1), some (.ref a2), v3, none, none]) ∧ Same H H' ∧ faultFrom i (xs1.drop i) (xs2.drop i) = faultFrom 0 xs1 xs2) ⟨⟨none, rfl⟩, s2, by rw [List.drop_zero, List.drop_zero]⟩ ?_ ?_
    · rintro i σ H' hi ⟨⟨v3, rfl⟩, sm, ff⟩
      have hi2 : i < xs2.length := by omega
      have g1 : xs1[i]? = some xs1[i] := List.getElem?_eq_getElem hi
      have g2 : xs2[i]? = some xs2[i] := List.getElem?_eq_getElem hi2
      obtain ⟨U1, ku1⟩ := it1 xs1 hs1 xs1[i] (List.getElem_mem hi)
      obtain ⟨U2, ku2⟩ := it2 xs2 hs2 xs2[i] (List.getElem_mem hi2)
      have ai1 : atI xs1 ((0 : Int) + (i : Int)) = some xs1[i] := by rw [Int.zero_add]; exact atI_nat g1
      have ai2 : atI xs2 ((0 : Int) + (i : Int)) = some xs2[i] := by rw [Int.zero_add]; exact atI_nat g2
      have stp := fault_step g1 g2
      refine ⟨_, rfl, _, rfl, rix_of (sq1.same sm) ai1 ?_⟩
      refine ⟨_, _, rfl, rfl, _, 0, 63, U1, rfl, ku1.same sm, _, rfl, ?_⟩
      cases w1 : wholeV xs1[i] 0 63 with
      | false =>
        have cf : colFault xs1[i] xs2[i] = some ("low" : Str) := by
          unfold colFault
          split
          · rename_i k hk
            rw [if_neg (by rw [← hk, w1]; exact Bool.false_ne_true)]
          · rfl
        rw [cf] at stp
        refine iteT ⟨_, rfl, rfl, fun d nd => kE "low" _ _ d ?_ (sm.trans (same_new nd)) (sm.free nd) upd_same⟩
        rw [bf, ← ff, stp, Int.zero_add]
      | true =>
        obtain ⟨k, hk⟩ : ∃ k, xs1[i] = V.int k := by
          cases e : xs1[i] with
          | int k => exact ⟨k, rfl⟩
          | _ => rw [e] at w1; cases w1
        refine iteF ⟨_, rfl, _, rfl, rix_of (sq2.same sm) ai2 ?_⟩
        refine ⟨_, rfl, _, rfl, rix_of (sq1.same sm) ai1 ?_⟩
        refine ⟨k, 1, hk, rfl, _, k + 1, 64, U2, rfl, ku2.same sm, _, rfl, ?_⟩
        cases w2 : wholeV xs2[i] (k + 1) 64 with
        | false =>
          have cf : colFault xs1[i] xs2[i] = some ("high" : Str) := by
            rw [hk] at w1 ⊢
            show (if wholeV (.int k) 0 63 = true then (if wholeV xs2[i] (k + 1) 64 = true then none else some (("high" : Str))) else some ("low" : Str)) = _
            rw [if_pos w1, if_neg (by rw [w2]; exact Bool.false_ne_true)]
          rw [cf] at stp
          refine iteT ⟨_, rfl, rfl, fun d nd => kE "high" _ _ d ?_ (sm.trans (same_new nd)) (sm.free nd) upd_same⟩
          rw [bf, ← ff, stp, Int.zero_add]
        | true =>
          have cf : colFault xs1[i] xs2[i] = none := by
            rw [hk] at w1 ⊢
            show (if wholeV (.int k) 0 63 = true then (if wholeV xs2[i] (k + 1) 64 = true then none else some (("high" : Str))) else some ("low" : Str)) = _
            rw [if_pos w1, if_pos w2]
          rw [cf] at stp
          exact iteF ⟨⟨_, rfl⟩, sm, stp.symm.trans ff⟩
    · rintro σ H' ⟨⟨v3, rfl⟩, sm, ff⟩
      have fn0 : faultFrom 0 xs1 xs2 = none := by
        rw [← ff, List.drop_eq_nil_of_le (Nat.le_refl _)]
        cases xs2.drop xs1.length <;> rfl
      obtain ⟨lz, hz, rfl, rfl, rg⟩ := fault_none (by omega) fn0
      rw [fn0] at bf
      have len5 : lz.length ≤ 5 := by
        rw [List.length_map] at c5
        omega
      have hy1 := sm _ _ hy
      -- self.lows = tuple(lows)
      refine ⟨_, rfl, ?_⟩
      refine tupOf_of (sq1.same sm) fun tl Ha ql sa _ => ?_
      refine ⟨_, rfl, y, _, dy, _, rfl, sa _ _ hy1, T.cls_Box, T.noat_Box_lows, by decide, ?_⟩
      have sba : ∀ b o, b ≠ y → H b = some o → upd Ha y (.ins (He.ga K "Box") dy (putF "lows" (.ref tl) [])) b = some o := fun b o n e => by
        rw [upd_ne n]
        exact sa _ _ (sm _ _ e)
      have sq2a : Sq K (upd Ha y (.ins (He.ga K "Box") dy (putF "lows" (.ref tl) []))) a2 (hz.map V.int) := sq_of (hh2.elim (fun e => .inl (sba _ _ (ne_of e hy (fun z => nomatch z)) e)) fun e => .inr (sba _ _ (ne_of e hy (fun z => nomatch z)) e))
      have ql1 := sqT_ins (C' := He.ga K "Box") (dy' := dy) (fs' := putF "lows" (.ref tl) []) ql (sa _ _ hy1)
      -- self.highs = tuple(highs)
      refine ⟨_, rfl, ?_⟩
      refine tupOf_of sq2a fun th Hb qh sb _ => ?_
      refine ⟨_, rfl, y, _, dy, _, rfl, sb _ _ upd_same, T.cls_Box, T.noat_Box_highs, Nat.lt_of_le_of_lt (length_putF _ _ _) (by decide), ?_⟩
      have hyb := sb _ _ (upd_same (H := Ha) (a := y) (o := .ins (He.ga K "Box") dy (putF "lows" (.ref tl) [])))
      have ql2 := sqT_ins (C' := He.ga K "Box") (dy' := dy) (fs' := putF "highs" (.ref th) (putF "lows" (.ref tl) [])) (sqT_same sb ql1) hyb
      have qh2 := sqT_ins (C' := He.ga K "Box") (dy' := dy) (fs' := putF "highs" (.ref th) (putF "lows" (.ref tl) [])) qh hyb
      generalize hHc : upd Hb y (.ins (He.ga K "Box") dy (putF "highs" (.ref th) (putF "lows" (.ref tl) []))) = Hc at ql2 qh2 ⊢
      have hyc : Hc y = some (.ins (He.ga K "Box") dy (putF "highs" (.ref th) (putF "lows" (.ref tl) []))) := by rw [← hHc, upd_same]
      have sbc : ∀ b o, b ≠ y → H b = some o → Hc b = some o := fun b o n e => by
        rw [← hHc, upd_ne n]
        exact sb _ _ (sba b o n e)
      have l2 : (putF "highs" (V.ref th) (putF "lows" (.ref tl) [])).length ≤ 2 := Nat.le_trans (length_putF _ _ _) (Nat.succ_le_succ (length_putF _ _ _))
      -- self.told = (self.lows, self.highs)
      refine ⟨_, rfl, y, _, dy, _, _, rfl, hyc, T.cls_Box, T.noat_Box_lows, by rw [lookup_putF, if_neg (by decide +kernel), lookup_putF, if_pos rfl], _, rfl, y, _, dy, _, _, rfl, hyc, T.cls_Box, T.noat_Box_highs, by rw [lookup_putF, if_pos rfl], (by show 2 ≤ sizeLine; decide), fun tt nt => ?_⟩
      have st := same_new (o := HO.tup [V.ref tl, V.ref th]) nt
      refine ⟨_, rfl, y, _, dy, _, rfl, st _ _ hyc, T.cls_Box, T.noat_Box_told, by omega, ?_⟩
      have l3 : (putF "told" (V.ref tt) (putF "highs" (V.ref th) (putF "lows" (.ref tl) []))).length ≤ 3 := Nat.le_trans (length_putF _ _ _) (Nat.succ_le_succ l2)
      have l4 : (putF "size" (V.int 1) (putF "told" (V.ref tt) (putF "highs" (V.ref th) (putF "lows" (.ref tl) [])))).length ≤ 4 := Nat.le_trans (length_putF _ _ _) (Nat.succ_le_succ l3)
      -- self.size = 1
      refine ⟨_, rfl, y, _, dy, _, rfl, upd_same, T.cls_Box, T.noat_Box_size, by omega, ?_⟩
      rw [upd_upd]
      have bfs := boxFs_new tl th tt 1
      generalize putF "size" (V.int 1) (putF "told" (V.ref tt) (putF "highs" (V.ref th) (putF "lows" (.ref tl) []))) = fs at l4 bfs ⊢
      have ql3 := sqT_ins (C' := He.ga K "Box") (dy' := dy) (fs' := fs) (sqT_same st ql2) (st _ _ hyc)
      have qh3 := sqT_ins (C' := He.ga K "Box") (dy' := dy) (fs' := fs) (sqT_same st qh2) (st _ _ hyc)
      have qt3 : SqT K (upd (upd Hc tt (HO.tup [V.ref tl, V.ref th])) y (.ins (He.ga K "Box") dy fs)) tt [V.ref tl, V.ref th] := sqT_ins (SqT.of upd_same) (st _ _ hyc)
      -- for low, high in zip(self.lows, self.highs)
      refine ⟨_, rfl, y, _, dy, _, _, rfl, upd_same, T.cls_Box, T.noat_Box_lows, bfs.lows, _, rfl, y, _, dy, _, _, rfl, upd_same, T.cls_Box, T.noat_Box_highs, bfs.highs, tl, th, lz.map V.int, hz.map V.int, rfl, .inr ⟨ql3, qh3, ?_⟩⟩
      have rl := rg.len
      refine for_zipT (K := K) (a := tl) (b := th) (xs := lz.map V.int) (ys := hz.map V.int) (by rw [List.length_map, List.length_map, rl]) (fun i σ Hx => ∃ v4 v5 fs, σ = [some (.ref y), some (.ref a1), some (.ref a2), v3, v4, v5] ∧ (∀ b o, b ≠ y → H b = some o → Hx b = some o) ∧ Hx y = some (.ins (He.ga K "Box") dy fs) ∧ fs.length ≤ 4 + i ∧
        BoxFs fs tl th tt (boxSize lz hz i) ∧ SqT K Hx tl (lz.map V.int) ∧ SqT K Hx th (hz.map V.int) ∧ SqT K Hx tt [V.ref tl, V.ref th]) ⟨none, none, fs, rfl, fun b o n e => ?_, upd_same, by omega, bfs, ql3, qh3, qt3⟩ (fun i σ Hx h => ?_) ?_ ?_
      · rw [upd_ne n]
        exact st _ _ (sbc b o n e)
      · obtain ⟨_, _, _, _, _, _, _, _, h1, h2, _⟩ := h
        exact ⟨h1, h2⟩
      · rintro i x z Tp σ Hx hx hz' ⟨v4, v5, fs, rfl, keep, hyx, hfl, bf', qa, qb, qc⟩ nT
        have hi : i < lz.length := by
          have := (List.getElem?_eq_some_iff.mp hx).1
          rwa [List.length_map] at this
        have hi2 : i < hz.length := by omega
        obtain rfl : x = V.int lz[i] := by
          rw [List.getElem?_map, List.getElem?_eq_getElem hi] at hx
          exact (Option.some.inj hx).symm
        obtain rfl : z = V.int hz[i] := by
          rw [List.getElem?_map, List.getElem?_eq_getElem hi2] at hz'
          exact (Option.some.inj hz').symm
        have sT := same_new (o := HO.tup [V.int lz[i], V.int hz[i]]) nT
        refine ⟨Tp, _, rfl, SqT.of upd_same, rfl, _, _, rfl, _, _, rfl, rfl, ?_⟩
        obtain ⟨g1, g2⟩ := size_le rg i (by omega)
        have g3 : boxSize lz hz i ≤ 64 ^ 5 := Int.le_trans g2 (by
          have : i ≤ 5 := by omega
          match i, this with
          | 0, _ => decide
          | 1, _ => decide
          | 2, _ => decide
          | 3, _ => decide
          | 4, _ => decide
          | 5, _ => decide)
        refine ⟨_, rfl, y, _, dy, fs, _, rfl, sT _ _ hyx, T.cls_Box, T.noat_Box_size, bf'.size, _, rfl, _, rfl, _, _, rfl, rfl, _, _, rfl, rfl, .inl ⟨by omega, by omega⟩, ?_⟩
        refine ⟨_, rfl, y, _, dy, fs, rfl, sT _ _ hyx, T.cls_Box, T.noat_Box_size, by omega, ?_⟩
        refine ⟨_, _, _, rfl, fun b o n e => ?_, upd_same, Nat.le_trans (length_putF _ _ _) (by omega), ?_, sqT_ins (sqT_same sT qa) (sT _ _ hyx), sqT_ins (sqT_same sT qb) (sT _ _ hyx), sqT_ins (sqT_same sT qc) (sT _ _ hyx)⟩
        · rw [upd_ne n]
          exact sT _ _ (keep b o n e)
        · have e : boxSize lz hz (i + 1) = boxSize lz hz i * (hz[i] - lz[i]) := by
            show boxSize lz hz i * (hz.getD i 0 - lz.getD i 0) = _
            rw [List.getD_eq_getElem?_getD, List.getD_eq_getElem?_getD, List.getElem?_eq_getElem hi, List.getElem?_eq_getElem hi2]
            rfl
          rw [e]
          exact bf'.put
      · rintro σ Hx ⟨v4, v5, fs, rfl, keep, hyx, hfl, bf', qa, qb, qc⟩
        rw [List.length_map] at hfl bf'
        exact kQ lz hz Hx bf hs1 hs2 rg len5 keep ⟨dy, tl, th, tt, fs, hyx, by omega, bf'.lows, bf'.highs, bf'.told, bf'.size, qa, qb, qc⟩

end
end K01

set_option maxRecDepth 100000
set_option maxHeartbeats 4000000
namespace K01
open PySem PySem.Spec PyProof.Rows L2 Q RZ
/-- what may stand in the law's lists -/
inductive Odd (H : Hp) : V → Prop
  | non : Odd H .non
  | bl (b : Bool) : Odd H (.bl b)
  | one : Odd H (.str "1")
  | int (i : Int) (h : i.natAbs < 10 ^ 40) : Odd H (.int i)
  | tup {t : Addr} (e : H t = some (.tup [.int 1])) : Odd H (.ref t)
theorem Odd.kn {H : Hp} {v : V} (h : Odd H v) : ∃ T, Kn H v T := by
  cases h with
  | non => exact ⟨_, .non⟩
  | bl b => exact ⟨_, .bl b⟩
  | one => exact ⟨_, .str _⟩
  | int i _ => exact ⟨_, .int i⟩
  | tup e => exact ⟨_, .tup e⟩
theorem Odd.keep {H H' : Hp} {v : V} (h : Odd H v) (k : ∀ t xs, H t = some (.tup xs) → H' t = some (.tup xs)) : Odd H' v := by
  cases h with
  | non => exact .non
  | bl b => exact .bl b
  | one => exact .one
  | int i h => exact .int i h
  | tup e => exact .tup (k _ _ e)
/-- data that repr shows in little room -/
structure Sm (d : PyData) (w : Nat) : Prop where
  sh : d.showable = true
  nd : d.hasDict = false
  dp : d.depth ≤ 1
  ls : d.leavesShort 60 = true
  wt : d.weight ≤ w
theorem Odd.dat {K : PySem.W.Frag} {H : Hp} {v : V} (h : Odd H v) : ∃ d, Dp K H v d ∧ Sm d 200 := by
  cases h with
  | non => exact ⟨_, .non, by decide, by decide, by decide, by decide, by decide⟩
  | bl b => exact ⟨_, .bl b, by cases b <;> decide, by cases b <;> decide, by cases b <;> decide, by cases b <;> decide, by cases b <;> decide⟩
  | one => exact ⟨_, .str _, by decide +kernel, by decide +kernel, by decide +kernel, by decide +kernel, by decide +kernel⟩
  | int i h =>
    have h1 : i.natAbs.log2 < 134 := PySem.Flt.log2_lt_of (by decide) (Nat.lt_of_lt_of_le h (by decide))
    refine ⟨_, .int i, ?_, rfl, Nat.zero_le _, ?_, ?_⟩
    · show decide (i.natAbs.log2 < 1920) = true
      exact decide_eq_true (by omega)
    · have e := int_text_length_le10 (a := i) (k := 40) (by decide) h
      have e2 : (PyData.shown (.int i)).length = (toString i).length := PySem.ofString_length _
      exact decide_eq_true (by omega)
    · show (if i == 0 then 0 else i.natAbs.log2 + 1) ≤ 200
      split <;> omega
  | tup e => exact ⟨.tuple [.int 1], .tup (SqT.of e) (.cons (.int 1) .nil), by decide +kernel, by decide +kernel, by decide +kernel, by decide +kernel, by decide +kernel⟩
theorem odds_dat {K : PySem.W.Frag} {H : Hp} : ∀ {xs : List V}, (∀ x ∈ xs, Odd H x) → ∃ ds, DpAll K H xs ds ∧ PyData.showableAll ds = true ∧ PyData.hasDictAll ds = false ∧ PyData.depthAll ds ≤ 1 ∧ PyData.leavesShortAll 60 ds = true ∧ PyData.weightAll ds ≤ 201 * xs.length
  | [], _ => ⟨[], .nil, rfl, rfl, Nat.zero_le _, rfl, Nat.zero_le _⟩
  | x :: xs, h => by
    obtain ⟨d, D, S⟩ := (h x List.mem_cons_self).dat (K := K)
    obtain ⟨ds, E, e1, e2, e3, e4, e5⟩ := odds_dat (K := K) fun y hy => h y (List.mem_cons_of_mem _ hy)
    refine ⟨d :: ds, .cons D E, ?_, ?_, ?_, ?_, ?_⟩
    · show (d.showable && PyData.showableAll ds) = true
      rw [S.sh, e1]
      rfl
    · show (d.hasDict || PyData.hasDictAll ds) = false
      rw [S.nd, e2]
      rfl
    · exact Nat.max_le.mpr ⟨S.dp, e3⟩
    · show (d.leavesShort 60 && PyData.leavesShortAll 60 ds) = true
      rw [S.ls, e4]
      rfl
    · show d.weight + 1 + PyData.weightAll ds ≤ 201 * (xs.length + 1)
      have := S.wt
      omega
/-- the couple of the two lists, as repr shows it -/
theorem pair_dat {K : PySem.W.Frag} {H : Hp} {l h : Addr} {ls hs : List V} (hl : H l = some (.lst ls)) (hh : H h = some (.lst hs)) (ol : ∀ x ∈ ls, Odd H x) (oh : ∀ x ∈ hs, Odd H x) (n1 : ls.length ≤ 10) (n2 : hs.length ≤ 10) :
    ∃ e1 e2 d, d = PyData.tuple [e1, e2] ∧ Dp K H (.ref l) e1 ∧ Dp K H (.ref h) e2 ∧ d.showable = true ∧ d.hasDict = false ∧ d.depth ≤ 60 ∧ d.shown.length ≤ sizeLine := by
  obtain ⟨d1, D1, a1, a2, a3, a4, a5⟩ := odds_dat (K := K) ol
  obtain ⟨d2, D2, b1, b2, b3, b4, b5⟩ := odds_dat (K := K) oh
  have lsh : PyData.leavesShort 60 (.tuple [.list d1, .list d2]) = true := by
    show (PyData.leavesShortAll 60 d1 && (PyData.leavesShortAll 60 d2 && true)) = true
    rw [a4, b4]
    rfl
  refine ⟨_, _, _, rfl, .lst (SqL.of hl) D1, .lst (SqL.of hh) D2, ?_, ?_, ?_, ?_⟩
  · show (PyData.showableAll d1 && (PyData.showableAll d2 && true)) = true
    rw [a1, b1]
    rfl
  · show (PyData.hasDictAll d1 || (PyData.hasDictAll d2 || false)) = false
    rw [a2, b2]
    rfl
  · show max (PyData.depthAll d1 + 1) (max (PyData.depthAll d2 + 1) 0) + 1 ≤ 60
    omega
  · have e := PyData.shown_le 60 (by decide) _ lsh
    have w : PyData.weight (.tuple [.list d1, .list d2]) = PyData.weightAll d1 + 1 + (PyData.weightAll d2 + 1 + 0) := rfl
    rw [sizeLine_eq]
    omega
/-- two couples of a word and a number -/
theorem word_dat {K : PySem.W.Frag} {H : Hp} {p : Addr} {z : Str} {i : Int} (hp : SqT K H p [.str z, .int i]) : Dp K H (.ref p) (.tuple [.str z, .int i]) := .tup hp (.cons (.str z) (.cons (.int i) .nil))
theorem word_eq {z : Str} {i : Int} : PyData.eqv (.tuple [.str z, .int i]) (.tuple [.str z, .int i]) = true := by
  show (z == z && ((i == i) && true)) = true
  rw [beq_self_eq_true, beq_self_eq_true]
  rfl
theorem word_shaped {z : Str} {i : Int} (h : PyData.canLay0 (.str z) = true) : SeqAt.shaped (.tuple [.str z, .int i]) = true := by
  show ((PyData.canLay0 (.str z) && (true && true)) && decide (_ ≤ 64)) = true
  rw [h]
  rfl
end K01

set_option maxRecDepth 100000
set_option maxHeartbeats 4000000
namespace K01
open PySem PySem.Spec PyProof.Rows L2 Q RZ
section
variable {P : Program} {w : World} {K : PySem.W.Frag} {mg : Str → Option Value} {base : Heap} {f : Addr} {fd : FuncData}
/-- _law_odd(bag, low) -/
def spOdd : Sp := fun vs H Q _ => ∃ (b c : Addr) (low : V) (n : Int), vs = [.ref b, low] ∧ BagAt H b c n ∧ Odd H low ∧ n < 2 ^ 59 ∧ ∀ (v : V) (H' : Hp), Odd H' v → Kb b H H' → BagAt H' b c (n + 3) → Q v H'
theorem Odd.kb {H H' : Hp} {b c : Addr} {n : Int} {v : V} (h : Odd H v) (B : BagAt H b c n) (k : Kb b H H') : Odd H' v := h.keep fun t xs e => k t _ (fun z => by
  obtain ⟨ns, p, r, kk, m, h1, _⟩ := B
  rw [z, h1] at e
  cases e) e
theorem C_odd (T : Tx K mg) : Cal P w K mg base CX0 2 "_law_odd" ["bag", "low"] [] spOdd := by
  obtain ⟨fd, F⟩ := T.d__law_odd
  have C__law_draw := C_draw (P := P) (w := w) (base := base) T
  refine ⟨_, fd, [], F.ok sc__law_odd (fun vs H Q E h => ?_) (fun cdv A outer s H vs Q E hr h => ?_), T.g__law_odd, F.kp, F.bindsN fun _ _ _ _ _ _ us hl => match us, hl with | [_, _], _ => rfl, .nil⟩
  · obtain ⟨b, c, low, n, rfl, _⟩ := h
    rfl
  · obtain ⟨b, c, low, n, rfl, B, ol, hn, k⟩ := h
    refine ⟨_, PSs.nox (pss_one (ps_ret (pe_ix ix_list (pe_lst (pa_cons pe_non (pa_cons pe_bl (pa_cons pe_bl (pa_cons pe_str (pa_cons (pe_tup (pa_cons pe_int pa_nil)) (pa_cons (pe_un un_neg pe_int) (pa_cons (pe_op op_add pe_int (pe_cal C__law_draw (hr.mono (by decide)) pass0 (pa_cons (pv 0) (pa_cons (pe_op op_pow pe_int pe_int) pa_nil)))) (pa_cons (pe_op op_sub pe_int (pe_cal C__law_draw (hr.mono (by decide)) pass0 (pa_cons (pv 0) (pa_cons (pe_op op_pow pe_int pe_int) pa_nil)))) (pa_cons (pv 1) pa_nil)))))))))) (pe_cal C__law_draw (hr.mono (by decide)) pass0 (pa_cons (pv 0) (pa_cons pe_int pa_nil))) (fun _ _ => rfl)))), ?_⟩
    -- (1,), -1
    refine ⟨(by show 1 ≤ sizeLine; decide), fun t nt => ?_⟩
    have st := same_new (o := HO.tup [V.int 1]) nt
    have B1 := B.same st
    refine ⟨_, rfl, ?_⟩
    -- 64 + draw, 0 - draw, the place's draw
    refine ⟨_, rfl, _, _, rfl, rfl, ⟨by decide, by decide, by decide⟩, b, c, _, n, rfl, B1, by decide +kernel, by decide +kernel, by omega, fun r1 H1 l1 u1 o1 B2 => ?_⟩
    refine ⟨_, _, rfl, rfl, ?_⟩
    refine ⟨_, rfl, _, _, rfl, rfl, ⟨by decide, by decide, by decide⟩, b, c, _, n + 1, rfl, B2, by decide +kernel, by decide +kernel, by omega, fun r2 H2 l2 u2 o2 B3 => ?_⟩
    refine ⟨_, _, rfl, rfl, ?_⟩
    refine ⟨_, rfl, (by show 9 ≤ sizeLine; decide), fun q nq => ?_⟩
    have B4 := B3.updNew (o := HO.lst [V.non, V.bl true, V.bl false, V.str "1", V.ref t, V.int (-1), V.int (64 + r1), V.int (0 - r2), low]) nq
    have nbq := (B3.new nq).1
    have k4 : Kb b H (upd H2 q (HO.lst [V.non, V.bl true, V.bl false, V.str "1", V.ref t, V.int (-1), V.int (64 + r1), V.int (0 - r2), low])) := ((Kb.of_same st).trans (o1.kb.trans o2.kb)).trans (kb_new nq)
    refine ⟨_, rfl, b, c, _, n + 1 + 1, rfl, B4, by decide, by decide, by omega, fun r3 H3 l3 u3 o3 B5 => ?_⟩
    have hq : H3 q = some (HO.lst [V.non, V.bl true, V.bl false, V.str "1", V.ref t, V.int (-1), V.int (64 + r1), V.int (0 - r2), low]) := o3.at nbq upd_same
    have htb : t ≠ b := (B.new nt).1
    have ht : H3 t = some (HO.tup [V.int 1]) := by
      refine o3.at htb ?_
      have e := o2.at htb (o1.at htb (upd_same (H := H) (a := t) (o := HO.tup [V.int 1])))
      rw [upd_ne (ne_of_none e nq)]
      exact e
    have h30 : (10 : Int) ^ (30 : Int).toNat = 1000000000000000000000000000000 := by decide +kernel
    rw [h30] at u1 u2
    have ol3 : Odd H3 low := ol.kb B (k4.trans o3.kb)
    have fin : ∀ v, Odd H3 v → Q v H3 := fun v hv => k v H3 hv (k4.trans o3.kb) (B5.mono (by omega))
    have big : ((10 : Nat) ^ 40) = 10000000000000000000000000000000000000000 := by decide +kernel
    obtain ⟨m, rfl⟩ : ∃ m : Nat, r3 = (m : Int) := ⟨r3.toNat, by omega⟩
    have hm : m < 9 := by omega
    match m, hm with
    | 0, _ => exact ⟨q, _, _, _, rfl, rfl, SqL.of hq, rfl, fin _ .non⟩
    | 1, _ => exact ⟨q, _, _, _, rfl, rfl, SqL.of hq, rfl, fin _ (.bl _)⟩
    | 2, _ => exact ⟨q, _, _, _, rfl, rfl, SqL.of hq, rfl, fin _ (.bl _)⟩
    | 3, _ => exact ⟨q, _, _, _, rfl, rfl, SqL.of hq, rfl, fin _ .one⟩
    | 4, _ => exact ⟨q, _, _, _, rfl, rfl, SqL.of hq, rfl, fin _ (.tup ht)⟩
    | 5, _ => exact ⟨q, _, _, _, rfl, rfl, SqL.of hq, rfl, fin _ (.int _ (by omega))⟩
    | 6, _ => exact ⟨q, _, _, _, rfl, rfl, SqL.of hq, rfl, fin _ (.int _ (by omega))⟩
    | 7, _ => exact ⟨q, _, _, _, rfl, rfl, SqL.of hq, rfl, fin _ (.int _ (by omega))⟩
    | 8, _ => exact ⟨q, _, _, _, rfl, rfl, SqL.of hq, rfl, fin _ ol3⟩
end
end K01

set_option maxRecDepth 100000
set_option maxHeartbeats 4000000
namespace K01
open PySem PySem.Spec PyProof.Rows L2 Q RZ
section
variable {P : Program} {w : World} {K : PySem.W.Frag} {mg : Str → Option Value} {base : Heap} {f : Addr} {fd : FuncData}
def dueW (o : Option (Str × Int)) : Str × Int := o.getD (("right" : Str), 0)
/-- both ways of telling: a couple of the word and the number -/
def spTell : Sp := fun vs H Q _ => ∃ (v1 v2 : V) (T1 T2 : String), vs = [v1, v2] ∧ Kn H v1 T1 ∧ Kn H v2 T2 ∧ Its H v1 ∧ Its H v2 ∧
  ∀ (p : Addr) (H' : Hp), Same H H' → H' p = some (.tup [.str (dueW (boxFault (seqOf H v1) (seqOf H v2))).1, .int (dueW (boxFault (seqOf H v1) (seqOf H v2))).2]) → Q (.ref p) H'
theorem C_due (T : Tx K mg) : Cal P w K mg base CX0 2 "_law_due" ["lows", "highs"] [] spTell := by
  obtain ⟨fd, F⟩ := T.d__law_due
  have C__law_whole := C_law_whole (P := P) (w := w) (base := base) T
  refine ⟨_, fd, [], F.ok sc__law_due (fun vs H Q E h => ?_) (fun cdv A outer s H vs Q E hr h => ?_), T.g__law_due, F.kp, F.bindsN fun _ _ _ _ _ _ us hl => match us, hl with | [_, _], _ => rfl, .nil⟩
  · obtain ⟨v1, v2, T1, T2, rfl, _⟩ := h
    rfl
  · obtain ⟨v1, v2, T1, T2, rfl, kn1, kn2, it1, it2, kQ⟩ := h
    have two : 2 ≤ sizeLine := by decide
    have fin : ∀ (w : Str) (n : Int) (p : Addr) (H' : Hp), dueW (boxFault (seqOf H v1) (seqOf H v2)) = (w, n) → Same H H' → H' p = none → Q (.ref p) (upd H' p (.tup [.str w, .int n])) := fun w n p H' e sm np =>
      kQ p _ (sm.trans (same_new np)) (by rw [e, upd_same])
    refine ⟨_, PSs.nox (pss_cons (ps_if (PW.pt (pw_or (pt_not (pt_val (pe_callB call_isiT (by rfl) T.n_isinstance (by decide +kernel) (pa_cons (pv 0) (pa_cons (pe_tup (pa_cons (pe_bltn (v := .ty "list") (u := .type "list") (by rfl) T.n_list (by decide +kernel) rfl) (pa_cons (pe_bltn (v := .ty "tuple") (u := .type "tuple") (by rfl) T.n_tuple (by decide +kernel) rfl) pa_nil))) pa_nil))))) (pw_or1 (pt_cmpR op_gt (pe_callB call_len_seq (by rfl) T.n_len (by decide +kernel) (pa_cons (pv 0) pa_nil)) pe_int (nomark _)))))
        (pss_one (ps_ret (pe_tup (pa_cons pe_str (pa_cons pe_int pa_nil)))))
        pss_nil)
      (pss_cons (ps_if (PW.pt (pw_or (pt_not (pt_val (pe_callB call_isiT (by rfl) T.n_isinstance (by decide +kernel) (pa_cons (pv 1) (pa_cons (pe_tup (pa_cons (pe_bltn (v := .ty "list") (u := .type "list") (by rfl) T.n_list (by decide +kernel) rfl) (pa_cons (pe_bltn (v := .ty "tuple") (u := .type "tuple") (by rfl) T.n_tuple (by decide +kernel) rfl) pa_nil))) pa_nil))))) (pw_or1 (pt_cmpR op_ne (pe_callB call_len_seq (by rfl) T.n_len (by decide +kernel) (pa_cons (pv 1) pa_nil)) (pe_callB call_len_seq (by rfl) T.n_len (by decide +kernel) (pa_cons (pv 0) pa_nil)) (nomark _)))))
        (pss_one (ps_ret (pe_tup (pa_cons pe_str (pa_cons pe_int pa_nil)))))
        pss_nil)
      (pss_cons (ps_for PassesOwn.never rfl (pi_range1 (by rfl) T.n_range (pa_cons (pe_callB call_len_seq (by rfl) T.n_len (by decide +kernel) (pa_cons (pv 0) pa_nil)) pa_nil)) (pg_name (i := 2) sc__law_due.nd rfl (Or.inl rfl))
        (pss_cons (ps_if (pt_not (pt_val (pe_cal C__law_whole (hr.mono (by decide)) pass0 (pa_cons (pe_ix ix_seq (pv 0) (pv 2) (fun _ _ => rfl)) (pa_cons pe_int (pa_cons pe_int pa_nil))))))
          (pss_one (ps_ret (pe_tup (pa_cons pe_str (pa_cons (pv 2) pa_nil)))))
          pss_nil)
        (pss_one (ps_if (pt_not (pt_val (pe_cal C__law_whole (hr.mono (by decide)) pass0 (pa_cons (pe_ix ix_seq (pv 1) (pv 2) (fun _ _ => rfl)) (pa_cons (pe_op op_add (pe_ix ix_seq (pv 0) (pv 2) (fun _ _ => rfl)) pe_int) (pa_cons pe_int pa_nil))))))
          (pss_one (ps_ret (pe_tup (pa_cons pe_str (pa_cons (pv 2) pa_nil)))))
          pss_nil))))
      (pss_one (ps_ret (pe_tup (pa_cons pe_str (pa_cons pe_int pa_nil)))))))), ?_⟩
    rcases kn1.seqSome with ⟨q1, a1, xs1, rfl, hs1, hh1⟩ | ⟨q1, hs1⟩
    case inr =>
      have z : PySem.W.kitAny K (.type T1) [.type "list", .type "tuple"] = some false := by rw [kn1.seq, q1]
      refine ⟨_, rfl, two, fun p1 np1 => ⟨_, p1, _, _, _, _, rfl, upd_same, .cons (.ty _) (.cons (.ty _) .nil), (kn1.same (same_new np1)).ty, z, _, rfl, iteT (iteT ⟨two, fun p np => ?_⟩)⟩⟩
      exact fin "lows" 0 p _ (by rw [hs1]; rfl) (same_new np1) np
    have z1 : PySem.W.kitAny K (.type T1) [.type "list", .type "tuple"] = some true := by rw [kn1.seq, q1]
    have sq1 : Sq K H a1 xs1 := sq_of hh1
    refine ⟨_, rfl, two, fun p1 np1 => ⟨_, p1, _, _, _, _, rfl, upd_same, .cons (.ty _) (.cons (.ty _) .nil), (kn1.same (same_new np1)).ty, z1, _, rfl, iteF ?_⟩⟩
    have s1 := same_new (o := HO.tup [V.ty "list", V.ty "tuple"]) np1
    refine ⟨_, rfl, _, _, rfl, sq1.same s1, _, _, rfl, rfl, _, rfl, ite2 (fun c => ?_) (fun c => ?_)⟩
    · have c' : 5 < xs1.length := by
        have := of_decide_eq_true c
        omega
      refine ⟨two, fun p np => fin "lows" 0 p _ ?_ s1 np⟩
      rw [hs1]
      show dueW (if 5 < xs1.length then some (("lows" : Str), (0 : Int)) else _) = _
      rw [if_pos c']
      rfl
    have c5 : ¬ 5 < xs1.length := fun z => c (decide_eq_true (by omega))
    generalize hH1 : upd H p1 (HO.tup [V.ty "list", V.ty "tuple"]) = H1 at s1 ⊢
    rcases kn2.seqSome with ⟨q2, a2, xs2, rfl, hs2, hh2⟩ | ⟨q2, hs2⟩
    case inr =>
      have z : PySem.W.kitAny K (.type T2) [.type "list", .type "tuple"] = some false := by rw [kn2.seq, q2]
      refine ⟨_, rfl, two, fun p2 np2 => ⟨_, p2, _, _, _, _, rfl, upd_same, .cons (.ty _) (.cons (.ty _) .nil), (kn2.same (s1.trans (same_new np2))).ty, z, _, rfl, iteT (iteT ⟨two, fun p np => ?_⟩)⟩⟩
      refine fin "highs" 0 p _ ?_ (s1.trans (same_new np2)) np
      rw [hs1, hs2]
      show dueW (if 5 < xs1.length then some (("lows" : Str), (0 : Int)) else _) = _
      rw [if_neg c5]
      rfl
    have z2 : PySem.W.kitAny K (.type T2) [.type "list", .type "tuple"] = some true := by rw [kn2.seq, q2]
    have sq2 : Sq K H a2 xs2 := sq_of hh2
    refine ⟨_, rfl, two, fun p2 np2 => ⟨_, p2, _, _, _, _, rfl, upd_same, .cons (.ty _) (.cons (.ty _) .nil), (kn2.same (s1.trans (same_new np2))).ty, z2, _, rfl, iteF ?_⟩⟩
    have s2 := s1.trans (same_new (o := HO.tup [V.ty "list", V.ty "tuple"]) np2)
    generalize hH2 : upd H1 p2 (HO.tup [V.ty "list", V.ty "tuple"]) = H2 at s2 ⊢
    have bf : boxFault (seqOf H (V.ref a1)) (seqOf H (V.ref a2)) = if xs2.length = xs1.length then faultFrom 0 xs1 xs2 else some (("highs" : Str), 0) := by
      rw [hs1, hs2]
      show (if 5 < xs1.length then some (("lows" : Str), (0 : Int)) else _) = _
      rw [if_neg c5]
    refine ⟨_, rfl, _, _, rfl, sq2.same s2, _, rfl, _, _, rfl, sq1.same s2, rfl, _, rfl, ite2 (fun c => ?_) (fun c => ?_)⟩
    · refine ⟨two, fun p np => fin "highs" 0 p _ ?_ s2 np⟩
      rw [bf, if_neg]
      · rfl
      · intro e
        rw [e] at c
        simp at c
    have el : xs2.length = xs1.length := by
      simp at c
      omega
    rw [if_pos el] at bf
    rw [bf] at fin
    refine ⟨_, rfl, _, _, rfl, sq1.same s2, (xs1.length : Int), rfl, by omega, by omega, ?_⟩
    rw [Int.toNat_natCast]
    refine for_range (lo := 0) (n := xs1.length) (fun i σ H' => (∃ v3, σ = [some (.ref a1), some (.ref a2), v3]) ∧ Same H H' ∧ faultFrom i (xs1.drop i) (xs2.drop i) = faultFrom 0 xs1 xs2) ⟨⟨none, rfl⟩, s2, by rw [List.drop_zero, List.drop_zero]⟩ ?_ ?_
    · rintro i σ H' hi ⟨⟨v3, rfl⟩, sm, ff⟩
      have hi2 : i < xs2.length := by omega
      have g1 : xs1[i]? = some xs1[i] := List.getElem?_eq_getElem hi
      have g2 : xs2[i]? = some xs2[i] := List.getElem?_eq_getElem hi2
      obtain ⟨U1, ku1⟩ := it1 xs1 hs1 xs1[i] (List.getElem_mem hi)
      obtain ⟨U2, ku2⟩ := it2 xs2 hs2 xs2[i] (List.getElem_mem hi2)
      have ai1 : atI xs1 ((0 : Int) + (i : Int)) = some xs1[i] := by rw [Int.zero_add]; exact atI_nat g1
      have ai2 : atI xs2 ((0 : Int) + (i : Int)) = some xs2[i] := by rw [Int.zero_add]; exact atI_nat g2
      have stp := fault_step g1 g2
      refine ⟨_, rfl, _, rfl, rix_of (sq1.same sm) ai1 ?_⟩
      refine ⟨_, 0, 63, U1, rfl, ku1.same sm, _, rfl, ?_⟩
      cases w1 : wholeV xs1[i] 0 63 with
      | false =>
        have cf : colFault xs1[i] xs2[i] = some ("low" : Str) := by
          unfold colFault
          split
          · rename_i k hk
            rw [if_neg (by rw [← hk, w1]; exact Bool.false_ne_true)]
          · rfl
        rw [cf] at stp
        refine iteT ⟨_, rfl, two, fun p np => fin "low" _ p _ ?_ sm np⟩
        rw [← ff, stp, Int.zero_add]
        rfl
      | true =>
        obtain ⟨k, hk⟩ : ∃ k, xs1[i] = V.int k := by
          cases e : xs1[i] with
          | int k => exact ⟨k, rfl⟩
          | _ => rw [e] at w1; cases w1
        refine iteF ⟨_, rfl, _, rfl, rix_of (sq2.same sm) ai2 ?_⟩
        refine ⟨_, rfl, _, rfl, rix_of (sq1.same sm) ai1 ?_⟩
        refine ⟨k, 1, hk, rfl, _, k + 1, 64, U2, rfl, ku2.same sm, _, rfl, ?_⟩
        cases w2 : wholeV xs2[i] (k + 1) 64 with
        | false =>
          have cf : colFault xs1[i] xs2[i] = some ("high" : Str) := by
            rw [hk] at w1 ⊢
            show (if wholeV (.int k) 0 63 = true then (if wholeV xs2[i] (k + 1) 64 = true then none else some (("high" : Str))) else some ("low" : Str)) = _
            rw [if_pos w1, if_neg (by rw [w2]; exact Bool.false_ne_true)]
          rw [cf] at stp
          refine iteT ⟨_, rfl, two, fun p np => fin "high" _ p _ ?_ sm np⟩
          rw [← ff, stp, Int.zero_add]
          rfl
        | true =>
          have cf : colFault xs1[i] xs2[i] = none := by
            rw [hk] at w1 ⊢
            show (if wholeV (.int k) 0 63 = true then (if wholeV xs2[i] (k + 1) 64 = true then none else some (("high" : Str))) else some ("low" : Str)) = _
            rw [if_pos w1, if_pos w2]
          rw [cf] at stp
          exact iteF ⟨⟨_, rfl⟩, sm, stp.symm.trans ff⟩
    · rintro σ H' ⟨⟨v3, rfl⟩, sm, ff⟩
      have fn0 : faultFrom 0 xs1 xs2 = none := by
        rw [← ff, List.drop_eq_nil_of_le (Nat.le_refl _)]
        cases xs2.drop xs1.length <;> rfl
      exact ⟨two, fun p np => fin "right" 0 p _ (by rw [fn0]; rfl) sm np⟩
end
end K01

set_option maxRecDepth 100000
set_option maxHeartbeats 4000000
namespace K01
open PySem PySem.Spec PyProof.Rows L2 Q RZ
section
variable {P : Program} {w : World} {K : PySem.W.Frag} {mg : Str → Option Value} {base : Heap} {f : Addr} {fd : FuncData}
theorem C_told (T : Tx K mg) : Cal P w K mg base CX0 5 "_law_told" ["lows", "highs"] [] spTell := by
  obtain ⟨fd, F⟩ := T.d__law_told
  obtain ⟨fdB, G_Box, b_Box⟩ := ok_boxinit (P := P) (w := w) (base := base) T
  refine ⟨_, fd, [], F.ok sc__law_told (fun vs H Q E h => ?_) (fun cdv A outer s H vs Q E hr h => ?_), T.g__law_told, F.kp, F.bindsN fun _ _ _ _ _ _ us hl => match us, hl with | [_, _], _ => rfl, .nil⟩
  · obtain ⟨v1, v2, T1, T2, rfl, _⟩ := h
    rfl
  · obtain ⟨v1, v2, T1, T2, rfl, kn1, kn2, it1, it2, kQ⟩ := h
    have two : 2 ≤ sizeLine := by decide
    refine ⟨_, PSs.nox (pss_cons (ps_try_as (i := 3) (tb := _) (ts := _) rfl rfl sc__law_told.nd rfl rfl ⟨rfl, by decide, Or.inl T.g_BadBox⟩ takes0 (fun W pn xe tk _ => (pss_one (ps_set (i := 2) sc__law_told.nd rfl (Or.inl rfl) (pe_newS T.mk_Box G_Box (hr.mono (by decide)) T.g_Box b_Box (fun σ => passAt tk σ) (pa_cons (pv 0) (pa_cons (pv 1) pa_nil))))))
        (fun a oe cls d pn hz hf => (pss_one (ps_ret (pe_ifExp (PW.pt (pw_and (pt_val (pe_callB (call_isX T.x_BadBox hz hf) (by rfl) T.n_isinstance (by decide +kernel) (pa_cons (pv 3) (pa_cons (pe_glob (v := .ref (He.ga K "FetchError")) rfl T.g_FetchError rfl) pa_nil)))) (pw_and1 (pt_val (pe_callB (call_isX T.x_BadBox hz hf) (by rfl) T.n_isinstance (by decide +kernel) (pa_cons (pv 3) (pa_cons (pe_bltn (v := .ty "ValueError") (u := .type "ValueError") (by rfl) T.n_ValueError (by decide +kernel) rfl) pa_nil))))))) (pe_tup (pa_cons (pe_xf (xfC_of T.x_BadBox) T.noat_BadBox_what hz hf (pv 3)) (pa_cons (pe_xf (xfC_of T.x_BadBox) T.noat_BadBox_at hz hf (pv 3)) pa_nil))) (pe_tup (pa_cons pe_str (pa_cons pe_int pa_nil))))))))
      (pss_cons (ps_if (PW.pt (pw_or (pt_cmpR (op_neD hr.units) (pe_fld (pv 2) rfl) (pe_callTy call_tupOf (by rfl) T.n_tuple (by decide +kernel) (pa_cons (pv 0) pa_nil)) (nomark _)) (pw_or1 (pt_cmpR (op_neD hr.units) (pe_fld (pv 2) rfl) (pe_callTy call_tupOf (by rfl) T.n_tuple (by decide +kernel) (pa_cons (pv 1) pa_nil)) (nomark _)))))
        (pss_one (ps_ret (pe_tup (pa_cons pe_str (pa_cons pe_int pa_nil)))))
        pss_nil)
      (pss_one (ps_ret (pe_tup (pa_cons pe_str (pa_cons pe_int pa_nil))))))), ?_⟩
    refine ⟨_, rfl, _, rfl, fun y dy ny ndy ne => ?_⟩
    have s0 : Same H (upd (upd H dy (.own y)) y (.ins (He.ga K "Box") dy [])) := (same_new ndy).trans (same_new (by rw [upd_ne ne.symm]; exact ny))
    refine ⟨y, dy, v1, v2, T1, T2, rfl, upd_same, kn1.same s0, kn2.same s0, it1.same kn1 s0, it2.same kn2 s0, ?_, ?_⟩
    · -- the error
      intro w n H' d ft sm nd hd
      rw [kn1.seqOf s0, kn2.seqOf s0] at ft
      rw [ft] at kQ
      refine ⟨true, T.e_BadBox, fun _ a na => ?_, fun z => nomatch z⟩
      have dd : ∀ q, some d = some q → ∃ o, H' q = some o := fun q e => by
        cases e
        exact ⟨_, hd⟩
      refine ⟨_, rfl, rfl, dd, _, _, _, rfl, fun _ h => h, T.kit_BadBox_FetchError, _, rfl, iteT ⟨_, rfl, rfl, dd, _, _, _, rfl, fun _ h => h, T.kit_BadBox_ValueError, _, rfl, iteT ?_⟩⟩
      refine ⟨_, rfl, rfl, rfl, d, _, _, rfl, hd, by rw [lookup_put, if_neg (by decide +kernel), lookup_put, if_pos rfl], _, rfl, rfl, rfl, d, _, _, rfl, hd, by rw [lookup_put, if_pos rfl], two, fun p np => ?_⟩
      exact kQ p _ ((s0.trans sm).trans (same_new np)) upd_same
    · -- the box
      intro lz hz H' ft h1 h2 rg l5 keep bx
      rw [kn1.seqOf s0, kn2.seqOf s0] at ft
      rw [kn1.seqOf s0] at h1
      rw [kn2.seqOf s0] at h2
      rw [ft] at kQ
      have keep' : Same H H' := fun b o e => keep b o (ne_of_none e ny) (s0 b o e)
      obtain ⟨a1, rfl, sq1⟩ : ∃ a1, v1 = .ref a1 ∧ Sq K H a1 (lz.map V.int) := by
        rcases kn1.seqSome with ⟨-, a1, xs, e, hs, hh⟩ | ⟨-, hs⟩
        · rw [h1] at hs
          cases hs
          exact ⟨a1, e, sq_of hh⟩
        · rw [h1] at hs
          cases hs
      obtain ⟨a2, rfl, sq2⟩ : ∃ a2, v2 = .ref a2 ∧ Sq K H a2 (hz.map V.int) := by
        rcases kn2.seqSome with ⟨-, a2, xs, e, hs, hh⟩ | ⟨-, hs⟩
        · rw [h2] at hs
          cases hs
          exact ⟨a2, e, sq_of hh⟩
        · rw [h2] at hs
          cases hs
      obtain ⟨dy', tl, th, tt, fs, hy, -, f1, f2, -, -, ql, qh, -⟩ := bx
      refine ⟨rfl, ?_⟩
      refine ⟨_, rfl, y, _, dy', fs, _, rfl, hy, T.cls_Box, T.noat_Box_lows, f1, _, rfl, ?_⟩
      refine tupOf_of (sq1.same keep') fun l H1 q1 sa _ => ?_
      refine ⟨_, _, dp_ints (sqT_same sa ql), dp_ints q1, shaped_ints lz, shaped_ints lz, _, rfl, ?_⟩
      rw [eqv_ints, decide_eq_true rfl]
      refine iteF ⟨_, rfl, y, _, dy', fs, _, rfl, sa _ _ hy, T.cls_Box, T.noat_Box_highs, f2, _, rfl, ?_⟩
      refine tupOf_of ((sq2.same keep').same sa) fun l2 H2 q2 sb _ => ?_
      refine ⟨_, _, dp_ints (sqT_same sb (sqT_same sa qh)), dp_ints q2, shaped_ints hz, shaped_ints hz, _, rfl, ?_⟩
      rw [eqv_ints, decide_eq_true rfl]
      refine iteF ⟨two, fun p np => ?_⟩
      exact kQ p _ (((keep'.trans sa).trans sb).trans (same_new np)) upd_same
end
end K01

set_option maxRecDepth 100000
set_option maxHeartbeats 4000000
namespace K01
open PySem PySem.Spec PyProof.Rows L2 Q RZ
theorem Rgs.snoc : ∀ {ls hs : List Int} {x y : Int}, Rgs ls hs → 0 ≤ x → x < y → y ≤ 64 → Rgs (ls ++ [x]) (hs ++ [y])
  | [], [], _, _, _, h1, h2, h3 => ⟨h1, h2, h3, trivial⟩
  | [], _ :: _, _, _, h, _, _, _ => h.elim
  | _ :: _, [], _, _, h, _, _, _ => h.elim
  | a :: ls, b :: hs, x, y, h, h1, h2, h3 => ⟨h.1, h.2.1, h.2.2.1, Rgs.snoc (ls := ls) (hs := hs) h.2.2.2 h1 h2 h3⟩
def okW (o : Option (Str × Int)) : Prop := ∀ w n, o = some (w, n) → PyData.canLay0 (.str w) = true
theorem okW_col {l h : V} {w : Str} (e : colFault l h = some w) : PyData.canLay0 (.str w) = true := by
  unfold colFault at e
  split at e
  · split at e
    · split at e
      · cases e
      · cases e
        decide +kernel
    · cases e
      decide +kernel
  · cases e
    decide +kernel
theorem okW_from : ∀ {n : Nat} {ls hs : List V}, okW (faultFrom n ls hs)
  | n, l :: ls, h :: hs => by
    intro w m e
    have z : (match colFault l h with
      | some w => some (w, (n : Int))
      | none => faultFrom (n + 1) ls hs) = some (w, m) := e
    cases q : colFault l h with
    | some w' =>
      rw [q] at z
      cases z
      exact okW_col q
    | none =>
      rw [q] at z
      exact okW_from (n := n + 1) (ls := ls) (hs := hs) w m z
  | _, [], _ => fun _ _ e => by cases e
  | _, _ :: _, [] => fun _ _ e => by cases e
theorem okW_box {a b : Option (List V)} : okW (boxFault a b) := by
  intro w n e
  unfold boxFault at e
  split at e
  · split at e
    · cases e
      decide +kernel
    · split at e
      · split at e
        · exact okW_from w n e
        · cases e
          decide +kernel
      · cases e
        decide +kernel
  · cases e
    decide +kernel
theorem okW_due {a b : Option (List V)} : PyData.canLay0 (.str (dueW (boxFault a b)).1) = true := by
  cases e : boxFault a b with
  | none => decide +kernel
  | some p => exact okW_box p.1 p.2 e
section
variable {P : Program} {w : World} {K : PySem.W.Frag} {mg : Str → Option Value} {base : Heap} {f : Addr} {fd : FuncData}
/-- told and due of the same two things are the same couple -/
theorem tell_ne {H : Hp} {R : VK} {p q : Addr} {o : Str × Int} (hp : H p = some (.tup [.str o.1, .int o.2])) (hq : H q = some (.tup [.str o.1, .int o.2])) (hw : PyData.canLay0 (.str o.1) = true) (r : R (.bl false) H) : rNeD K (.ref p) (.ref q) H R := by
  refine ⟨_, _, word_dat (SqT.of hp), word_dat (SqT.of hq), word_shaped hw, word_shaped hw, ?_⟩
  rw [word_eq]
  exact r
theorem tell_eq {H : Hp} {R : VK} {p q : Addr} {o : Str × Int} (hp : H p = some (.tup [.str o.1, .int o.2])) (hq : H q = some (.tup [.str o.1, .int o.2])) (hw : PyData.canLay0 (.str o.1) = true) (r : R (.bl true) H) : rEqD K (.ref p) (.ref q) H R := by
  refine ⟨_, _, word_dat (SqT.of hp), word_dat (SqT.of hq), word_shaped hw, word_shaped hw, ?_⟩
  rw [word_eq]
  exact r
theorem its_ints {H : Hp} {v : V} {ns : List Int} (h : seqOf H v = some (ns.map V.int)) : Its H v := fun xs hx x m => by
  rw [h] at hx
  cases hx
  obtain ⟨n, -, rfl⟩ := List.mem_map.mp m
  exact ⟨_, .int n⟩
theorem its_none {H : Hp} {v : V} (h : seqOf H v = none) : Its H v := fun xs hx => by
  rw [h] at hx
  cases hx
/-- the two lists, whatever stands in them, and the bag -/
structure Two (H : Hp) (b c l h : Addr) (ls hs : List V) (n : Int) : Prop where
  bag : BagAt H b c n
  hl : H l = some (.lst ls)
  hh : H h = some (.lst hs)
  ol : ∀ x ∈ ls, Odd H x
  oh : ∀ x ∈ hs, Odd H x
  n1 : ls.length ≤ 8
  n2 : hs.length ≤ 8
  lb : l ≠ b
  hb : h ≠ b
theorem Two.off {H H' : Hp} {b c l h : Addr} {ls hs : List V} {n m : Int} (t : Two H b c l h ls hs n) (o : Off b H H') (B : BagAt H' b c m) : Two H' b c l h ls hs m :=
  ⟨B, o.at t.lb t.hl, o.at t.hb t.hh, fun x hx => (t.ol x hx).kb t.bag o.kb, fun x hx => (t.oh x hx).kb t.bag o.kb, t.n1, t.n2, t.lb, t.hb⟩
theorem Two.same {H H' : Hp} {b c l h : Addr} {ls hs : List V} {n : Int} (t : Two H b c l h ls hs n) (e : Same H H') : Two H' b c l h ls hs n :=
  ⟨t.bag.same e, e _ _ t.hl, e _ _ t.hh, fun x hx => (t.ol x hx).keep fun q xs z => e _ _ z, fun x hx => (t.oh x hx).keep fun q xs z => e _ _ z, t.n1, t.n2, t.lb, t.hb⟩
/-- one of the two lists, or a thing that is no sequence -/
def Sel (a : Addr) (v : V) : Prop := v = .ref a ∨ v = .non ∨ (∃ i, v = .int i) ∨ (∃ z, v = .str z) ∨ ∃ k, v = .bl k
theorem Sel.arg {H : Hp} {a : Addr} {v : V} {xs : List V} (h : Sel a v) (ha : H a = some (.lst xs)) (o : ∀ x ∈ xs, Odd H x) : ∃ T, Kn H v T ∧ Its H v := by
  rcases h with rfl | rfl | ⟨i, rfl⟩ | ⟨z, rfl⟩ | ⟨k, rfl⟩
  · refine ⟨_, .lst ha, fun ys hy x m => ?_⟩
    simp only [seqOf, ha] at hy
    cases hy
    exact (o x m).kn
  · exact ⟨_, .non, its_none rfl⟩
  · exact ⟨_, .int i, its_none rfl⟩
  · exact ⟨_, .str z, its_none rfl⟩
  · exact ⟨_, .bl k, its_none rfl⟩
theorem odds_set {H : Hp} {xs : List V} {v : V} (h : ∀ x ∈ xs, Odd H x) (hv : Odd H v) (j : Nat) : ∀ x ∈ xs.set j v, Odd H x := fun x m => by
  rcases List.mem_or_eq_of_mem_set m with m | rfl
  · exact h x m
  · exact hv
/-- an item of [None, 5, "", "ab", True] -/
theorem sel_item {K : PySem.W.Frag} {H : Hp} {q a : Addr} {r : Int} {R : VK} (hq : H q = some (.lst [.non, .int 5, .str "", .str "ab", .bl true])) (h0 : 0 ≤ r) (h5 : r < 5) (k : ∀ v, Sel a v → R v H) : rIxL K (.ref q) (.int r) H R := by
  obtain ⟨m, rfl⟩ : ∃ m : Nat, r = (m : Int) := ⟨r.toNat, by omega⟩
  have hm : m < 5 := by omega
  match m, hm with
  | 0, _ => exact ⟨q, _, _, _, rfl, rfl, SqL.of hq, rfl, k _ (.inr (.inl rfl))⟩
  | 1, _ => exact ⟨q, _, _, _, rfl, rfl, SqL.of hq, rfl, k _ (.inr (.inr (.inl ⟨_, rfl⟩)))⟩
  | 2, _ => exact ⟨q, _, _, _, rfl, rfl, SqL.of hq, rfl, k _ (.inr (.inr (.inr (.inl ⟨_, rfl⟩))))⟩
  | 3, _ => exact ⟨q, _, _, _, rfl, rfl, SqL.of hq, rfl, k _ (.inr (.inr (.inr (.inl ⟨_, rfl⟩))))⟩
  | 4, _ => exact ⟨q, _, _, _, rfl, rfl, SqL.of hq, rfl, k _ (.inr (.inr (.inr (.inr ⟨_, rfl⟩))))⟩
/-- an item of [0, 63, r1, r2] -/
theorem low_item {r1 r2 e : Int} (a1 : 0 ≤ r1) (b1 : r1 < 64) (a2 : 0 ≤ r2) (b2 : r2 < 64) (h0 : 0 ≤ e) (h4 : e < 4) : ∃ x : Int, atI [V.int 0, V.int 63, V.int r1, V.int r2] e = some (.int x) ∧ 0 ≤ x ∧ x < 64 := by
  obtain ⟨m, rfl⟩ : ∃ m : Nat, e = (m : Int) := ⟨e.toNat, by omega⟩
  have hm : m < 4 := by omega
  match m, hm with
  | 0, _ => exact ⟨0, rfl, by omega, by omega⟩
  | 1, _ => exact ⟨63, rfl, by omega, by omega⟩
  | 2, _ => exact ⟨r1, rfl, a1, b1⟩
  | 3, _ => exact ⟨r2, rfl, a2, b2⟩
theorem rgs_odd {H : Hp} : ∀ {ls hs : List Int}, Rgs ls hs → (∀ x ∈ ls.map V.int, Odd H x) ∧ ∀ x ∈ hs.map V.int, Odd H x
  | [], [], _ => ⟨(fun _ m => by cases m), (fun _ m => by cases m)⟩
  | [], _ :: _, h => h.elim
  | _ :: _, [], h => h.elim
  | a :: ls, b :: hs, h => by
    obtain ⟨i1, i2⟩ := rgs_odd (H := H) (ls := ls) (hs := hs) h.2.2.2
    have h1 := h.1
    have h2 := h.2.1
    have h3 := h.2.2.1
    have big : (10 : Nat) ^ 40 = 10000000000000000000000000000000000000000 := by decide +kernel
    exact ⟨fun x m => by
      rcases List.mem_cons.mp (show x ∈ V.int a :: ls.map V.int from m) with rfl | m
      · exact .int _ (by omega)
      · exact i1 x m, fun x m => by
      rcases List.mem_cons.mp (show x ∈ V.int b :: hs.map V.int from m) with rfl | m
      · exact .int _ (by omega)
      · exact i2 x m⟩
def spLaw (K : PySem.W.Frag) : Sp := fun vs H Q _ => ∃ (a : Addr) (ns : List Int), vs = [.ref a] ∧ SqL K H a (ns.map V.int) ∧ ∀ H', Q (.bl true) H'
theorem ok_law (T : Tx K mg) : ∃ fd, FnG P w K mg base CX0 6 (He.ga K "law") fd ["script"] (spLaw K) ∧ FnP K "law" "law" s_law [] (He.ga K "law") fd := by
  obtain ⟨fd, F⟩ := T.d_law
  have C__law_bag := C_bag (P := P) (w := w) (base := base) T
  have C__law_draw := C_draw (P := P) (w := w) (base := base) T
  have C__law_odd := C_odd (P := P) (w := w) (base := base) T
  have C__law_due := C_due (P := P) (w := w) (base := base) T
  have C__law_told := C_told (P := P) (w := w) (base := base) T
  refine ⟨fd, funG F sc_law (fun vs H Q E h => ?_) (fun cdv A outer s H vs Q E gd hr h => ?_), F⟩
  · obtain ⟨a, ns, rfl, _⟩ := h
    rfl
  · obtain ⟨a, ns, rfl, hS, kQ⟩ := h
    have two : 2 ≤ sizeLine := by decide
    refine ⟨_, PSs.nox (pss_cons (ps_set (i := 1) sc_law.nd rfl (Or.inl rfl) (pe_cal C__law_bag (hr.mono (by decide)) pass0 (pa_cons (pv 0) pa_nil)))
      (pss_cons (ps_for PassesOwn.never rfl (pi_range1 (by rfl) T.n_range (pa_cons pe_int pa_nil)) (pg_name (i := 2) sc_law.nd rfl (Or.inl rfl))
        (pss_cons (ps_set (i := 3) sc_law.nd rfl (Or.inl rfl) (pe_cal C__law_draw (hr.mono (by decide)) pass0 (pa_cons (pv 1) (pa_cons pe_int pa_nil))))
        (pss_cons (ps_set (i := 4) sc_law.nd rfl (Or.inl rfl) (pe_lst pa_nil))
        (pss_cons (ps_set (i := 5) sc_law.nd rfl (Or.inl rfl) (pe_lst pa_nil))
        (pss_cons (ps_for PassesOwn.never rfl (pi_range1 (by rfl) T.n_range (pa_cons (pv 3) pa_nil)) (pg_name (i := 6) sc_law.nd rfl (Or.inl rfl))
          (pss_cons (ps_set (i := 7) sc_law.nd rfl (Or.inl rfl) (pe_cal C__law_draw (hr.mono (by decide)) pass0 (pa_cons (pv 1) (pa_cons pe_int pa_nil))))
          (pss_cons (ps_set (i := 8) sc_law.nd rfl (Or.inl rfl) (pe_ix ix_list (pe_lst (pa_cons pe_int (pa_cons pe_int (pa_cons (pe_cal C__law_draw (hr.mono (by decide)) pass0 (pa_cons (pv 1) (pa_cons pe_int pa_nil))) (pa_cons (pe_cal C__law_draw (hr.mono (by decide)) pass0 (pa_cons (pv 1) (pa_cons pe_int pa_nil))) pa_nil))))) (pv 7) (fun _ _ => rfl)))
          (pss_cons (ps_expr (pe_bm PySem.F.plainAttrs_list PySem.F.slot_list_append PySem.F.type_list_append mt_append (pv 4) (pa_cons (pv 8) pa_nil)))
          (pss_one (ps_expr (pe_bm PySem.F.plainAttrs_list PySem.F.slot_list_append PySem.F.type_list_append mt_append (pv 5) (pa_cons (pe_op op_add (pe_op op_add (pv 8) pe_int) (pe_cal C__law_draw (hr.mono (by decide)) pass0 (pa_cons (pv 1) (pa_cons (pe_op op_sub pe_int (pv 8)) pa_nil)))) pa_nil))))))))
        (pss_cons (ps_if (pt_cmpR (op_neD hr.units) (pe_cal C__law_told (hr.mono (by decide)) pass0 (pa_cons (pv 4) (pa_cons (pe_callTy call_tupOf (by rfl) T.n_tuple (by decide +kernel) (pa_cons (pv 5) pa_nil)) pa_nil))) (pe_cal C__law_due (hr.mono (by decide)) pass0 (pa_cons (pv 4) (pa_cons (pv 5) pa_nil))) (nomark _))
          (pss_one (ps_ret pe_bl))
          pss_nil)
        (pss_cons (ps_for PassesOwn.never rfl (pi_range1 (by rfl) T.n_range (pa_cons (pe_cal C__law_draw (hr.mono (by decide)) pass0 (pa_cons (pv 1) (pa_cons pe_int pa_nil))) pa_nil)) (pg_name (i := 9) sc_law.nd rfl (Or.inl rfl))
          (pss_one (ps_if (pt_cmpR op_gt (pv 3) pe_int (nomark _))
            (pss_cons (ps_set (i := 10) sc_law.nd rfl (Or.inl rfl) (pe_cal C__law_draw (hr.mono (by decide)) pass0 (pa_cons (pv 1) (pa_cons (pv 3) pa_nil))))
            (pss_one (ps_if (pt_cmpR op_eq (pe_cal C__law_draw (hr.mono (by decide)) pass0 (pa_cons (pv 1) (pa_cons pe_int pa_nil))) pe_int (nomark _))
              (pss_one (ps_asg (pe_cal C__law_odd (hr.mono (by decide)) pass0 (pa_cons (pv 1) (pa_cons pe_int pa_nil))) (pg_sub (pv 4) (pv 10) set_list)))
              (pss_one (ps_asg (pe_cal C__law_odd (hr.mono (by decide)) pass0 (pa_cons (pv 1) (pa_cons (pe_ix ix_list (pv 4) (pv 10) (fun _ _ => rfl)) pa_nil))) (pg_sub (pv 5) (pv 10) set_list))))))
            pss_nil)))
        (C8.pss_cut (ps_if (pt_cmpR op_eq (pe_cal C__law_draw (hr.mono (by decide)) pass0 (pa_cons (pv 1) (pa_cons pe_int pa_nil))) pe_int (nomark _))
          (pss_one (ps_set (i := 5) sc_law.nd rfl (Or.inl rfl) (pe_op op_cat (pv 5) (pe_lst (pa_cons pe_int pa_nil)))))
          pss_nil)
        (pss_cons (ps_set (i := 11) sc_law.nd rfl (Or.inl rfl) (pv 4))
        (pss_cons (ps_set (i := 12) sc_law.nd rfl (Or.inl rfl) (pv 5))
        (pss_cons (ps_set (i := 13) sc_law.nd rfl (Or.inl rfl) (pe_cal C__law_draw (hr.mono (by decide)) pass0 (pa_cons (pv 1) (pa_cons pe_int pa_nil))))
        (C8.pss_cut (ps_if (pt_cmpR op_eq (pv 13) pe_int (nomark _))
          (pss_one (ps_set (i := 11) sc_law.nd rfl (Or.inl rfl) (pe_ix ix_list (pe_lst (pa_cons pe_non (pa_cons pe_int (pa_cons pe_str (pa_cons pe_str (pa_cons pe_bl pa_nil)))))) (pe_cal C__law_draw (hr.mono (by decide)) pass0 (pa_cons (pv 1) (pa_cons pe_int pa_nil))) (fun _ _ => rfl))))
          pss_nil)
        (C8.pss_cut (ps_if (pt_cmpR op_eq (pv 13) pe_int (nomark _))
          (pss_one (ps_set (i := 12) sc_law.nd rfl (Or.inl rfl) (pe_ix ix_list (pe_lst (pa_cons pe_non (pa_cons pe_int (pa_cons pe_str (pa_cons pe_str (pa_cons pe_bl pa_nil)))))) (pe_cal C__law_draw (hr.mono (by decide)) pass0 (pa_cons (pv 1) (pa_cons pe_int pa_nil))) (fun _ _ => rfl))))
          pss_nil)
        (pss_cons (ps_set (i := 14) sc_law.nd rfl (Or.inl rfl) (pe_callB (call_reprD gd hr.units) (by rfl) T.n_repr (by decide +kernel) (pa_cons (pe_tup (pa_cons (pv 4) (pa_cons (pv 5) pa_nil))) pa_nil)))
        (pss_one (ps_if (PW.pt (pw_or (pt_cmpR (op_neD hr.units) (pe_cal C__law_told (hr.mono (by decide)) pass0 (pa_cons (pv 11) (pa_cons (pv 12) pa_nil))) (pe_cal C__law_due (hr.mono (by decide)) pass0 (pa_cons (pv 11) (pa_cons (pv 12) pa_nil))) (nomark _)) (pw_or1 (pt_cmpR op_ne (pe_callB (call_reprD gd hr.units) (by rfl) T.n_repr (by decide +kernel) (pa_cons (pe_tup (pa_cons (pv 4) (pa_cons (pv 5) pa_nil))) pa_nil)) (pv 14) (nomark _)))))
          (pss_one (ps_ret pe_bl))
          pss_nil))))))))))))))))
      (pss_one (ps_ret (pe_and (pe_cmpR (op_eqD hr.units) (pe_cal C__law_told (hr.mono (by decide)) pass0 (pa_cons (pe_lst pa_nil) (pa_cons (pe_tup pa_nil) pa_nil))) (pe_tup (pa_cons pe_str (pa_cons pe_int pa_nil))) (nomark _)) (pe_and (pe_cmpR (op_eqD hr.units) (pe_cal C__law_told (hr.mono (by decide)) pass0 (pa_cons (pe_op op_rep (pe_lst (pa_cons pe_int pa_nil)) pe_int) (pa_cons (pe_op op_rep (pe_lst (pa_cons pe_int pa_nil)) pe_int) pa_nil))) (pe_tup (pa_cons pe_str (pa_cons pe_int pa_nil))) (nomark _)) (pe_one (pe_cmpR (op_eqD hr.units) (pe_cal C__law_told (hr.mono (by decide)) pass0 (pa_cons (pe_op op_rep (pe_lst (pa_cons pe_int pa_nil)) pe_int) (pa_cons (pe_op op_rep (pe_lst (pa_cons pe_int pa_nil)) pe_int) pa_nil))) (pe_tup (pa_cons pe_str (pa_cons pe_int pa_nil))) (nomark _))))))))), ?_⟩
    refine ⟨_, rfl, a, ns, rfl, hS, fun b c H1 nb nc s1 B => ?_⟩
    refine ⟨6, rfl, by decide, by decide, for_range (lo := 0) (n := 6) (fun i σ H' => (∃ o2 o3 o4 o5 o6 o7 o8 o9 o10 o11 o12 o13 o14, σ = [some (.ref a), some (.ref b), o2, o3, o4, o5, o6, o7, o8, o9, o10, o11, o12, o13, o14]) ∧ BagAt H' b c ((i : Int) * 100))
      ⟨⟨_, _, _, _, _, _, _, _, _, _, _, _, _, rfl⟩, B.mono (by decide)⟩ ?_ ?_⟩
    · rintro i σ H2 hi ⟨⟨o2, o3, o4, o5, o6, o7, o8, o9, o10, o11, o12, o13, o14, rfl⟩, B⟩
      have hi' : (i : Int) * 100 ≤ 500 := by omega
      have nx : ((i + 1 : Nat) : Int) * 100 = (i : Int) * 100 + 100 := by omega
      rw [nx]
      generalize (i : Int) * 100 = n0 at B hi'
      -- columns, lows, highs
      refine ⟨_, rfl, b, c, 7, n0, rfl, B, by decide, by decide, by omega, fun cols H3 c0 c7 o1 B1 => ?_⟩
      obtain ⟨m, rfl⟩ : ∃ m : Nat, cols = (m : Int) := ⟨cols.toNat, by omega⟩
      refine ⟨Nat.zero_le _, fun l nl => ?_⟩
      refine ⟨Nat.zero_le _, fun h nh => ?_⟩
      have B2 := (B1.updNew (o := HO.lst []) nl).updNew (o := HO.lst []) nh
      obtain ⟨lb, lc⟩ := B1.new nl
      obtain ⟨hb, hc⟩ := (B1.updNew (o := HO.lst []) nl).new nh
      have lh : l ≠ h := ne_of_none upd_same nh
      refine ⟨_, rfl, (m : Int), rfl, by omega, by omega, ?_⟩
      rw [Int.toNat_natCast]
      refine for_range (lo := 0) (n := m) (fun j σ H' => (∃ o6 o7 o8, σ = [some (.ref a), some (.ref b), some (.int (0 + (i : Int))), some (.int (m : Int)), some (.ref l), some (.ref h), o6, o7, o8, o9, o10, o11, o12, o13, o14]) ∧ BagAt H' b c (n0 + 1 + 4 * (j : Int)) ∧
        ∃ ls hs : List Int, H' l = some (.lst (ls.map V.int)) ∧ H' h = some (.lst (hs.map V.int)) ∧ ls.length = j ∧ hs.length = j ∧ Rgs ls hs) ⟨⟨_, _, _, rfl⟩, B2.mono (by omega), [], [], by rw [upd_ne lh]; exact upd_same, upd_same, rfl, rfl, trivial⟩ ?_ ?_
      · rintro j σ H4 hj ⟨⟨o6, o7, o8, rfl⟩, B, ls, hs, hl, hh, l1, l2, rg⟩
        -- end, low
        refine ⟨_, rfl, b, c, 4, _, rfl, B, by decide, by decide, by omega, fun e H5 e0 e4 f1 B3 => ?_⟩
        refine ⟨_, rfl, b, c, 64, _, rfl, B3, by decide, by decide, by omega, fun r1 H6 x1 y1 f2 B4 => ?_⟩
        refine ⟨_, rfl, b, c, 64, _, rfl, B4, by decide, by decide, by omega, fun r2 H7 x2 y2 f3 B5 => ?_⟩
        refine ⟨(by show 4 ≤ sizeLine; decide), fun q nq => ?_⟩
        obtain ⟨low, at_, low0, low1⟩ := low_item x1 y1 x2 y2 e0 e4
        refine ⟨_, rfl, q, _, e, _, rfl, rfl, SqL.of upd_same, at_, ?_⟩
        have f := f1.trans (f2.trans f3)
        have sq := same_new (o := HO.lst [V.int 0, V.int 63, V.int r1, V.int r2]) nq
        have hl' := sq _ _ (f.at lb hl)
        have hh' := sq _ _ (f.at hb hh)
        have B6 := B5.same sq
        generalize upd H7 q (HO.lst [V.int 0, V.int 63, V.int r1, V.int r2]) = H8 at hl' hh' B6 ⊢
        -- lows.append(low)
        refine ⟨_, rfl, .inl ⟨rfl, _, SqL.of hl'⟩, _, rfl, l, _, _, rfl, rfl, hl', (by rw [List.length_map]; exact small1000 (by omega)), ?_⟩
        have hh2 : (upd H8 l (.lst (ls.map V.int ++ [V.int low]))) h = some (.lst (hs.map V.int)) := by rw [upd_ne lh.symm]; exact hh'
        have B7 := B6.upd (o := HO.lst (ls.map V.int ++ [V.int low])) lb lc
        -- highs.append(low + 1 + draw)
        refine ⟨_, rfl, .inl ⟨rfl, _, SqL.of hh2⟩, _, rfl, _, _, rfl, rfl, _, rfl, _, rfl, _, _, rfl, rfl, b, c, _, _, rfl, B7, by omega, by omega, by omega, fun r H9 z0 z1 f4 B8 => ?_⟩
        have hl9 : H9 l = some (.lst (ls.map V.int ++ [V.int low])) := f4.at lb upd_same
        have hh9 : H9 h = some (.lst (hs.map V.int)) := f4.at hb hh2
        refine ⟨_, _, rfl, rfl, h, _, _, rfl, rfl, hh9, (by rw [List.length_map]; exact small1000 (by omega)), ?_⟩
        refine ⟨⟨_, _, _, rfl⟩, (B8.upd (o := HO.lst (hs.map V.int ++ [V.int (low + 1 + r)])) hb hc).mono (by omega), ls ++ [low], hs ++ [low + 1 + r], ?_, ?_, ?_, ?_, rg.snoc low0 (by omega) (by omega)⟩
        · rw [upd_ne lh, hl9, List.map_append]
          rfl
        · rw [upd_same, List.map_append]
          rfl
        · rw [List.length_append, l1]
          rfl
        · rw [List.length_append, l2]
          rfl
      · rintro σ H4 ⟨⟨o6, o7, o8, rfl⟩, B, ls, hs, hl, hh, l1, l2, rg⟩
        -- the right box
        refine ⟨_, rfl, _, rfl, ?_⟩
        refine tupL_of (SqL.of hh) fun t nt => ?_
        have st := same_new (o := HO.tup (hs.map V.int)) nt
        have e1 : seqOf (upd H4 t (.tup (hs.map V.int))) (.ref l) = some (ls.map V.int) := by simp only [seqOf, st _ _ hl]
        have e2 : seqOf (upd H4 t (.tup (hs.map V.int))) (.ref t) = some (hs.map V.int) := by simp only [seqOf, upd_same]
        refine ⟨_, _, _, _, rfl, .lst (st _ _ hl), .tup upd_same, its_ints e1, its_ints e2, fun p H5 s5 hp => ?_⟩
        have e3 : seqOf H5 (.ref l) = some (ls.map V.int) := by simp only [seqOf, s5 _ _ (st _ _ hl)]
        have e4 : seqOf H5 (.ref h) = some (hs.map V.int) := by simp only [seqOf, s5 _ _ (st _ _ hh)]
        refine ⟨_, rfl, _, rfl, _, _, _, _, rfl, .lst (s5 _ _ (st _ _ hl)), .lst (s5 _ _ (st _ _ hh)), its_ints e3, its_ints e4, fun p2 H6 s6 hp2 => ?_⟩
        rw [e1, e2] at hp
        rw [e3, e4] at hp2
        refine tell_ne (s6 _ _ hp) hp2 okW_due ⟨_, rfl, iteF ?_⟩
        have s46 := st.trans (s5.trans s6)
        have W : Two H6 b c l h (ls.map V.int) (hs.map V.int) (n0 + 1 + 4 * (m : Int)) := by
          refine ⟨B.same s46, s46 _ _ hl, s46 _ _ hh, (rgs_odd rg).1, (rgs_odd rg).2, ?_, ?_, lb, hb⟩ <;> rw [List.length_map] <;> omega
        obtain ⟨lsV, hsV, n2, hn2, W, k1, k2⟩ : ∃ lsV hsV n2, n2 = n0 + 1 + 4 * (m : Int) ∧ Two H6 b c l h lsV hsV n2 ∧ lsV.length = m ∧ hsV.length = m := ⟨_, _, _, rfl, W, by rw [List.length_map, l1], by rw [List.length_map, l2]⟩
        -- up to three wrong things
        refine ⟨_, rfl, b, c, 4, _, rfl, W.bag, by decide, by decide, by omega, fun nw H7 w0 w4 f1 B7 => ?_⟩
        obtain ⟨wn, rfl⟩ : ∃ wn : Nat, nw = (wn : Int) := ⟨nw.toNat, by omega⟩
        refine ⟨(wn : Int), rfl, by omega, by omega, ?_⟩
        rw [Int.toNat_natCast]
        refine for_range (lo := 0) (n := wn) (fun j σ H' => (∃ o9 o10, σ = [some (.ref a), some (.ref b), some (.int (0 + (i : Int))), some (.int (m : Int)), some (.ref l), some (.ref h), o6, o7, o8, o9, o10, o11, o12, o13, o14]) ∧
          ∃ ls hs, Two H' b c l h ls hs (n2 + 1 + 5 * (j : Int)) ∧ ls.length = m ∧ hs.length = m) ⟨⟨_, _, rfl⟩, _, _, W.off f1 (B7.mono (by omega)), k1, k2⟩ ?_ ?_
        · rintro j σ H8 hj ⟨⟨o9, o10, rfl⟩, ls, hs, W, k1, k2⟩
          refine ⟨_, rfl, _, _, rfl, rfl, _, rfl, ite2 (fun cm => ?_) (fun cm => ?_)⟩
          · have mp : 0 < (m : Int) := of_decide_eq_true cm
            refine ⟨_, rfl, _, rfl, b, c, (m : Int), _, rfl, W.bag, mp, by omega, by omega, fun at_ H9 a0 am f2 B9 => ?_⟩
            obtain ⟨an, rfl⟩ : ∃ an : Nat, at_ = (an : Int) := ⟨at_.toNat, by omega⟩
            have W9 := W.off f2 B9
            refine ⟨_, rfl, b, c, 2, _, rfl, B9, by decide, by decide, by omega, fun r H10 _ _ f3 B10 => ?_⟩
            have W10 := W9.off f3 B10
            refine ⟨rfl, _, rfl, ite2 (fun _ => ?_) (fun _ => ?_)⟩
            · -- lows[at] = _law_odd(bag, 63)
              refine ⟨_, rfl, b, c, .int 63, _, rfl, B10, .int 63 (by decide +kernel), by omega, fun v H11 ov kb B11 => ?_⟩
              have hl := kb _ _ W.lb W10.hl
              have hh := kb _ _ W.hb W10.hh
              refine ⟨_, rfl, _, rfl, l, _, _, an, rfl, rfl, hl, ix_nat (by omega), ?_⟩
              have keepT : ∀ t xs, H11 t = some (.tup xs) → (upd H11 l (.lst (ls.set an v))) t = some (.tup xs) := fun t xs e => by
                rw [upd_ne (ne_of e hl (fun z => nomatch z))]
                exact e
              have nlh : h ≠ l := lh.symm
              refine ⟨⟨_, _, rfl⟩, _, _, ⟨(B11.upd lb lc).mono (by omega), upd_same, by rw [upd_ne nlh]; exact hh, odds_set (fun x mx => ((W10.ol x mx).kb B10 kb).keep keepT) (ov.keep keepT) an, fun x mx => ((W10.oh x mx).kb B10 kb).keep keepT, by rw [List.length_set]; exact W.n1, W.n2, lb, hb⟩, by rw [List.length_set]; exact k1, k2⟩
            · -- highs[at] = _law_odd(bag, lows[at])
              have al : an < ls.length := by omega
              have g : ls[an]? = some ls[an] := List.getElem?_eq_getElem al
              refine ⟨_, rfl, _, rfl, _, rfl, l, _, _, _, rfl, rfl, SqL.of W10.hl, atI_nat g, ?_⟩
              refine ⟨b, c, ls[an], _, rfl, B10, W10.ol _ (List.getElem_mem al), by omega, fun v H11 ov kb B11 => ?_⟩
              have hl := kb _ _ W.lb W10.hl
              have hh := kb _ _ W.hb W10.hh
              refine ⟨_, rfl, _, rfl, h, _, _, an, rfl, rfl, hh, ix_nat (by omega), ?_⟩
              have keepT : ∀ t xs, H11 t = some (.tup xs) → (upd H11 h (.lst (hs.set an v))) t = some (.tup xs) := fun t xs e => by
                rw [upd_ne (ne_of e hh (fun z => nomatch z))]
                exact e
              refine ⟨⟨_, _, rfl⟩, _, _, ⟨(B11.upd hb hc).mono (by omega), by rw [upd_ne lh]; exact hl, upd_same, fun x mx => ((W10.ol x mx).kb B10 kb).keep keepT, odds_set (fun x mx => ((W10.oh x mx).kb B10 kb).keep keepT) (ov.keep keepT) an, W.n1, by rw [List.length_set]; exact W.n2, lb, hb⟩, k1, by rw [List.length_set]; exact k2⟩
          · exact ⟨⟨_, _, rfl⟩, _, _, { W with bag := W.bag.mono (by omega) }, k1, k2⟩
        · rintro σ H8 ⟨⟨o9, o10, rfl⟩, ls, hs, W, k1, k2⟩
          obtain ⟨n3, hn3⟩ : ∃ n3, n3 = n2 + 1 + 5 * (wn : Int) := ⟨_, rfl⟩
          rw [← hn3] at W
          -- one high more
          refine ⟨fun σ H' => (∃ h hs, σ = [some (.ref a), some (.ref b), some (.int (0 + (i : Int))), some (.int (m : Int)), some (.ref l), some (.ref h), o6, o7, o8, o9, o10, o11, o12, o13, o14] ∧ Two H' b c l h ls hs (n3 + 1)), ?_, ?_⟩
          · refine ⟨_, rfl, b, c, 4, _, rfl, W.bag, by decide, by decide, by omega, fun r H9 _ _ f2 B9 => ?_⟩
            have W9 := W.off f2 B9
            refine ⟨rfl, _, rfl, ite2 (fun _ => ?_) (fun _ => ?_)⟩
            · refine ⟨_, rfl, (by show 1 ≤ sizeLine; decide), fun q nq => ?_⟩
              have sq := same_new (o := HO.lst [V.int 64]) nq
              have W10 := W9.same sq
              refine ⟨h, q, hs, _, rfl, rfl, W10.hh, upd_same, ?_, fun h2 nh2 => ?_⟩
              · have := W.n2
                rw [sizeLine_eq]
                show hs.length + 1 ≤ _
                omega
              · have s2 := same_new (o := HO.lst (hs ++ [V.int 64])) nh2
                have W11 := W10.same s2
                refine ⟨h2, hs ++ [V.int 64], rfl, W11.bag, W11.hl, upd_same, W11.ol, fun x mx => ?_, W.n1, ?_, lb, (W10.bag.new nh2).1⟩
                · rcases List.mem_append.mp mx with mx | mx
                  · exact W11.oh x mx
                  · obtain rfl := List.mem_singleton.mp mx
                    exact .int 64 (by decide +kernel)
                · rw [List.length_append, k2]
                  show m + 1 ≤ 8
                  omega
            · exact ⟨h, hs, rfl, W9⟩
          · rintro σ H9 ⟨h, hs, rfl, W⟩
            -- one = lows, other = highs, choice
            refine ⟨_, rfl, ?_⟩
            refine ⟨_, rfl, ?_⟩
            refine ⟨_, rfl, b, c, 12, _, rfl, W.bag, by decide, by decide, by omega, fun ch H10 _ _ f2 B10 => ?_⟩
            have W := W.off f2 B10
            refine ⟨fun σ H' => (∃ v1, Sel l v1 ∧ σ = [some (.ref a), some (.ref b), some (.int (0 + (i : Int))), some (.int (m : Int)), some (.ref l), some (.ref h), o6, o7, o8, o9, o10, some v1, some (.ref h), some (.int ch), o14]) ∧ Two H' b c l h ls hs (n3 + 3), ?_, ?_⟩
            · refine ⟨_, rfl, rfl, _, rfl, ite2 (fun _ => ?_) (fun _ => ?_)⟩
              · refine ⟨(by show 5 ≤ sizeLine; decide), fun q nq => ?_⟩
                have sq := same_new (o := HO.lst [V.non, V.int 5, V.str "", V.str "ab", V.bl true]) nq
                have W1 := W.same sq
                refine ⟨_, rfl, b, c, 5, _, rfl, W1.bag, by decide, by decide, by omega, fun r H11 r0 r5 f3 B11 => ?_⟩
                refine sel_item (a := l) (f3.at (W.bag.new nq).1 upd_same) r0 r5 fun v hv => ?_
                exact ⟨⟨v, hv, rfl⟩, W1.off f3 (B11.mono (by omega))⟩
              · exact ⟨⟨_, .inl rfl, rfl⟩, { W with bag := W.bag.mono (by omega) }⟩
            · rintro σ H11 ⟨⟨v1, hv1, rfl⟩, W⟩
              refine ⟨fun σ H' => (∃ v2, Sel h v2 ∧ σ = [some (.ref a), some (.ref b), some (.int (0 + (i : Int))), some (.int (m : Int)), some (.ref l), some (.ref h), o6, o7, o8, o9, o10, some v1, some v2, some (.int ch), o14]) ∧ Two H' b c l h ls hs (n3 + 4), ?_, ?_⟩
              · refine ⟨_, rfl, rfl, _, rfl, ite2 (fun _ => ?_) (fun _ => ?_)⟩
                · refine ⟨(by show 5 ≤ sizeLine; decide), fun q nq => ?_⟩
                  have sq := same_new (o := HO.lst [V.non, V.int 5, V.str "", V.str "ab", V.bl true]) nq
                  have W1 := W.same sq
                  refine ⟨_, rfl, b, c, 5, _, rfl, W1.bag, by decide, by decide, by omega, fun r H12 r0 r5 f3 B12 => ?_⟩
                  refine sel_item (a := h) (f3.at (W.bag.new nq).1 upd_same) r0 r5 fun v hv => ?_
                  exact ⟨⟨v, hv, rfl⟩, W1.off f3 (B12.mono (by omega))⟩
                · exact ⟨⟨_, .inl rfl, rfl⟩, { W with bag := W.bag.mono (by omega) }⟩
              · rintro σ H12 ⟨⟨v2, hv2, rfl⟩, W⟩
                -- before = repr((lows, highs))
                obtain ⟨e1, e2, d, hd, D1, D2, d1, d2, d3, d4⟩ := pair_dat (K := K) W.hl W.hh W.ol W.oh (by have := W.n1; omega) (by have := W.n2; omega)
                refine ⟨_, rfl, _, rfl, two, fun pr npr => ?_⟩
                have sp := same_new (o := HO.tup [V.ref l, V.ref h]) npr
                have W1 := W.same sp
                refine ⟨_, d, rfl, by rw [hd]; exact .tup (SqT.of upd_same) (.cons (dp_same sp _ _ D1) (.cons (dp_same sp _ _ D2) .nil)), ⟨_, rfl⟩, d1, d2, d3, d4, ?_⟩
                -- told and due of one and other
                obtain ⟨T1, kn1, it1⟩ := hv1.arg W1.hl W1.ol
                obtain ⟨T2, kn2, it2⟩ := hv2.arg W1.hh W1.oh
                refine ⟨_, rfl, _, rfl, v1, v2, T1, T2, rfl, kn1, kn2, it1, it2, fun p H13 s13 hp => ?_⟩
                refine ⟨_, rfl, _, rfl, v1, v2, T1, T2, rfl, kn1.same s13, kn2.same s13, it1.same kn1 s13, it2.same kn2 s13, fun p2 H14 s14 hp2 => ?_⟩
                rw [kn1.seqOf s13, kn2.seqOf s13] at hp2
                refine tell_ne (s14 _ _ hp) hp2 okW_due ⟨_, rfl, iteF ?_⟩
                -- repr((lows, highs)) != before
                refine ⟨_, rfl, _, rfl, two, fun pq npq => ?_⟩
                have s15 := (sp.trans (s13.trans s14)).trans (same_new (o := HO.tup [V.ref l, V.ref h]) npq)
                refine ⟨_, d, rfl, by rw [hd]; exact .tup (SqT.of upd_same) (.cons (dp_same s15 _ _ D1) (.cons (dp_same s15 _ _ D2) .nil)), ⟨_, rfl⟩, d1, d2, d3, d4, ?_⟩
                refine ⟨_, rfl, rfl, _, rfl, ?_⟩
                rw [decide_eq_true rfl]
                refine iteF ?_
                exact ⟨⟨_, _, _, _, _, _, _, _, _, _, _, _, _, rfl⟩, (W.same s15).bag.mono (by omega)⟩
    · rintro σ H2 ⟨⟨o2, o3, o4, o5, o6, o7, o8, o9, o10, o11, o12, o13, o14, rfl⟩, B⟩
      -- three right ones at the end
      refine ⟨Nat.zero_le _, fun l nl => ?_⟩
      refine ⟨Nat.zero_le _, fun t nt => ?_⟩
      have lt : l ≠ t := ne_of_none upd_same nt
      have hl : (upd (upd H2 l (.lst [])) t (.tup [])) l = some (.lst []) := by rw [upd_ne lt]; exact upd_same
      have e1 : seqOf (upd (upd H2 l (.lst [])) t (.tup [])) (.ref l) = some [] := by simp only [seqOf, hl]
      have e2 : seqOf (upd (upd H2 l (.lst [])) t (.tup [])) (.ref t) = some [] := by simp only [seqOf, upd_same]
      refine ⟨_, _, _, _, rfl, .lst hl, .tup upd_same, its_ints (ns := []) e1, its_ints (ns := []) e2, fun p H3 s3 hp => ?_⟩
      rw [e1, e2] at hp
      refine ⟨two, fun p2 np2 => ?_⟩
      refine tell_eq (same_new np2 _ _ hp) upd_same okW_due ⟨_, rfl, iteT ?_⟩
      refine ⟨(by show 1 ≤ sizeLine; decide), fun q1 nq1 => ⟨q1, 5, _, rfl, rfl, upd_same, by decide, by decide, (by show 1 * 5 ≤ sizeLine; decide), fun l1 nl1 => ?_⟩⟩
      refine ⟨(by show 1 ≤ sizeLine; decide), fun q2 nq2 => ⟨q2, 5, _, rfl, rfl, upd_same, by decide, by decide, (by show 1 * 5 ≤ sizeLine; decide), fun l2 nl2 => ?_⟩⟩
      have s12 := (same_new (o := HO.lst [V.int 64]) nq2).trans (same_new (o := HO.lst (List.replicate (5 : Int).toNat [V.int 64]).flatten) nl2)
      have k1 := s12 _ _ (upd_same (o := HO.lst (List.replicate (5 : Int).toNat [V.int 0]).flatten))
      refine ⟨_, _, _, _, rfl, .lst k1, .lst upd_same, its_ints (ns := [0, 0, 0, 0, 0]) (seqOf_lst k1), its_ints (ns := [64, 64, 64, 64, 64]) (seqOf_lst upd_same), fun p3 H4 s4 hp3 => ?_⟩
      rw [seqOf_lst k1, seqOf_lst (a := l2) upd_same] at hp3
      refine ⟨two, fun p4 np4 => ?_⟩
      refine tell_eq (same_new np4 _ _ hp3) upd_same okW_due ⟨_, rfl, iteT ?_⟩
      refine ⟨(by show 1 ≤ sizeLine; decide), fun q3 nq3 => ⟨q3, 6, _, rfl, rfl, upd_same, by decide, by decide, (by show 1 * 6 ≤ sizeLine; decide), fun l3 nl3 => ?_⟩⟩
      refine ⟨(by show 1 ≤ sizeLine; decide), fun q4 nq4 => ⟨q4, 6, _, rfl, rfl, upd_same, by decide, by decide, (by show 1 * 6 ≤ sizeLine; decide), fun l4 nl4 => ?_⟩⟩
      have s34 := (same_new (o := HO.lst [V.int 64]) nq4).trans (same_new (o := HO.lst (List.replicate (6 : Int).toNat [V.int 64]).flatten) nl4)
      have k3 := s34 _ _ (upd_same (o := HO.lst (List.replicate (6 : Int).toNat [V.int 0]).flatten))
      refine ⟨_, _, _, _, rfl, .lst k3, .lst upd_same, its_ints (ns := [0, 0, 0, 0, 0, 0]) (seqOf_lst k3), its_ints (ns := [64, 64, 64, 64, 64, 64]) (seqOf_lst upd_same), fun p5 H5 s5 hp5 => ?_⟩
      rw [seqOf_lst k3, seqOf_lst (a := l4) upd_same] at hp5
      refine ⟨two, fun p6 np6 => ?_⟩
      exact tell_eq (same_new np6 _ _ hp5) upd_same okW_due (kQ _)
end
end K01

set_option maxRecDepth 100000
set_option maxHeartbeats 0
namespace K01
open PySem PySem.Spec PyProof.Rows L2 Q
def ob (s : PySem.W.SharedT) : He.AlD := obsFG 6 fb fn (HandSHeadRun.getT s)
abbrev hk : PySem.W.Hook := hookF 6 fb fn
theorem ob_eq (s : PySem.W.SharedT) : ob s = hk.obs s.abs := obsFG_eq (HandSHeadRun.getT_eq s)
abbrev RowQ : PySem.W.OpenRow := PySem.W.OpenLaw.row PySem.Challenge.rw_fewfetches_k01_boxes_refused_in_order
theorem run (w : World) : HandSHeadRun.RunEq RowQ (PySem.W.view RowQ.prog [17]) hk ob 4000 ["_wall", "FetchError", "BadBox", "is_whole", "MOST_COLUMNS", "HIGHEST", "Box", "_law_bag", "_law_draw", "_law_odd", "_law_whole", "_law_due", "_law_told"] w := by
  intro os
  kernel_rfl

end K01

set_option maxRecDepth 100000
set_option maxHeartbeats 4000000
namespace K01
open PySem PySem.Spec PyProof.Rows L2 Q RZ
theorem ends {P : Program} {w : World} {K : PySem.W.Frag} {h : Heap} {mg : Str → Option Value} {f : Addr} (X : K.In h) (G : h.Ns mainGlobals mg) (hf : mg ("law" : Str) = some (.ref f)) (c : SaysF fb fn K) :
    ∃ fd : FuncData, (∀ (s : Shared) (v : Value), BindsTo s fd ⟨[v], []⟩ [("script", v)]) ∧ ∀ base : Heap, K.In base → base.Ns mainGlobals mg → FnG P w K mg base CX0 6 f fd ["script"] (spLaw K) := by
  have T := tx_of X G c
  cases hf.symm.trans T.g_law
  obtain ⟨fd, F⟩ := T.d_law
  refine ⟨fd, fun s v => F.bindsA (ps := ["script"]) (fun _ _ _ _ _ _ us hl => match us, hl with | [_], _ => rfl) s [v] rfl, fun base _ _ => ?_⟩
  obtain ⟨fd', law, F'⟩ := ok_law (P := P) (w := w) (base := base) T
  obtain ⟨_, _, _, _, _, _, _, _, _, _, _, e1, _⟩ := F.ex
  obtain ⟨_, _, _, _, _, _, _, _, _, _, _, e2, _⟩ := F'.ex
  have e := e1.symm.trans e2
  obtain rfl : fd = fd' := by
    injection e with e
    injection e with _ _ e _
    injection e
  exact law

end K01
open PySem PySem.W PySem.Calls PyProof.Rows
set_option maxRecDepth 100000 in
set_option maxHeartbeats 0 in
theorem PySem.Challenge.cw_fewfetches_k01_boxes_refused_in_order_holds : PySem.Challenge.rw_fewfetches_k01_boxes_refused_in_order.Holds := by
  w_on; o_law
  refine HandSHeadRun.head_any (r := OpenLaw.row PySem.Challenge.rw_fewfetches_k01_boxes_refused_in_order) (q := view (OpenLaw.row PySem.Challenge.rw_fewfetches_k01_boxes_refused_in_order).prog [17]) (H := K01.hk) (ob := K01.ob) (M := 4000) (loose := ["_wall", "FetchError", "BadBox", "is_whole", "MOST_COLUMNS", "HIGHEST", "Box", "_law_bag", "_law_draw", "_law_odd", "_law_whole", "_law_due", "_law_told"]) (d := HandSHeadRun.topDef (OpenLaw.row PySem.Challenge.rw_fewfetches_k01_boxes_refused_in_order).prog 17) (kwd := []) K01.ob_eq
    (by kernel_rfl) (fun s => by kernel_rfl) K01.run (by kernel_rfl) (by kernel_rfl) (by kernel_rfl) (by rfl) (by first | assumption | decide +kernel) (by decide +kernel) ⟨rfl, rfl, rfl, rfl, rfl, by decide +kernel⟩ ?hw ?hc
  case hw => w_witness2
  case hc =>
    refine Q.walk_ofG (l := PySem.Challenge.rw_fewfetches_k01_boxes_refused_in_order) (n := 63) (k := 6) (x := "script") (CX := L2.CX0) rfl (by decide) (by kernel_rfl) ⟨rfl, by decide, by decide⟩ ?F (fun _ _ _ _ z => z)
    intro w mg fa h Y G hmg0
    obtain ⟨K, KX, c⟩ := Y
    have hmg : mg ("law" : PySem.Str) = some (.ref fa) := by
      have e : (HandSHeadRun.topDef (OpenLaw.row PySem.Challenge.rw_fewfetches_k01_boxes_refused_in_order).prog 17).name = ("law" : PySem.Str) := by kernel_rfl
      rw [← e]
      exact hmg0
    obtain ⟨fd, hb, hF⟩ := K01.ends (P := (PySem.Challenge.rw_fewfetches_k01_boxes_refused_in_order).prog) (w := w) KX G hmg c
    exact ⟨K, fd, K01.spLaw K, KX, hb, fun H a ns hl _ hS => ⟨a, ns, rfl, hS, fun _ => rfl⟩, hF⟩
#print axioms PySem.Challenge.cw_fewfetches_k01_boxes_refused_in_order_holds


