import PyProof.Rows.All
import Wide.All
import OpenK.AllK
import Wide.FinOn
import KE.KStateDown
import Lean
import HandS.ForMost
import HandS.ForExc
import HandS.Steps
import HandS.Evl
import HandS.Ends
import HandS.More
import HandS.Words
import HandS.WordsExc
import HandS.Defaults
import HandS.StrMore
import HandS.Wide
import HandS.IsInst
import HandS.Flow
import HandS.Deep
import HandS.Conv
import HandS.Head0
import HandS.Head1
import HandS.Head2
import HandS.HeadEnd
import HandS.HeadHook1
import HandS.HeadHook2
import HandS.HeadHook3
import HandS.HeadHook4
import HandS.Walk
import HandS.DeepEq
import HandS.SortKw
import HandS.ExcIs
import KE.DataMinMax
import HandS.Strs
import PyProof.Rows.SortShellAny
import HandS.ExcInit
import HandS.ExcField
import HandS.ClsMeth
import KE.KExcIs
import HandS.SetFor
import HandS.Replace
import HandS.ReplaceDef
import PySem.Challenge.RW_storeway_k03_refused
set_option Elab.async false
set_option linter.all false
set_option maxRecDepth 100000
set_option maxHeartbeats 4000000
/-! ### what all laws share: nothing of one program -/
namespace SW
open PySem PySem.Spec PyProof.Rows L2 He

/-- one of many readings -/
theorem pe_ex {ι : Type} {X : Cx} {e : Expr} {t : ι → TE} (h : ∀ i, PE X e (t i)) : PE X e (fun σ H Q => ∃ i, t i σ H Q) := ⟨fun pins s σ H Q I ⟨i, q⟩ => (h i).run pins s σ H Q I q⟩
theorem pe_or2 {X : Cx} {e : Expr} {t u : TE} (h : PE X e t) (h' : PE X e u) : PE X e (fun σ H Q => t σ H Q ∨ u σ H Q) := ⟨fun pins s σ H Q I z => z.elim (fun q => h.run pins s σ H Q I q) (fun q => h'.run pins s σ H Q I q)⟩

/-- a def that lets no exception out, with no defaults -/
structure Ok (P : Program) (w : World) (K : PySem.W.Frag) (mg : Str → Option Value) (base : Heap) (k : Nat) (f : Addr) (ps : List Str) (sp : Sp) : Prop where
  ex : ∃ fd, (∃ (oc : Value) (od : Option Addr) (osl : Array (Option Value)), K.lookup f = some ⟨oc, od, .func fd, osl⟩) ∧ FnOk P w K mg base CX0 k f fd ps sp ∧ Binds K fd ps []
  kp : PySem.W.keepIn K (.ref f) = true

section
variable {P : Program} {w : World} {K : PySem.W.Frag} {mg : Str → Option Value} {base : Heap} {k : Nat} {f : Addr} {ps N : List Str} {sp sp' : Sp} {x qual : Str} {params : Arguments} {body : List Stmt} {scope : Scope}
theorem mkOk (F : ∃ fd, FunD K x qual params body scope [] [] f fd) (S : FnScope N ps scope)
    (hb : ∀ (kV doc pm : Value) (an : Option Addr) (cdv ct : Value) (us : List Value), us.length = ps.length → bindArgs (PySem.W.fnOf x qual params body scope .none kV doc pm an cdv ct) ⟨us, []⟩ = pure (ps.zip us))
    (len : ∀ vs H Q E, sp vs H Q E → vs.length = ps.length)
    (hbody : ∀ (cdv : Value) (A : Around) (outer : List Env) (s : Shared) (H : Hp) (vs : List V) (Q : VK) (E : XK), Room k (A.deeper (envOfC qual scope s.heap.objs.size f cdv)) → sp vs H Q E →
      ∃ t, PSs (cxOf CX0 P w K mg base N qual scope f cdv A outer s H E).nox body t ∧ t { nx := fun _ H' => Q .non H', rt := Q } (start N vs) H) : Ok P w K mg base (k + 1) f ps sp := by
  obtain ⟨fd, F⟩ := F
  refine ⟨⟨fd, (by obtain ⟨oc, od, _, _, _, _, _, _, _, osl, _, lk, _⟩ := F.ex; exact ⟨oc, od, osl, lk⟩), F.ok S len fun cdv A outer s H vs Q E hr h => ?_, F.bindsN hb⟩, F.kp⟩
  obtain ⟨t, ht, q⟩ := hbody cdv A outer s H vs Q E hr h
  exact ⟨t, ht.nox, q⟩
theorem Ok.mono (G : Ok P w K mg base k f ps sp) {j : Nat} (h : k ≤ j) : Ok P w K mg base j f ps sp := by
  obtain ⟨⟨fd, l, F, b⟩, kp⟩ := G
  exact ⟨⟨fd, l, F.mono h, b⟩, kp⟩
theorem Ok.imp (G : Ok P w K mg base k f ps sp) (h : ∀ vs H Q E, sp' vs H Q E → sp vs H Q E) : Ok P w K mg base k f ps sp' := by
  obtain ⟨⟨fd, l, F, b⟩, kp⟩ := G
  exact ⟨⟨fd, l, F.imp h, b⟩, kp⟩
theorem Ok.at (G : Ok P w K mg base k f ps sp) {x qual : Str} {params : Arguments} {body : List Stmt} {scope : Scope} {fd : FuncData} (F : FunD K x qual params body scope [] [] f fd) : FnOk P w K mg base CX0 k f fd ps sp := by
  obtain ⟨⟨fd', ⟨oc, od, osl, l⟩, F', b⟩, kp⟩ := G
  obtain ⟨oc', od', _, _, _, _, _, _, _, osl', _, lk, _⟩ := F.ex
  rw [lk] at l
  cases l
  exact F'
end

section
variable {X : Cx} {k : Nat} {f C : Addr} {ps : List Str} {sp : Sp} {x m : Str} {p pos apos : Pos} {e o : Expr} {es : List Expr} {ta : TE} {t : TA}
theorem pe_callO (G : Ok X.prog X.w X.K X.mg X.base k f ps sp) (hr : Room k X.A) (hm : X.mg x = some (.ref f)) (ha : PA X (e :: es) t) (hg : Gl X x := by rfl)
    (hdb : (x == ("__debug__" : Str)) = false := by decide) (he : starEach (e :: es) X.env = (false, eval e X.env) :: starEach es X.env := by rfl) (hpl : (backTo pos (starEach es X.env)).any (·.1) = false := by rfl) :
    PE X (.Call (.Name x p) (e :: es) [] pos) (tCall sp [] E0 t) := by
  obtain ⟨⟨fd, _, F, b⟩, kp⟩ := G
  exact pe_call F hr hg hm kp b .nil pass0 ha hdb he hpl
theorem pe_call0O (G : Ok X.prog X.w X.K X.mg X.base k f ps sp) (hr : Room k X.A) (hm : X.mg x = some (.ref f)) (hg : Gl X x := by rfl) (hdb : (x == ("__debug__" : Str)) = false := by decide) : PE X (.Call (.Name x p) [] [] pos) (tCall sp [] E0 tNil) := by
  obtain ⟨⟨fd, _, F, b⟩, kp⟩ := G
  exact pe_call0 F hr hg hm kp b .nil pass0 hdb
theorem pe_makeO (M : Mk X.K C f) (G : Ok X.prog X.w X.K X.mg X.base k f ps sp) (hr : Room (k + 1) X.A) (hm : X.mg x = some (.ref C)) (ha : PA X (e :: es) t) (hg : Gl X x := by rfl)
    (hdb : (x == ("__debug__" : Str)) = false := by decide) (he : starEach (e :: es) X.env = (false, eval e X.env) :: starEach es X.env := by rfl) (hpl : (backTo pos (starEach es X.env)).any (·.1) = false := by rfl) :
    PE X (.Call (.Name x p) (e :: es) [] pos) (tMake C sp [] E0 t) := by
  obtain ⟨⟨fd, _, F, b⟩, kp⟩ := G
  exact pe_make M F hr hg hm b .nil pass0 ha hdb he hpl
end
theorem Ok.use {P : Program} {w : World} {K : PySem.W.Frag} {mg : Str → Option Value} {base : Heap} {k : Nat} {f : Addr} {ps : List Str} {sp : Sp} {R : Prop} (G : Ok P w K mg base k f ps sp)
    (h : ∀ fd, FnOk P w K mg base CX0 k f fd ps sp → Binds K fd ps [] → R) : R := by
  obtain ⟨⟨fd, _, F, b⟩, _⟩ := G
  exact h fd F b

/-! ### C() of a class without an own __init__ -/
structure MkO (K : PySem.W.Frag) (C : Addr) : Prop where
  makes : PySem.W.makesIn K C = true
  init : PySem.W.findIn K (.ref C) "__init__" = some (some (.builtin "object.__init__"))
  kp : PySem.W.keepIn K (.ref C) = true
def tMakeO (C : Addr) : TE := fun _ H Q => ∀ x dx, H x = none → H dx = none → dx ≠ x → Q (.ref x) (upd (upd H dx (.own x)) x (.ins C dx []))
section
variable {X : Cx} {C : Addr}
theorem run_makeO {pins : List (Addr × Obj)} {σ : L2.St} {H : Hp} {s : Shared} {Q : VK} (M : MkO X.K C) (I : Inv X pins σ H s)
    (h : ∀ x dx, H x = none → H dx = none → dx ≠ x → Q (.ref x) (upd (upd H dx (.own x)) x (.ins C dx []))) :
    wpAny (model X.prog X.w) X.A (call (.ref C) []) (EP X pins σ Q) X.xe s := by
  have hq := h (s.heap.objs.size + 1) s.heap.objs.size (I.hok.fresh (Nat.le_succ _)) (I.hok.fresh (Nat.le_refl _)) (Nat.ne_of_lt (Nat.lt_succ_self _))
  have I2 := Inv.made (C := C) I
  have Y := PySem.W.makes_of (M := model X.prog X.w) I.kIn M.makes
  refine wpAny_call (make_map0 I.kIn M.makes M.init (fun self => PySem.W.Looks.of_pure (PySem.W.oi_bind self)) ?_)
  have hx : ((s.heap.push PySem.W.emptyDict).push (PySem.W.instObj C s.heap.objs.size)).get? (s.heap.objs.size + 1) = some (PySem.W.instObj C s.heap.objs.size) := by heap_get
  have t1 : PySem.W.Looks (model X.prog X.w) ((s.heap.push PySem.W.emptyDict).push (PySem.W.instObj C s.heap.objs.size)) (typeOf (.ref (s.heap.objs.size + 1))) (.ref C) := (PySem.W.Looks.ld hx).andThen .now
  have t2 : PySem.W.Looks (model X.prog X.w) ((s.heap.push PySem.W.emptyDict).push (PySem.W.instObj C s.heap.objs.size)) (isInstance (.ref (s.heap.objs.size + 1)) (.type "object")) true :=
    t1.andThen (Y.top.keeps fun b o e => Heap.get?_push_of_some _ (Heap.get?_push_of_some _ e))
  refine codeAny_call_builtin PySem.W.oi_plain PySem.W.entry_oi (@PySem.W.check_slot (model X.prog X.w) _ _ _ "object.__init__" "object" "__init__" (.ref (s.heap.objs.size + 1)) [] [] _ PySem.W.oi_kind PySem.W.oi_split t2 (PySem.W.oi_args (.ref (s.heap.objs.size + 1))) ?_)
  rw [PySem.W.oi_run]
  exact wpAny_pure (And.intro rfl ⟨V.ref (s.heap.objs.size + 1), _, I2, rfl, hq⟩)
theorem pe_makeO0 {x : Str} {p pos : Pos} (M : MkO X.K C) (hm : X.mg x = some (.ref C)) (hg : Gl X x := by rfl) (hdb : (x == ("__debug__" : Str)) = false := by decide) :
    PE X (.Call (.Name x p) [] [] pos) (tMakeO C) := by
  refine ⟨fun pins s σ H Q I h => ?_⟩
  refine wpAny_Call_Name_kw (ld_glob I hg hm ?_ hdb)
  exact PySem.W.callWith_K0 I.kIn M.kp (run_makeO M I h)
end

/-! ### further facts of the top -/
def moB (x : Str) (K : PySem.W.Frag) : Bool := PySem.W.makesIn K (ga K x) && (eqO (PySem.W.findIn K (.ref (ga K x)) "__init__") (some (some (.builtin "object.__init__"))) && PySem.W.keepIn K (.ref (ga K x)))
theorem moB_ok {x : Str} {K : PySem.W.Frag} (h : moB x K = true) : MkO K (ga K x) := by
  obtain ⟨h1, h2⟩ := ba h
  obtain ⟨h2, h3⟩ := ba h2
  exact ⟨h1, eqO_ok h2, h3⟩
structure IsC (K : PySem.W.Frag) (C D : Addr) (b : Bool) : Prop where
  ha : PySem.W.findIn K (.ref C) "__class__" = some (some (.builtin "object.__class__"))
  hn : PySem.W.specialIn K (.builtin "object.__class__") "__get__" = some (some (.builtin "getset_descriptor.__get__"))
  ht : PySem.W.takesIn K (.builtin "object.__class__") = some true
  hm : PySem.W.mroIn K C (.type "object") = some true
  k : PySem.W.kitOne K (.ref C) (.ref D) = some b
theorem IsC.ty {K : PySem.W.Frag} {C D a dx : Addr} {b : Bool} {H : Hp} {fs : List (Str × V)} (h : IsC K C D b) (cl : Cls K C) (e : H a = some (.ins C dx fs)) : TyX K H (.ref a) (.ref C) :=
  .base (.ins e cl h.ha h.hn h.ht h.hm)
def isB (c d : Str) (b : Bool) (K : PySem.W.Frag) : Bool := eqO (PySem.W.findIn K (.ref (ga K c)) "__class__") (some (some (.builtin "object.__class__"))) &&
  (eqO (PySem.W.specialIn K (.builtin "object.__class__") "__get__") (some (some (.builtin "getset_descriptor.__get__"))) && (decide (PySem.W.takesIn K (.builtin "object.__class__") = some true) &&
  (decide (PySem.W.mroIn K (ga K c) (.type "object") = some true) && decide (PySem.W.kitOne K (.ref (ga K c)) (.ref (ga K d)) = some b))))
theorem isB_ok {c d : Str} {b : Bool} {K : PySem.W.Frag} (h : isB c d b K = true) : IsC K (ga K c) (ga K d) b := by
  obtain ⟨h1, h⟩ := ba h
  obtain ⟨h2, h⟩ := ba h
  obtain ⟨h3, h⟩ := ba h
  obtain ⟨h4, h5⟩ := ba h
  exact ⟨eqO_ok h1, eqO_ok h2, of_decide_eq_true h3, of_decide_eq_true h4, of_decide_eq_true h5⟩
theorem exs_at {K : PySem.W.Frag} {l : List (PySem.W.Frag → Bool)} (h : (l.all fun f => f K) = true) (i : Nat) {f : PySem.W.Frag → Bool} (e : l[i]? = some f) : f K = true :=
  List.all_eq_true.mp h f (List.mem_of_getElem? e)

/-! ### the head's facts over all that the top has made -/
def KR (n : Nat) (g : Addr → Option Obj) : PySem.W.Frag := frT g (List.range n)
def obsR (n : Nat) (fa : List Fa) (fn : List DefD) (ex : PySem.W.Frag → Bool) (g : Addr → Option Obj) : AlD × Bool := (obsD fa fn (KR n g), ex (KR n g))
def hookR (n : Nat) (fa : List Fa) (fn : List DefD) (ex : PySem.W.Frag → Bool) : PySem.W.Hook where
  α := AlD × Bool
  obs := fun s => obsR n fa fn ex s.heap.get?
  val := fun _ => (valD fn, true)
  says := fun _ h => ∃ K : PySem.W.Frag, K.In h ∧ SaysD fa fn K ∧ ex K = true
  of := fun _ _ e => ⟨_, frT_in, congrArg (fun z : AlD × Bool => z.1) e, congrArg (fun z : AlD × Bool => z.2) e⟩
  keeps := fun _ _ _ ⟨K, hK, c, e⟩ k => ⟨K, PySem.W.Frag.In.keeps hK k, c, e⟩
theorem obsR_eq {n : Nat} {fa : List Fa} {fn : List DefD} {ex : PySem.W.Frag → Bool} (s : PySem.W.SharedT) : obsR n fa fn ex (HandSHeadRun.getT s) = (hookR n fa fn ex).obs s.abs := by
  have e : HandSHeadRun.getT s = s.abs.heap.get? := funext (HandSHeadRun.getT_eq s)
  rw [e] <;> rfl
theorem run_join {r : PySem.W.OpenRow} {q : Program} {H : PySem.W.Hook} {ob : PySem.W.SharedT → H.α} {M : Nat} {loose : List PySem.Str} {w : World}
    (h1 : ∀ os : OsState, (HandSHeadRun.endF (HandSHeadRun.stepQ (HandSHeadRun.denQ HandSHeadRun.tabQ) r.prog w) M r.prog w os).map (fun s => (HandSHeadRun.looksF r.prog (PySem.W.boot_heap w.params) s.abs, HandSHeadRun.seenQ q loose (importedModules r.prog.main.body) (fun s => PySem.W.xlAt q [] s && PySem.W.recOk r.toRowW.records s) s.abs)) = some (true, PySem.W.openGood q loose))
    (h2 : ∀ os : OsState, (HandSHeadRun.endF (HandSHeadRun.stepQ (HandSHeadRun.denQ HandSHeadRun.tabQ) r.prog w) M r.prog w os).map ob = some (H.val w)) : HandSHeadRun.RunEq r q H ob M loose w := by
  intro os
  have a := h1 os
  have b := h2 os
  cases e : HandSHeadRun.endF (HandSHeadRun.stepQ (HandSHeadRun.denQ HandSHeadRun.tabQ) r.prog w) M r.prog w os with
  | none =>
    rw [e] at b
    cases b
  | some s =>
    rw [e] at a b
    have a1 := Option.some.inj a
    have b1 : ob s = H.val w := Option.some.inj b
    have a2 := congrArg (fun z => z.1) a1
    have a3 := congrArg (fun z => z.2) a1
    show some (_, _, _) = some (_, _, _)
    exact congrArg some (Prod.ext a2 (Prod.ext a3 b1))

/-! ### rules whose reading names K itself (a comprehension's block has its own context) -/
section
variable {X : Cx} {K : PySem.W.Frag}
theorem ixL (h : X.K = K := by rfl) : IxR X (rIxL K) := by subst h; exact ix_list
theorem ixT (h : X.K = K := by rfl) : IxR X (rIxT K) := by subst h; exact ix_tup
theorem slL (h : X.K = K := by rfl) : SlR X (rSlL K) := by subst h; exact sl_list
theorem lenQ (h : X.K = K := by rfl) : CallR X (.builtin "len") (fun xs H Q => ∃ p ys, xs = [.ref p] ∧ (SqL K H p ys ∨ SqT K H p ys) ∧ Q (.int ys.length) H) := by subst h; exact call_len_seq
theorem isiK (h : X.K = K := by rfl) : CallR X (.builtin "isinstance") (rIsi K) := by subst h; exact call_isi
theorem listOf (h : X.K = K := by rfl) : CallR X (.type "list") (fun xs H Q => ∃ p ys, xs = [.ref p] ∧ (SqL K H p ys ∨ SqT K H p ys) ∧ ∀ l, H l = none → Q (.ref l) (upd H l (.lst ys))) := by subst h; exact call_list_of
theorem inQ (h : X.K = K := by rfl) : OpR X (compareOp .In) (rIn K false) := by subst h; exact op_in_seq
theorem notInQ (h : X.K = K := by rfl) : OpR X (compareOp .NotIn) (rIn K true) := by subst h; exact op_notIn_seq
theorem eqDK (hu : X.A.units + 64 < cLine) (h : X.K = K := by rfl) : OpR X (compareOp .Eq) (rEqD K) := by subst h; exact op_eqD hu
theorem neDK (hu : X.A.units + 64 < cLine) (h : X.K = K := by rfl) : OpR X (compareOp .NotEq) (rNeD K) := by subst h; exact op_neD hu
theorem inDK (hu : X.A.units + 65 < cLine) (h : X.K = K := by rfl) : OpR X (compareOp .In) (rInD K) := by subst h; exact op_inD hu
theorem indexK (h : X.K = K := by rfl) : MtR X "list.index" (rIndex K) := by subst h; exact mt_index
theorem sumK (hc : X.calm = true) (h : X.K = K := by rfl) : CallR X (.builtin "sum") (rSum K) := by subst h; exact cr_sum hc
theorem maxK (hc : X.calm = true) (h : X.K = K := by rfl) : CallR X (.builtin "max") (rMax K) := by subst h; exact cr_max hc
theorem minK (hc : X.calm = true) (h : X.K = K := by rfl) : CallR X (.builtin "min") (rMin K) := by subst h; exact cr_min hc
theorem pe_fldK {e : Expr} {ta : TE} {f : Str} {pos : Pos} (he : PE X e ta) (hb : attributeBase e f X.env (eval e X.env) = eval e X.env) (h : X.K = K := by rfl) : PE X (.Attribute e f pos) (tFld K ta f) := by subst h; exact pe_fld he hb
theorem piL {tg l : Expr} {tl : TE} (hl : PE X l tl) (h : X.K = K := by rfl) : PI X tg l (iList K tl) := by subst h; exact pi_list hl
theorem piT {tg l : Expr} {tl : TE} (hl : PE X l tl) (h : X.K = K := by rfl) : PI X tg l (iTup K tl) := by subst h; exact pi_tup hl
end
theorem new_obj {H : Hp} {x dx C : Addr} (n : H x = none) (m : H dx = none) : Same H (upd (upd H dx (.own x)) x (.ins C dx [])) ∧ (upd (upd H dx (.own x)) x (.ins C dx [])) x = some (.ins C dx []) :=
  ⟨fun b o e => by rw [upd_ne (ne_of_none e n), upd_ne (ne_of_none e m)]; exact e, upd_same⟩
theorem Same.new {H : Hp} {p : Addr} {o : HO} (h : H p = none) : Same H (upd H p o) := fun b u e => by rw [upd_ne (ne_of_none e h)]; exact e
theorem hu65 {k : Nat} {A : Around} (hr : Room k A) : A.units + 65 < cLine := by
  have := hr.un
  omega
end SW
/-! ### exceptions: defs that may raise, isinstance of what is caught -/
namespace SW
open PySem PySem.Spec PyProof.Rows L2 He
/-- a def that may raise, with no defaults -/
structure OkX (P : Program) (w : World) (K : PySem.W.Frag) (mg : Str → Option Value) (base : Heap) (k : Nat) (f : Addr) (ps : List Str) (sp : Sp) : Prop where
  ex : ∃ fd, FnOk P w K mg base (L2.CX P w) k f fd ps sp ∧ Binds K fd ps []
  kp : PySem.W.keepIn K (.ref f) = true
section
variable {P : Program} {w : World} {K : PySem.W.Frag} {mg : Str → Option Value} {base : Heap} {k : Nat} {f : Addr} {ps N : List Str} {sp sp' : Sp} {x qual : Str} {params : Arguments} {body : List Stmt} {scope : Scope}
theorem mkOkX (F : ∃ fd, FunD K x qual params body scope [] [] f fd) (S : FnScope N ps scope)
    (hb : ∀ (kV doc pm : Value) (an : Option Addr) (cdv ct : Value) (us : List Value), us.length = ps.length → bindArgs (PySem.W.fnOf x qual params body scope .none kV doc pm an cdv ct) ⟨us, []⟩ = pure (ps.zip us))
    (len : ∀ vs H Q E, sp vs H Q E → vs.length = ps.length)
    (hbody : ∀ (cdv : Value) (A : Around) (outer : List Env) (s : Shared) (H : Hp) (vs : List V) (Q : VK) (E : XK), Room k (A.deeper (envOfC qual scope s.heap.objs.size f cdv)) → sp vs H Q E →
      ∃ t, PSs (cxOf (L2.CX P w) P w K mg base N qual scope f cdv A outer s H E) body t ∧ t { nx := fun _ H' => Q .non H', rt := Q } (start N vs) H) : OkX P w K mg base (k + 1) f ps sp := by
  obtain ⟨fd, F⟩ := F
  exact ⟨⟨fd, F.ok S len fun cdv A outer s H vs Q E hr h => hbody cdv A outer s H vs Q E hr h, F.bindsN hb⟩, F.kp⟩
theorem OkX.mono (G : OkX P w K mg base k f ps sp) {j : Nat} (h : k ≤ j) : OkX P w K mg base j f ps sp := by
  obtain ⟨⟨fd, F, b⟩, kp⟩ := G
  exact ⟨⟨fd, F.mono h, b⟩, kp⟩
end
theorem pe_callX {X : Cx} {k : Nat} {f : Addr} {ps : List Str} {sp : Sp} {x : Str} {p pos : Pos} {e : Expr} {es : List Expr} {t : TA} {E : L2.St → XK} (G : OkX X.prog X.w X.K X.mg X.base k f ps sp) (hr : Room k X.A) (hm : X.mg x = some (.ref f)) (hx : ∀ σ, PassesAt (L2.CX X.prog X.w) X σ (E σ)) (ha : PA X (e :: es) t) (hg : Gl X x := by rfl)
    (hdb : (x == ("__debug__" : Str)) = false := by decide) (he : starEach (e :: es) X.env = (false, eval e X.env) :: starEach es X.env := by rfl) (hpl : (backTo pos (starEach es X.env)).any (·.1) = false := by rfl) :
    PE X (.Call (.Name x p) (e :: es) [] pos) (tCallS sp E t) := by
  obtain ⟨⟨fd, F, b⟩, kp⟩ := G
  exact pe_callS F hr hg hm kp b hx ha hdb he hpl
/-- an own exception class without an own __init__ -/
structure ExcF (K : PySem.W.Frag) (C : Addr) : Prop where
  x : PySem.W.excIn K C [.type "ValueError", .type "Exception", .type "BaseException", .type "object"] "ValueError.__new__" = true
  kp : PySem.W.keepIn K (.ref C) = true
  sb : PySem.W.subIn K (.ref C) (.type "BaseException") = some true
  ty : PySem.W.typeIn K (.ref C) = some (.type "type")
theorem ps_raiseF {X : Cx} {W : WX} {K : PySem.W.Frag} {C : Addr} {x m : Str} {j : Nat} {p p2 pos pos' : Pos} (F : ExcF K C) (hc : X.calm = true) (tk : Takes X W) (gC : X.mg x = some (.ref C)) (hg : Gl X x := by rfl) (hK : X.K = K := by rfl) (hdb : (x == ("__debug__" : Str)) = false := by decide) :
    PS X (.Raise (some (.Call (.Name x p) [.Constant (.str m) j p2] [] pos)) none pos') (fun _ σ H => W (.ref C) none σ H) := by
  subst hK
  exact ps_raise hc tk (pmk_own PySem.F.excBase_ValueError F.x gC F.kp (raises_own F.sb F.ty) hg hdb)
/-- isinstance of what a suite holds -/
def rIsEx (K : PySem.W.Frag) (a : Addr) (cls : Value) (d : Option Addr) : List V → Hp → VK → Prop := fun xs H Q => ∃ (D : Addr) (c : V) (cv : Value) (b : Bool), xs = [.ref a, c] ∧ cls = .ref D ∧ d = none ∧ ExcC K D ∧ (∀ u, RelV c u → u = cv) ∧ PySem.W.kitOne K (.ref D) cv = some b ∧ Q (.bl b) H
theorem call_isEx {X : Cx} {K : PySem.W.Frag} {a : Addr} {cls : Value} {d : Option Addr} {oe : Obj} {pn : List (Addr × Obj)} (hz : Zc cls d oe) (hf : ∃ vs, oe.data = .fields vs) (hK : X.K = K := by rfl) : CallR (X.suite a ((a, oe) :: pn)) (.builtin "isinstance") (rIsEx K a cls d) := by
  subst hK
  intro pins s σ H xs us Q I r h
  obtain ⟨D, c, cv, b, rfl, rfl, rfl, C, h1, h2, q⟩ := h
  exact call_isE C hz hf pins s σ H _ us Q I r ⟨c, cv, b, rfl, h1, h2, q⟩
def excfB (x : Str) (K : PySem.W.Frag) : Bool := PySem.W.excIn K (ga K x) [.type "ValueError", .type "Exception", .type "BaseException", .type "object"] "ValueError.__new__" && (PySem.W.keepIn K (.ref (ga K x)) &&
  (decide (PySem.W.subIn K (.ref (ga K x)) (.type "BaseException") = some true) && decide (PySem.W.typeIn K (.ref (ga K x)) = some (.type "type"))))
theorem excfB_ok {x : Str} {K : PySem.W.Frag} (h : excfB x K = true) : ExcF K (ga K x) := by
  obtain ⟨h1, h⟩ := ba h
  obtain ⟨h2, h⟩ := ba h
  obtain ⟨h3, h4⟩ := ba h
  exact ⟨h1, h2, of_decide_eq_true h3, of_decide_eq_true h4⟩
def exccB (x : Str) (K : PySem.W.Frag) : Bool := eqO (PySem.W.findIn K (.ref (ga K x)) "__getattribute__") (some (some (.builtin "BaseException.__getattribute__"))) && (eqO (PySem.W.findIn K (.ref (ga K x)) "__getattr__") (some none) &&
  (decide (PySem.W.subIn K (.ref (ga K x)) (.type "BaseException") = some true) && (PySem.W.hasDictIn K (ga K x) && (eqO (PySem.W.findIn K (.ref (ga K x)) "__class__") (some (some (.builtin "object.__class__"))) &&
  (eqO (PySem.W.specialIn K (.builtin "object.__class__") "__get__") (some (some (.builtin "getset_descriptor.__get__"))) && (decide (PySem.W.takesIn K (.builtin "object.__class__") = some true) && decide (PySem.W.mroIn K (ga K x) (.type "object") = some true)))))))
theorem exccB_ok {x : Str} {K : PySem.W.Frag} (h : exccB x K = true) : ExcC K (ga K x) := by
  obtain ⟨h1, h⟩ := ba h
  obtain ⟨h2, h⟩ := ba h
  obtain ⟨h3, h⟩ := ba h
  obtain ⟨h4, h⟩ := ba h
  obtain ⟨h5, h⟩ := ba h
  obtain ⟨h6, h⟩ := ba h
  obtain ⟨h7, h8⟩ := ba h
  exact ⟨eqO_ok h1, eqO_ok h2, of_decide_eq_true h3, h4, eqO_ok h5, eqO_ok h6, of_decide_eq_true h7, of_decide_eq_true h8⟩
def exmB (x y : Str) (b : Bool) (K : PySem.W.Frag) : Bool := decide (PySem.W.exmOne K (.ref (ga K x)) (.ref (ga K y)) = some b)
theorem exmB_ok {x y : Str} {b : Bool} {K : PySem.W.Frag} (h : exmB x y b K = true) : PySem.W.exmOne K (.ref (ga K x)) (.ref (ga K y)) = some b := of_decide_eq_true h
def kitB (x y : Str) (b : Bool) (K : PySem.W.Frag) : Bool := decide (PySem.W.kitOne K (.ref (ga K x)) (.ref (ga K y)) = some b)
theorem kitB_ok {x y : Str} {b : Bool} {K : PySem.W.Frag} (h : kitB x y b K = true) : PySem.W.kitOne K (.ref (ga K x)) (.ref (ga K y)) = some b := of_decide_eq_true h
def kitVB (x : Str) (K : PySem.W.Frag) : Bool := decide (PySem.W.kitOne K (.ref (ga K x)) (.type "ValueError") = some true)
theorem kitVB_ok {x : Str} {K : PySem.W.Frag} (h : kitVB x K = true) : PySem.W.kitOne K (.ref (ga K x)) (.type "ValueError") = some true := of_decide_eq_true h
end SW


/-! ### exceptions with a field of their own -/
namespace SW
open PySem PySem.Spec PyProof.Rows L2 He
def oexB (x : Str) (K : PySem.W.Frag) : Bool := (match K.lookup (ga K x) with
  | some ⟨.type t, _, .cls cd, sl⟩ => t == "type" && (match cd.mro, sl.toList with
    | .ref C' :: bm, [_, _, _, _, some (.builtin n), _] => C' == ga K x && (n == "ValueError.__new__" && (!cd.hasDel && (cd.hasDict && PySem.HandSPX.refsVE bm)))
    | _, _ => false)
  | _ => false) && (eqO (PySem.W.findIn K (.ref (ga K x)) "__setattr__") (some (some (.builtin "object.__setattr__"))) &&
  (decide (PySem.W.subIn K (.ref (ga K x)) (.type "BaseException") = some true) && (decide (PySem.W.typeIn K (.ref (ga K x)) = some (.type "type")) && PySem.W.keepIn K (.ref (ga K x)))))
theorem oexB_ok {x : Str} {K : PySem.W.Frag} (h : oexB x K = true) : OexC K (ga K x) := by
  obtain ⟨h1, h⟩ := ba h
  obtain ⟨h2, h⟩ := ba h
  obtain ⟨h3, h⟩ := ba h
  obtain ⟨h4, h5⟩ := ba h
  refine ⟨?_, eqO_ok h2, of_decide_eq_true h3, of_decide_eq_true h4, h5⟩
  split at h1
  · rename_i t dd cd sl ho
    obtain ⟨ht, h1⟩ := ba h1
    have ht := beq_iff_eq.mp ht
    subst ht
    split at h1
    · rename_i C' bm k0 k1 k2 k3 n k5 hm hs
      obtain ⟨_, h1⟩ := ba h1
      obtain ⟨w1, h1⟩ := ba h1
      obtain ⟨w2, h1⟩ := ba h1
      obtain ⟨w3, h1⟩ := ba h1
      obtain ⟨w4, w5⟩ := ba h1
      have w1 := beq_iff_eq.mp w1
      have w2 := beq_iff_eq.mp w2
      obtain ⟨nm, bs, mro, ns, qn, hd, sn, sub, ab, col, del⟩ := cd
      have w3 : (!del) = true := w3
      have w4 : hd = true := w4
      have w6 : del = false := by
        cases del with
        | true => cases w3
        | false => rfl
      have hm : mro = .ref C' :: bm := hm
      subst hm
      subst w4
      subst w2
      subst w6
      have hsl : sl = #[k0, k1, k2, k3, some (.builtin "ValueError.__new__"), k5] := by
        obtain ⟨l⟩ := sl
        simp only at hs
        rw [hs]
      subst hsl
      rw [w1] at ho
      exact ⟨nm, qn, ns, bs, bm, sn, sub, ab, col, dd, k0, k1, k2, k3, k5, ho, w5⟩
    · cases h1
  · cases h1
def xfcB (x : Str) (K : PySem.W.Frag) : Bool := eqO (PySem.W.findIn K (.ref (ga K x)) "__getattribute__") (some (some (.builtin "BaseException.__getattribute__"))) && (eqO (PySem.W.findIn K (.ref (ga K x)) "__getattr__") (some none) &&
  (decide (PySem.W.subIn K (.ref (ga K x)) (.type "BaseException") = some true) && PySem.W.hasDictIn K (ga K x)))
theorem xfcB_ok {x : Str} {K : PySem.W.Frag} (h : xfcB x K = true) : XfC K (ga K x) := by
  obtain ⟨h1, h⟩ := ba h
  obtain ⟨h2, h⟩ := ba h
  obtain ⟨h3, h4⟩ := ba h
  exact ⟨eqO_ok h1, eqO_ok h2, of_decide_eq_true h3, h4⟩
def noB (x f : Str) (K : PySem.W.Frag) : Bool := eqO (PySem.W.findIn K (.ref (ga K x)) f) (some none)
theorem noB_ok {x f : Str} {K : PySem.W.Frag} (h : noB x f K = true) : PySem.W.findIn K (.ref (ga K x)) f = some none := eqO_ok h
def ownInitB (x : Str) (K : PySem.W.Frag) : Bool := eqO (PySem.W.findIn K (.ref (ga K x)) "__init__") (some (some (.ref (ma K (ga K x) "__init__"))))
theorem ownInitB_ok {x : Str} {K : PySem.W.Frag} (h : ownInitB x K = true) : PySem.W.findIn K (.ref (ga K x)) "__init__" = some (some (.ref (ma K (ga K x) "__init__"))) := eqO_ok h
def fnTyB (x : Str) (K : PySem.W.Frag) : Bool := decide (PySem.W.typeIn K (.ref (ma K (ga K x) "__init__")) = some (.type "function"))
theorem fnTyB_ok {x : Str} {K : PySem.W.Frag} (h : fnTyB x K = true) : PySem.W.typeIn K (.ref (ma K (ga K x) "__init__")) = some (.type "function") := of_decide_eq_true h
/-- C.__init__ is ValueError's -/
structure ClsI (K : PySem.W.Frag) (C : Addr) : Prop where
  rd : PySem.W.readsIn K C (.type "type") = true
  ga : PySem.W.specialIn K (.ref C) "__getattribute__" = some (some (.builtin "type.__getattribute__"))
  at_ : ∃ r, PySem.W.findCls K (.ref C) (.type "type") "__init__" = some r ∧ ∃ b, r = .val (.builtin b) ∧ b = "ValueError.__init__"
def clsIB (x : Str) (K : PySem.W.Frag) : Bool := PySem.W.readsIn K (ga K x) (.type "type") && (eqO (PySem.W.specialIn K (.ref (ga K x)) "__getattribute__") (some (some (.builtin "type.__getattribute__"))) &&
  (match PySem.W.findCls K (.ref (ga K x)) (.type "type") "__init__" with
    | some (.val (.builtin b)) => b == "ValueError.__init__"
    | _ => false))
theorem clsIB_ok {x : Str} {K : PySem.W.Frag} (h : clsIB x K = true) : ClsI K (ga K x) := by
  obtain ⟨h1, h⟩ := ba h
  obtain ⟨h2, h3⟩ := ba h
  refine ⟨h1, eqO_ok h2, ?_⟩
  split at h3
  · rename_i b e
    exact ⟨_, e, b, rfl, beq_iff_eq.mp h3⟩
  · cases h3
section
variable {X : Cx} {e : Expr} {es : List Expr} {ta : TA} {p1 p2 pos : Pos} {x : Str} {C0 : Addr}
theorem pe_clsinit {pl : Sem Bool} (T : ClsI X.K C0) (hg : Gl X x) (hm : X.mg x = some (.ref C0)) (ha : PA X (e :: es) ta)
    (hc : eval (.Call (.Attribute (.Name x p1) "__init__" p2) (e :: es) [] pos) X.env = (do
      let ov ← eval (.Name x p1) X.env
      standAt p2.atName
      let (f, first) ← holding [ov] (getMethod ov "__init__" pl)
      callWith pos f first (backTo pos (starEach (e :: es) X.env)) (backToKw pos (keywordEach [] X.env))) := by rfl)
    (he : starEach (e :: es) X.env = (false, eval e X.env) :: starEach es X.env := by rfl) (hpl : (backTo pos (starEach es X.env)).any (·.1) = false := by rfl) (hdb : (x == ("__debug__" : Str)) = false := by decide) :
    PE X (.Call (.Attribute (.Name x p1) "__init__" p2) (e :: es) [] pos) (tVeI X.K ta) := by
  refine ⟨fun pins s σ H Q I h => ?_⟩
  obtain ⟨rd, hga, r, vV, b, rfl, rfl⟩ := T
  refine PySem.W.methodCall_KW (ld_glob I hg hm ?_ hdb) hc
  refine PySem.W.method_cls I.kIn hga (PySem.W.cls_value I.kIn rd vV (by decide +kernel) ?_)
  show wpAny _ _ (callWith pos (Value.builtin "ValueError.__init__") [] (backTo pos (starEach (e :: es) X.env)) []) _ _ _
  refine PyProof.Rows.callWith_method1 (thn (ha.run pos pins _ σ H _ (I.tok _) h) fun us s1 ⟨vs, H1, I1, r1, a, C, ws, ev, hl, T, ea, q⟩ => ?_) he hpl
  subst ev
  cases r1 with
  | @cons _ u0 _ ur ra rw' =>
    obtain rfl : u0 = Value.ref a := ra
    have hlen : ur.length ≤ sizeLine := by
      rw [← Paired.length rw', sizeLine_eq]
      omega
    exact oinit_ok T I1 ea hlen fun s' J => ⟨.non, H1, J, rfl, q⟩
end
end SW

namespace SW
open PySem PySem.Spec PyProof.Rows L2 He
def top (i : Nat) : Stmt := PySem.Challenge.pw_storeway_k03_refused.main.body.getD i (.Pass ⟨0, 0, 0, 0⟩)
abbrev s_wall : Stmt := top 0
abbrev s_BadRow_init : Stmt := inClass (top 3) 0
abbrev s_NoPart_init : Stmt := inClass (top 4) 0
abbrev s_Kind_lines : Stmt := inClass (top 9) 0
abbrev s_Kind_joined : Stmt := inClass (top 9) 1
abbrev s_Kind_word : Stmt := inClass (top 9) 2
abbrev s_Kind_made : Stmt := inClass (top 9) 3
abbrev s_Source_lines : Stmt := inClass (top 10) 0
abbrev s_Source_word : Stmt := inClass (top 10) 1
abbrev s_Sink_lines : Stmt := inClass (top 11) 0
abbrev s_Sink_joined : Stmt := inClass (top 11) 1
abbrev s_Sink_word : Stmt := inClass (top 11) 2
abbrev s_Both_joined : Stmt := inClass (top 12) 0
abbrev s_Both_word : Stmt := inClass (top 12) 1
abbrev s_Either_joined : Stmt := inClass (top 13) 0
abbrev s_Either_word : Stmt := inClass (top 13) 1
abbrev s_Odd_joined : Stmt := inClass (top 14) 0
abbrev s_Odd_word : Stmt := inClass (top 14) 1
abbrev s_Plus_joined : Stmt := inClass (top 15) 0
abbrev s_Plus_word : Stmt := inClass (top 15) 1
abbrev s_Pick_lines : Stmt := inClass (top 16) 0
abbrev s_Pick_joined : Stmt := inClass (top 16) 1
abbrev s_Pick_word : Stmt := inClass (top 16) 2
abbrev s_Up_init : Stmt := inClass (top 17) 0
abbrev s_Up_lines : Stmt := inClass (top 17) 1
abbrev s_Up_joined : Stmt := inClass (top 17) 2
abbrev s_Up_word : Stmt := inClass (top 17) 3
abbrev s_Down_init : Stmt := inClass (top 18) 0
abbrev s_Down_lines : Stmt := inClass (top 18) 1
abbrev s_Down_joined : Stmt := inClass (top 18) 2
abbrev s_Down_word : Stmt := inClass (top 18) 3
abbrev s_number_in : Stmt := top 19
abbrev s_kind_by : Stmt := top 20
abbrev s_Part_init : Stmt := inClass (top 23) 0
abbrev s_Part_end : Stmt := inClass (top 23) 1
abbrev s_Works_init : Stmt := inClass (top 24) 0
abbrev s_Works_names : Stmt := inClass (top 24) 1
abbrev s_Works_part : Stmt := inClass (top 24) 2
abbrev s_Works_kind : Stmt := inClass (top 24) 3
abbrev s_Works_time : Stmt := inClass (top 24) 4
abbrev s_Works_lines : Stmt := inClass (top 24) 5
abbrev s_Works_stored : Stmt := inClass (top 24) 6
abbrev s_good_name : Stmt := top 25
abbrev s_feed_of : Stmt := top 26
abbrev s_part_of : Stmt := top 27
abbrev s_settled : Stmt := top 28
abbrev s_read : Stmt := top 29
abbrev s_law_cell_at : Stmt := top 31
abbrev s_law_draw : Stmt := top 32
abbrev s_law_asks : Stmt := top 33
abbrev s_law_name : Stmt := top 34
abbrev s_law_word : Stmt := top 35
abbrev s_law_works : Stmt := top 36
abbrev s_law_text : Stmt := top 37
abbrev s_law_refused : Stmt := top 38
abbrev s_law_bad : Stmt := top 39
abbrev s_law_many : Stmt := top 40
abbrev s_law_ringed : Stmt := top 41
abbrev s_law : Stmt := top 42
theorem sc_wall : FnScope ["k"] ["k"] (defScope s_wall) := ⟨rfl, rfl, rfl, by decide +kernel, rfl, by decide +kernel, by decide +kernel⟩
theorem sc_BadRow_init : FnScope ["self", "row"] ["self", "row"] (defScope s_BadRow_init) := ⟨rfl, rfl, rfl, by decide +kernel, rfl, by decide +kernel, by decide +kernel⟩
theorem sc_NoPart_init : FnScope ["self", "row"] ["self", "row"] (defScope s_NoPart_init) := ⟨rfl, rfl, rfl, by decide +kernel, rfl, by decide +kernel, by decide +kernel⟩
theorem sc_Kind_lines : FnScope ["self"] ["self"] (defScope s_Kind_lines) := ⟨rfl, rfl, rfl, by decide +kernel, rfl, by decide +kernel, by decide +kernel⟩
theorem sc_Kind_joined : FnScope ["self", "numbers"] ["self", "numbers"] (defScope s_Kind_joined) := ⟨rfl, rfl, rfl, by decide +kernel, rfl, by decide +kernel, by decide +kernel⟩
theorem sc_Kind_word : FnScope ["self"] ["self"] (defScope s_Kind_word) := ⟨rfl, rfl, rfl, by decide +kernel, rfl, by decide +kernel, by decide +kernel⟩
theorem sc_Kind_made : FnScope ["self", "numbers", "width"] ["self", "numbers", "width"] (defScope s_Kind_made) := ⟨rfl, rfl, rfl, by decide +kernel, rfl, by decide +kernel, by decide +kernel⟩
theorem sc_Source_lines : FnScope ["self"] ["self"] (defScope s_Source_lines) := ⟨rfl, rfl, rfl, by decide +kernel, rfl, by decide +kernel, by decide +kernel⟩
theorem sc_Source_word : FnScope ["self"] ["self"] (defScope s_Source_word) := ⟨rfl, rfl, rfl, by decide +kernel, rfl, by decide +kernel, by decide +kernel⟩
theorem sc_Sink_lines : FnScope ["self"] ["self"] (defScope s_Sink_lines) := ⟨rfl, rfl, rfl, by decide +kernel, rfl, by decide +kernel, by decide +kernel⟩
theorem sc_Sink_joined : FnScope ["self", "numbers"] ["self", "numbers"] (defScope s_Sink_joined) := ⟨rfl, rfl, rfl, by decide +kernel, rfl, by decide +kernel, by decide +kernel⟩
theorem sc_Sink_word : FnScope ["self"] ["self"] (defScope s_Sink_word) := ⟨rfl, rfl, rfl, by decide +kernel, rfl, by decide +kernel, by decide +kernel⟩
theorem sc_Both_joined : FnScope ["self", "numbers"] ["self", "numbers"] (defScope s_Both_joined) := ⟨rfl, rfl, rfl, by decide +kernel, rfl, by decide +kernel, by decide +kernel⟩
theorem sc_Both_word : FnScope ["self"] ["self"] (defScope s_Both_word) := ⟨rfl, rfl, rfl, by decide +kernel, rfl, by decide +kernel, by decide +kernel⟩
theorem sc_Either_joined : FnScope ["self", "numbers"] ["self", "numbers"] (defScope s_Either_joined) := ⟨rfl, rfl, rfl, by decide +kernel, rfl, by decide +kernel, by decide +kernel⟩
theorem sc_Either_word : FnScope ["self"] ["self"] (defScope s_Either_word) := ⟨rfl, rfl, rfl, by decide +kernel, rfl, by decide +kernel, by decide +kernel⟩
theorem sc_Odd_joined : FnScope ["self", "numbers"] ["self", "numbers"] (defScope s_Odd_joined) := ⟨rfl, rfl, rfl, by decide +kernel, rfl, by decide +kernel, by decide +kernel⟩
theorem sc_Odd_word : FnScope ["self"] ["self"] (defScope s_Odd_word) := ⟨rfl, rfl, rfl, by decide +kernel, rfl, by decide +kernel, by decide +kernel⟩
theorem sc_Plus_joined : FnScope ["self", "numbers"] ["self", "numbers"] (defScope s_Plus_joined) := ⟨rfl, rfl, rfl, by decide +kernel, rfl, by decide +kernel, by decide +kernel⟩
theorem sc_Plus_word : FnScope ["self"] ["self"] (defScope s_Plus_word) := ⟨rfl, rfl, rfl, by decide +kernel, rfl, by decide +kernel, by decide +kernel⟩
theorem sc_Pick_lines : FnScope ["self"] ["self"] (defScope s_Pick_lines) := ⟨rfl, rfl, rfl, by decide +kernel, rfl, by decide +kernel, by decide +kernel⟩
theorem sc_Pick_joined : FnScope ["self", "numbers"] ["self", "numbers"] (defScope s_Pick_joined) := ⟨rfl, rfl, rfl, by decide +kernel, rfl, by decide +kernel, by decide +kernel⟩
theorem sc_Pick_word : FnScope ["self"] ["self"] (defScope s_Pick_word) := ⟨rfl, rfl, rfl, by decide +kernel, rfl, by decide +kernel, by decide +kernel⟩
theorem sc_Up_init : FnScope ["self", "count"] ["self", "count"] (defScope s_Up_init) := ⟨rfl, rfl, rfl, by decide +kernel, rfl, by decide +kernel, by decide +kernel⟩
theorem sc_Up_lines : FnScope ["self"] ["self"] (defScope s_Up_lines) := ⟨rfl, rfl, rfl, by decide +kernel, rfl, by decide +kernel, by decide +kernel⟩
theorem sc_Up_joined : FnScope ["self", "numbers"] ["self", "numbers"] (defScope s_Up_joined) := ⟨rfl, rfl, rfl, by decide +kernel, rfl, by decide +kernel, by decide +kernel⟩
theorem sc_Up_word : FnScope ["self"] ["self"] (defScope s_Up_word) := ⟨rfl, rfl, rfl, by decide +kernel, rfl, by decide +kernel, by decide +kernel⟩
theorem sc_Down_init : FnScope ["self", "count"] ["self", "count"] (defScope s_Down_init) := ⟨rfl, rfl, rfl, by decide +kernel, rfl, by decide +kernel, by decide +kernel⟩
theorem sc_Down_lines : FnScope ["self"] ["self"] (defScope s_Down_lines) := ⟨rfl, rfl, rfl, by decide +kernel, rfl, by decide +kernel, by decide +kernel⟩
theorem sc_Down_joined : FnScope ["self", "numbers"] ["self", "numbers"] (defScope s_Down_joined) := ⟨rfl, rfl, rfl, by decide +kernel, rfl, by decide +kernel, by decide +kernel⟩
theorem sc_Down_word : FnScope ["self"] ["self"] (defScope s_Down_word) := ⟨rfl, rfl, rfl, by decide +kernel, rfl, by decide +kernel, by decide +kernel⟩
theorem sc_number_in : FnScope ["figures", "most"] ["figures", "most"] (defScope s_number_in) := ⟨rfl, rfl, rfl, by decide +kernel, rfl, by decide +kernel, by decide +kernel⟩
theorem sc_kind_by : FnScope ["word", "kind", "head", "mark", "figures", "count"] ["word"] (defScope s_kind_by) := ⟨rfl, rfl, rfl, by decide +kernel, rfl, by decide +kernel, by decide +kernel⟩
theorem sc_Part_init : FnScope ["self", "name", "kind", "time", "feeds"] ["self", "name", "kind", "time", "feeds"] (defScope s_Part_init) := ⟨rfl, rfl, rfl, by decide +kernel, rfl, by decide +kernel, by decide +kernel⟩
theorem sc_Part_end : FnScope ["self"] ["self"] (defScope s_Part_end) := ⟨rfl, rfl, rfl, by decide +kernel, rfl, by decide +kernel, by decide +kernel⟩
theorem sc_Works_init : FnScope ["self", "parts"] ["self", "parts"] (defScope s_Works_init) := ⟨rfl, rfl, rfl, by decide +kernel, rfl, by decide +kernel, by decide +kernel⟩
theorem sc_Works_names : FnScope ["self", "part"] ["self"] (defScope s_Works_names) := ⟨rfl, rfl, rfl, by decide +kernel, rfl, by decide +kernel, by decide +kernel⟩
theorem sc_Works_part : FnScope ["self", "name"] ["self", "name"] (defScope s_Works_part) := ⟨rfl, rfl, rfl, by decide +kernel, rfl, by decide +kernel, by decide +kernel⟩
theorem sc_Works_kind : FnScope ["self", "name"] ["self", "name"] (defScope s_Works_kind) := ⟨rfl, rfl, rfl, by decide +kernel, rfl, by decide +kernel, by decide +kernel⟩
theorem sc_Works_time : FnScope ["self", "name"] ["self", "name"] (defScope s_Works_time) := ⟨rfl, rfl, rfl, by decide +kernel, rfl, by decide +kernel, by decide +kernel⟩
theorem sc_Works_lines : FnScope ["self", "told", "part", "feed"] ["self"] (defScope s_Works_lines) := ⟨rfl, rfl, rfl, by decide +kernel, rfl, by decide +kernel, by decide +kernel⟩
theorem sc_Works_stored : FnScope ["self", "counts"] ["self", "counts"] (defScope s_Works_stored) := ⟨rfl, rfl, rfl, by decide +kernel, rfl, by decide +kernel, by decide +kernel⟩
theorem sc_good_name : FnScope ["name"] ["name"] (defScope s_good_name) := ⟨rfl, rfl, rfl, by decide +kernel, rfl, by decide +kernel, by decide +kernel⟩
theorem sc_feed_of : FnScope ["word", "name", "mark", "figures", "count"] ["word"] (defScope s_feed_of) := ⟨rfl, rfl, rfl, by decide +kernel, rfl, by decide +kernel, by decide +kernel⟩
theorem sc_part_of : FnScope ["words", "kind", "time", "feeds", "word", "part"] ["words"] (defScope s_part_of) := ⟨rfl, rfl, rfl, by decide +kernel, rfl, by decide +kernel, by decide +kernel⟩
theorem sc_settled : FnScope ["works", "order", "done", "found", "part", "ready", "feed"] ["works"] (defScope s_settled) := ⟨rfl, rfl, rfl, by decide +kernel, rfl, by decide +kernel, by decide +kernel⟩
theorem sc_read : FnScope ["text", "parts", "rows", "kinds", "place", "row", "words", "word", "part", "feed", "works"] ["text"] (defScope s_read) := ⟨rfl, rfl, rfl, by decide +kernel, rfl, by decide +kernel, by decide +kernel⟩
theorem sc_law_cell_at : FnScope ["_law_script", "_law_k"] ["_law_script", "_law_k"] (defScope s_law_cell_at) := ⟨rfl, rfl, rfl, by decide +kernel, rfl, by decide +kernel, by decide +kernel⟩
theorem sc_law_draw : FnScope ["_law_cell", "_law_k", "_law_many_here", "_law_primes"] ["_law_cell", "_law_k", "_law_many_here"] (defScope s_law_draw) := ⟨rfl, rfl, rfl, by decide +kernel, rfl, by decide +kernel, by decide +kernel⟩
theorem sc_law_asks : FnScope ["_law_word_here"] ["_law_word_here"] (defScope s_law_asks) := ⟨rfl, rfl, rfl, by decide +kernel, rfl, by decide +kernel, by decide +kernel⟩
theorem sc_law_name : FnScope ["_law_k", "_law_mark", "_law_two"] ["_law_k", "_law_mark"] (defScope s_law_name) := ⟨rfl, rfl, rfl, by decide +kernel, rfl, by decide +kernel, by decide +kernel⟩
theorem sc_law_word : FnScope ["_law_cell", "_law_k", "_law_kind", "_law_words"] ["_law_cell", "_law_k"] (defScope s_law_word) := ⟨rfl, rfl, rfl, by decide +kernel, rfl, by decide +kernel, by decide +kernel⟩
theorem sc_law_works : FnScope ["_law_script", "_law_most", "_law_mark", "_law_many_here", "_law_words", "_law_k", "_law_froms", "_law_parts", "_law_feeds", "_law_j", "_law_cell", "_law_place", "_law_held", "_law_time"] ["_law_script", "_law_most"] (defScope s_law_works) := ⟨rfl, rfl, rfl, by decide +kernel, rfl, by decide +kernel, by decide +kernel⟩
theorem sc_law_text : FnScope ["_law_parts", "_law_rows", "_law_part", "_law_row", "_law_feed"] ["_law_parts"] (defScope s_law_text) := ⟨rfl, rfl, rfl, by decide +kernel, rfl, by decide +kernel, by decide +kernel⟩
theorem sc_law_refused : FnScope ["_law_text_here", "e", "_law_told"] ["_law_text_here"] (defScope s_law_refused) := ⟨rfl, rfl, rfl, by decide +kernel, rfl, by decide +kernel, by decide +kernel⟩
theorem sc_law_bad : FnScope ["_law_which", "_law_one", "_law_two", "_law_tails"] ["_law_which", "_law_one"] (defScope s_law_bad) := ⟨rfl, rfl, rfl, by decide +kernel, rfl, by decide +kernel, by decide +kernel⟩
theorem sc_law_many : FnScope ["_law_rows", "_law_k", "_law_text_here"] [] (defScope s_law_many) := ⟨rfl, rfl, rfl, by decide +kernel, rfl, by decide +kernel, by decide +kernel⟩
theorem sc_law_ringed : FnScope ["_law_parts", "_law_cell", "_law_size", "_law_rows", "_law_k"] ["_law_parts", "_law_cell"] (defScope s_law_ringed) := ⟨rfl, rfl, rfl, by decide +kernel, rfl, by decide +kernel, by decide +kernel⟩
theorem sc_law : FnScope ["_law_script", "_law_parts", "_law_rows", "_law_at", "_law_cell", "_law_place", "_law_bad_here", "_law_text_here", "_law_one", "_law_none", "_law_made", "_law_ringed_here", "_law_last"] ["_law_script"] (defScope s_law) := ⟨rfl, rfl, rfl, by decide +kernel, rfl, by decide +kernel, by decide +kernel⟩
def d_wall : He.DefD := ⟨("_wall", none), "_wall", "_wall", defArgs s_wall, defBody s_wall, defScope s_wall, [], []⟩
def d_BadRow_init : He.DefD := ⟨("BadRow", some "__init__"), "__init__", "BadRow.__init__", defArgs s_BadRow_init, defBody s_BadRow_init, defScope s_BadRow_init, [], []⟩
def d_NoPart_init : He.DefD := ⟨("NoPart", some "__init__"), "__init__", "NoPart.__init__", defArgs s_NoPart_init, defBody s_NoPart_init, defScope s_NoPart_init, [], []⟩
def d_Kind_lines : He.DefD := ⟨("Kind", some "lines"), "lines", "Kind.lines", defArgs s_Kind_lines, defBody s_Kind_lines, defScope s_Kind_lines, [], []⟩
def d_Kind_joined : He.DefD := ⟨("Kind", some "joined"), "joined", "Kind.joined", defArgs s_Kind_joined, defBody s_Kind_joined, defScope s_Kind_joined, [], []⟩
def d_Kind_word : He.DefD := ⟨("Kind", some "word"), "word", "Kind.word", defArgs s_Kind_word, defBody s_Kind_word, defScope s_Kind_word, [], []⟩
def d_Kind_made : He.DefD := ⟨("Kind", some "made"), "made", "Kind.made", defArgs s_Kind_made, defBody s_Kind_made, defScope s_Kind_made, [], []⟩
def d_Source_lines : He.DefD := ⟨("Source", some "lines"), "lines", "Source.lines", defArgs s_Source_lines, defBody s_Source_lines, defScope s_Source_lines, [], []⟩
def d_Source_word : He.DefD := ⟨("Source", some "word"), "word", "Source.word", defArgs s_Source_word, defBody s_Source_word, defScope s_Source_word, [], []⟩
def d_Sink_lines : He.DefD := ⟨("Sink", some "lines"), "lines", "Sink.lines", defArgs s_Sink_lines, defBody s_Sink_lines, defScope s_Sink_lines, [], []⟩
def d_Sink_joined : He.DefD := ⟨("Sink", some "joined"), "joined", "Sink.joined", defArgs s_Sink_joined, defBody s_Sink_joined, defScope s_Sink_joined, [], []⟩
def d_Sink_word : He.DefD := ⟨("Sink", some "word"), "word", "Sink.word", defArgs s_Sink_word, defBody s_Sink_word, defScope s_Sink_word, [], []⟩
def d_Both_joined : He.DefD := ⟨("Both", some "joined"), "joined", "Both.joined", defArgs s_Both_joined, defBody s_Both_joined, defScope s_Both_joined, [], []⟩
def d_Both_word : He.DefD := ⟨("Both", some "word"), "word", "Both.word", defArgs s_Both_word, defBody s_Both_word, defScope s_Both_word, [], []⟩
def d_Either_joined : He.DefD := ⟨("Either", some "joined"), "joined", "Either.joined", defArgs s_Either_joined, defBody s_Either_joined, defScope s_Either_joined, [], []⟩
def d_Either_word : He.DefD := ⟨("Either", some "word"), "word", "Either.word", defArgs s_Either_word, defBody s_Either_word, defScope s_Either_word, [], []⟩
def d_Odd_joined : He.DefD := ⟨("Odd", some "joined"), "joined", "Odd.joined", defArgs s_Odd_joined, defBody s_Odd_joined, defScope s_Odd_joined, [], []⟩
def d_Odd_word : He.DefD := ⟨("Odd", some "word"), "word", "Odd.word", defArgs s_Odd_word, defBody s_Odd_word, defScope s_Odd_word, [], []⟩
def d_Plus_joined : He.DefD := ⟨("Plus", some "joined"), "joined", "Plus.joined", defArgs s_Plus_joined, defBody s_Plus_joined, defScope s_Plus_joined, [], []⟩
def d_Plus_word : He.DefD := ⟨("Plus", some "word"), "word", "Plus.word", defArgs s_Plus_word, defBody s_Plus_word, defScope s_Plus_word, [], []⟩
def d_Pick_lines : He.DefD := ⟨("Pick", some "lines"), "lines", "Pick.lines", defArgs s_Pick_lines, defBody s_Pick_lines, defScope s_Pick_lines, [], []⟩
def d_Pick_joined : He.DefD := ⟨("Pick", some "joined"), "joined", "Pick.joined", defArgs s_Pick_joined, defBody s_Pick_joined, defScope s_Pick_joined, [], []⟩
def d_Pick_word : He.DefD := ⟨("Pick", some "word"), "word", "Pick.word", defArgs s_Pick_word, defBody s_Pick_word, defScope s_Pick_word, [], []⟩
def d_Up_init : He.DefD := ⟨("Up", some "__init__"), "__init__", "Up.__init__", defArgs s_Up_init, defBody s_Up_init, defScope s_Up_init, [], []⟩
def d_Up_lines : He.DefD := ⟨("Up", some "lines"), "lines", "Up.lines", defArgs s_Up_lines, defBody s_Up_lines, defScope s_Up_lines, [], []⟩
def d_Up_joined : He.DefD := ⟨("Up", some "joined"), "joined", "Up.joined", defArgs s_Up_joined, defBody s_Up_joined, defScope s_Up_joined, [], []⟩
def d_Up_word : He.DefD := ⟨("Up", some "word"), "word", "Up.word", defArgs s_Up_word, defBody s_Up_word, defScope s_Up_word, [], []⟩
def d_Down_init : He.DefD := ⟨("Down", some "__init__"), "__init__", "Down.__init__", defArgs s_Down_init, defBody s_Down_init, defScope s_Down_init, [], []⟩
def d_Down_lines : He.DefD := ⟨("Down", some "lines"), "lines", "Down.lines", defArgs s_Down_lines, defBody s_Down_lines, defScope s_Down_lines, [], []⟩
def d_Down_joined : He.DefD := ⟨("Down", some "joined"), "joined", "Down.joined", defArgs s_Down_joined, defBody s_Down_joined, defScope s_Down_joined, [], []⟩
def d_Down_word : He.DefD := ⟨("Down", some "word"), "word", "Down.word", defArgs s_Down_word, defBody s_Down_word, defScope s_Down_word, [], []⟩
def d_number_in : He.DefD := ⟨("number_in", none), "number_in", "number_in", defArgs s_number_in, defBody s_number_in, defScope s_number_in, [], []⟩
def d_kind_by : He.DefD := ⟨("kind_by", none), "kind_by", "kind_by", defArgs s_kind_by, defBody s_kind_by, defScope s_kind_by, [], []⟩
def d_Part_init : He.DefD := ⟨("Part", some "__init__"), "__init__", "Part.__init__", defArgs s_Part_init, defBody s_Part_init, defScope s_Part_init, [], []⟩
def d_Part_end : He.DefD := ⟨("Part", some "end"), "end", "Part.end", defArgs s_Part_end, defBody s_Part_end, defScope s_Part_end, [], []⟩
def d_Works_init : He.DefD := ⟨("Works", some "__init__"), "__init__", "Works.__init__", defArgs s_Works_init, defBody s_Works_init, defScope s_Works_init, [], []⟩
def d_Works_names : He.DefD := ⟨("Works", some "names"), "names", "Works.names", defArgs s_Works_names, defBody s_Works_names, defScope s_Works_names, [], []⟩
def d_Works_part : He.DefD := ⟨("Works", some "part"), "part", "Works.part", defArgs s_Works_part, defBody s_Works_part, defScope s_Works_part, [], []⟩
def d_Works_kind : He.DefD := ⟨("Works", some "kind"), "kind", "Works.kind", defArgs s_Works_kind, defBody s_Works_kind, defScope s_Works_kind, [], []⟩
def d_Works_time : He.DefD := ⟨("Works", some "time"), "time", "Works.time", defArgs s_Works_time, defBody s_Works_time, defScope s_Works_time, [], []⟩
def d_Works_lines : He.DefD := ⟨("Works", some "lines"), "lines", "Works.lines", defArgs s_Works_lines, defBody s_Works_lines, defScope s_Works_lines, [], []⟩
def d_Works_stored : He.DefD := ⟨("Works", some "stored"), "stored", "Works.stored", defArgs s_Works_stored, defBody s_Works_stored, defScope s_Works_stored, [], []⟩
def d_good_name : He.DefD := ⟨("good_name", none), "good_name", "good_name", defArgs s_good_name, defBody s_good_name, defScope s_good_name, [], []⟩
def d_feed_of : He.DefD := ⟨("feed_of", none), "feed_of", "feed_of", defArgs s_feed_of, defBody s_feed_of, defScope s_feed_of, [], []⟩
def d_part_of : He.DefD := ⟨("part_of", none), "part_of", "part_of", defArgs s_part_of, defBody s_part_of, defScope s_part_of, [], []⟩
def d_settled : He.DefD := ⟨("settled", none), "settled", "settled", defArgs s_settled, defBody s_settled, defScope s_settled, [], []⟩
def d_read : He.DefD := ⟨("read", none), "read", "read", defArgs s_read, defBody s_read, defScope s_read, [], []⟩
def d_law_cell_at : He.DefD := ⟨("_law_cell_at", none), "_law_cell_at", "_law_cell_at", defArgs s_law_cell_at, defBody s_law_cell_at, defScope s_law_cell_at, [], []⟩
def d_law_draw : He.DefD := ⟨("_law_draw", none), "_law_draw", "_law_draw", defArgs s_law_draw, defBody s_law_draw, defScope s_law_draw, [], []⟩
def d_law_asks : He.DefD := ⟨("_law_asks", none), "_law_asks", "_law_asks", defArgs s_law_asks, defBody s_law_asks, defScope s_law_asks, [], []⟩
def d_law_name : He.DefD := ⟨("_law_name", none), "_law_name", "_law_name", defArgs s_law_name, defBody s_law_name, defScope s_law_name, [], []⟩
def d_law_word : He.DefD := ⟨("_law_word", none), "_law_word", "_law_word", defArgs s_law_word, defBody s_law_word, defScope s_law_word, [], []⟩
def d_law_works : He.DefD := ⟨("_law_works", none), "_law_works", "_law_works", defArgs s_law_works, defBody s_law_works, defScope s_law_works, [], []⟩
def d_law_text : He.DefD := ⟨("_law_text", none), "_law_text", "_law_text", defArgs s_law_text, defBody s_law_text, defScope s_law_text, [], []⟩
def d_law_refused : He.DefD := ⟨("_law_refused", none), "_law_refused", "_law_refused", defArgs s_law_refused, defBody s_law_refused, defScope s_law_refused, [], []⟩
def d_law_bad : He.DefD := ⟨("_law_bad", none), "_law_bad", "_law_bad", defArgs s_law_bad, defBody s_law_bad, defScope s_law_bad, [], []⟩
def d_law_many : He.DefD := ⟨("_law_many", none), "_law_many", "_law_many", defArgs s_law_many, defBody s_law_many, defScope s_law_many, [], []⟩
def d_law_ringed : He.DefD := ⟨("_law_ringed", none), "_law_ringed", "_law_ringed", defArgs s_law_ringed, defBody s_law_ringed, defScope s_law_ringed, [], []⟩
def d_law : He.DefD := ⟨("law", none), "law", "law", defArgs s_law, defBody s_law, defScope s_law, [], []⟩
def d_Source_joined : He.DefD := ⟨("Source", some "joined"), "joined", "Kind.joined", defArgs s_Kind_joined, defBody s_Kind_joined, defScope s_Kind_joined, [], []⟩
def d_Source_made : He.DefD := ⟨("Source", some "made"), "made", "Kind.made", defArgs s_Kind_made, defBody s_Kind_made, defScope s_Kind_made, [], []⟩
def d_Sink_made : He.DefD := ⟨("Sink", some "made"), "made", "Kind.made", defArgs s_Kind_made, defBody s_Kind_made, defScope s_Kind_made, [], []⟩
def d_Both_lines : He.DefD := ⟨("Both", some "lines"), "lines", "Kind.lines", defArgs s_Kind_lines, defBody s_Kind_lines, defScope s_Kind_lines, [], []⟩
def d_Both_made : He.DefD := ⟨("Both", some "made"), "made", "Kind.made", defArgs s_Kind_made, defBody s_Kind_made, defScope s_Kind_made, [], []⟩
def d_Either_lines : He.DefD := ⟨("Either", some "lines"), "lines", "Kind.lines", defArgs s_Kind_lines, defBody s_Kind_lines, defScope s_Kind_lines, [], []⟩
def d_Either_made : He.DefD := ⟨("Either", some "made"), "made", "Kind.made", defArgs s_Kind_made, defBody s_Kind_made, defScope s_Kind_made, [], []⟩
def d_Odd_lines : He.DefD := ⟨("Odd", some "lines"), "lines", "Kind.lines", defArgs s_Kind_lines, defBody s_Kind_lines, defScope s_Kind_lines, [], []⟩
def d_Odd_made : He.DefD := ⟨("Odd", some "made"), "made", "Kind.made", defArgs s_Kind_made, defBody s_Kind_made, defScope s_Kind_made, [], []⟩
def d_Plus_lines : He.DefD := ⟨("Plus", some "lines"), "lines", "Kind.lines", defArgs s_Kind_lines, defBody s_Kind_lines, defScope s_Kind_lines, [], []⟩
def d_Plus_made : He.DefD := ⟨("Plus", some "made"), "made", "Kind.made", defArgs s_Kind_made, defBody s_Kind_made, defScope s_Kind_made, [], []⟩
def d_Pick_made : He.DefD := ⟨("Pick", some "made"), "made", "Kind.made", defArgs s_Kind_made, defBody s_Kind_made, defScope s_Kind_made, [], []⟩
def d_Up_made : He.DefD := ⟨("Up", some "made"), "made", "Kind.made", defArgs s_Kind_made, defBody s_Kind_made, defScope s_Kind_made, [], []⟩
def d_Down_made : He.DefD := ⟨("Down", some "made"), "made", "Kind.made", defArgs s_Kind_made, defBody s_Kind_made, defScope s_Kind_made, [], []⟩
def fn : List He.DefD := [d_wall, d_BadRow_init, d_NoPart_init, d_Kind_lines, d_Kind_joined, d_Kind_word, d_Kind_made, d_Source_lines, d_Source_word, d_Sink_lines, d_Sink_joined, d_Sink_word, d_Both_joined, d_Both_word, d_Either_joined, d_Either_word, d_Odd_joined, d_Odd_word, d_Plus_joined, d_Plus_word, d_Pick_lines, d_Pick_joined, d_Pick_word, d_Up_init, d_Up_lines, d_Up_joined, d_Up_word, d_Down_init, d_Down_lines, d_Down_joined, d_Down_word, d_number_in, d_kind_by, d_Part_init, d_Part_end, d_Works_init, d_Works_names, d_Works_part, d_Works_kind, d_Works_time, d_Works_lines, d_Works_stored, d_good_name, d_feed_of, d_part_of, d_settled, d_read, d_law_cell_at, d_law_draw, d_law_asks, d_law_name, d_law_word, d_law_works, d_law_text, d_law_refused, d_law_bad, d_law_many, d_law_ringed, d_law, d_Source_joined, d_Source_made, d_Sink_made, d_Both_lines, d_Both_made, d_Either_lines, d_Either_made, d_Odd_lines, d_Odd_made, d_Plus_lines, d_Plus_made, d_Pick_made, d_Up_made, d_Down_made]
def fa : List He.Fa := [.glo "_wall", .glo "WorksError", .glo "BadRow", .glo "NoPart", .glo "TooMany", .glo "Ring", .glo "BadLag", .glo "Kind", .glo "Source", .glo "Sink", .glo "Both", .glo "Either", .glo "Odd", .glo "Plus", .glo "Pick", .glo "Up", .glo "Down", .glo "number_in", .glo "kind_by", .int "MOST" 60, .glo "Part", .glo "Works", .glo "good_name", .glo "feed_of", .glo "part_of", .glo "settled", .glo "read", .glo "_law_cell_at", .glo "_law_draw", .glo "_law_asks", .glo "_law_name", .glo "_law_word", .glo "_law_works", .glo "_law_text", .glo "_law_refused", .glo "_law_bad", .glo "_law_many", .glo "_law_ringed", .glo "law", .free "str", .free "int", .free "len", .free "enumerate", .free "zip", .free "range", .free "isinstance", .free "ValueError", .free "min", .keep "WorksError", .keep "BadRow", .keep "NoPart", .keep "TooMany", .keep "Ring", .keep "BadLag", .cls "Kind", .meth "Kind" "lines", .meth "Kind" "joined", .meth "Kind" "word", .meth "Kind" "made", .cls "Source", .meth "Source" "lines", .meth "Source" "word", .meth "Source" "joined", .meth "Source" "made", .cls "Sink", .meth "Sink" "lines", .meth "Sink" "joined", .meth "Sink" "word", .meth "Sink" "made", .cls "Both", .meth "Both" "joined", .meth "Both" "word", .meth "Both" "lines", .meth "Both" "made", .cls "Either", .meth "Either" "joined", .meth "Either" "word", .meth "Either" "lines", .meth "Either" "made", .cls "Odd", .meth "Odd" "joined", .meth "Odd" "word", .meth "Odd" "lines", .meth "Odd" "made", .cls "Plus", .meth "Plus" "joined", .meth "Plus" "word", .meth "Plus" "lines", .meth "Plus" "made", .cls "Pick", .meth "Pick" "lines", .meth "Pick" "joined", .meth "Pick" "word", .meth "Pick" "made", .cls "Up", .noat "Up" "count", .mkr "Up", .meth "Up" "lines", .meth "Up" "joined", .meth "Up" "word", .meth "Up" "made", .cls "Down", .noat "Down" "count", .mkr "Down", .meth "Down" "lines", .meth "Down" "joined", .meth "Down" "word", .meth "Down" "made", .cls "Part", .noat "Part" "called", .noat "Part" "craft", .noat "Part" "takes", .noat "Part" "feeds", .mkr "Part", .meth "Part" "end", .cls "Works", .noat "Works" "parts", .mkr "Works", .meth "Works" "names", .meth "Works" "part", .meth "Works" "kind", .meth "Works" "time", .meth "Works" "lines", .meth "Works" "stored"]
def exL : List (PySem.W.Frag → Bool) := [moB "Kind", moB "Source", moB "Sink", moB "Both", moB "Either", moB "Odd", moB "Plus", moB "Pick", excfB "TooMany", exccB "TooMany", exmB "TooMany" "WorksError" true, kitB "TooMany" "BadRow" false, kitB "TooMany" "NoPart" false, kitB "TooMany" "TooMany" true, kitB "TooMany" "Ring" false, kitB "TooMany" "BadLag" false, kitVB "TooMany", excfB "Ring", exccB "Ring", exmB "Ring" "WorksError" true, kitB "Ring" "BadRow" false, kitB "Ring" "NoPart" false, kitB "Ring" "TooMany" false, kitB "Ring" "Ring" true, kitB "Ring" "BadLag" false, kitVB "Ring", oexB "BadRow", exccB "BadRow", exmB "BadRow" "WorksError" true, kitB "BadRow" "BadRow" true, kitB "BadRow" "NoPart" false, kitB "BadRow" "TooMany" false, kitB "BadRow" "Ring" false, kitB "BadRow" "BadLag" false, kitVB "BadRow", xfcB "BadRow", noB "BadRow" "row", ownInitB "BadRow", fnTyB "BadRow", oexB "NoPart", exccB "NoPart", exmB "NoPart" "WorksError" true, kitB "NoPart" "BadRow" false, kitB "NoPart" "NoPart" true, kitB "NoPart" "TooMany" false, kitB "NoPart" "Ring" false, kitB "NoPart" "BadLag" false, kitVB "NoPart", xfcB "NoPart", noB "NoPart" "row", ownInitB "NoPart", fnTyB "NoPart", clsIB "WorksError"]
def exB (K : PySem.W.Frag) : Bool := exL.all fun f => f K
abbrev R : PySem.W.OpenRow := PySem.W.OpenLaw.row PySem.Challenge.rw_storeway_k03_refused
abbrev hk : PySem.W.Hook := hookR 1400 fa fn exB
def ob (s : PySem.W.SharedT) : He.AlD × Bool := obsR 1400 fa fn exB (HandSHeadRun.getT s)
theorem ob_eq (s : PySem.W.SharedT) : ob s = hk.obs s.abs := obsR_eq s
def names0 : List PySem.Str := ["_wall", "WorksError", "BadRow", "NoPart", "TooMany", "Ring", "BadLag", "Kind", "Source", "Sink", "Both", "Either", "Odd", "Plus", "Pick", "Up", "Down", "number_in", "kind_by", "MOST"]
def names1 : List PySem.Str := ["Part", "Works", "good_name", "feed_of", "part_of", "settled", "read", "_law_cell_at", "_law_draw", "_law_asks", "_law_name", "_law_word", "_law_works", "_law_text", "_law_refused", "_law_bad", "_law_many", "_law_ringed"]
def names : List PySem.Str := names0 ++ names1
structure Txt (K : PySem.W.Frag) (mg : Str → Option Value) : Prop where
  c : He.SaysD fa fn K
  ex : exB K = true
  H : ∃ h : Heap, K.In h ∧ h.Ns mainGlobals mg
section
variable {K : PySem.W.Frag} {mg : Str → Option Value}
theorem Txt.g_wall (T : Txt K mg) : mg "_wall" = some (.ref (ga K "_wall")) := by
  obtain ⟨h, X, G⟩ := T.H
  exact He.glo_ok X G (T.c.fact 0 (f := (.glo "_wall")) rfl)
theorem Txt.g_WorksError (T : Txt K mg) : mg "WorksError" = some (.ref (ga K "WorksError")) := by
  obtain ⟨h, X, G⟩ := T.H
  exact He.glo_ok X G (T.c.fact 1 (f := (.glo "WorksError")) rfl)
theorem Txt.g_BadRow (T : Txt K mg) : mg "BadRow" = some (.ref (ga K "BadRow")) := by
  obtain ⟨h, X, G⟩ := T.H
  exact He.glo_ok X G (T.c.fact 2 (f := (.glo "BadRow")) rfl)
theorem Txt.g_NoPart (T : Txt K mg) : mg "NoPart" = some (.ref (ga K "NoPart")) := by
  obtain ⟨h, X, G⟩ := T.H
  exact He.glo_ok X G (T.c.fact 3 (f := (.glo "NoPart")) rfl)
theorem Txt.g_TooMany (T : Txt K mg) : mg "TooMany" = some (.ref (ga K "TooMany")) := by
  obtain ⟨h, X, G⟩ := T.H
  exact He.glo_ok X G (T.c.fact 4 (f := (.glo "TooMany")) rfl)
theorem Txt.g_Ring (T : Txt K mg) : mg "Ring" = some (.ref (ga K "Ring")) := by
  obtain ⟨h, X, G⟩ := T.H
  exact He.glo_ok X G (T.c.fact 5 (f := (.glo "Ring")) rfl)
theorem Txt.g_BadLag (T : Txt K mg) : mg "BadLag" = some (.ref (ga K "BadLag")) := by
  obtain ⟨h, X, G⟩ := T.H
  exact He.glo_ok X G (T.c.fact 6 (f := (.glo "BadLag")) rfl)
theorem Txt.g_Kind (T : Txt K mg) : mg "Kind" = some (.ref (ga K "Kind")) := by
  obtain ⟨h, X, G⟩ := T.H
  exact He.glo_ok X G (T.c.fact 7 (f := (.glo "Kind")) rfl)
theorem Txt.g_Source (T : Txt K mg) : mg "Source" = some (.ref (ga K "Source")) := by
  obtain ⟨h, X, G⟩ := T.H
  exact He.glo_ok X G (T.c.fact 8 (f := (.glo "Source")) rfl)
theorem Txt.g_Sink (T : Txt K mg) : mg "Sink" = some (.ref (ga K "Sink")) := by
  obtain ⟨h, X, G⟩ := T.H
  exact He.glo_ok X G (T.c.fact 9 (f := (.glo "Sink")) rfl)
theorem Txt.g_Both (T : Txt K mg) : mg "Both" = some (.ref (ga K "Both")) := by
  obtain ⟨h, X, G⟩ := T.H
  exact He.glo_ok X G (T.c.fact 10 (f := (.glo "Both")) rfl)
theorem Txt.g_Either (T : Txt K mg) : mg "Either" = some (.ref (ga K "Either")) := by
  obtain ⟨h, X, G⟩ := T.H
  exact He.glo_ok X G (T.c.fact 11 (f := (.glo "Either")) rfl)
theorem Txt.g_Odd (T : Txt K mg) : mg "Odd" = some (.ref (ga K "Odd")) := by
  obtain ⟨h, X, G⟩ := T.H
  exact He.glo_ok X G (T.c.fact 12 (f := (.glo "Odd")) rfl)
theorem Txt.g_Plus (T : Txt K mg) : mg "Plus" = some (.ref (ga K "Plus")) := by
  obtain ⟨h, X, G⟩ := T.H
  exact He.glo_ok X G (T.c.fact 13 (f := (.glo "Plus")) rfl)
theorem Txt.g_Pick (T : Txt K mg) : mg "Pick" = some (.ref (ga K "Pick")) := by
  obtain ⟨h, X, G⟩ := T.H
  exact He.glo_ok X G (T.c.fact 14 (f := (.glo "Pick")) rfl)
theorem Txt.g_Up (T : Txt K mg) : mg "Up" = some (.ref (ga K "Up")) := by
  obtain ⟨h, X, G⟩ := T.H
  exact He.glo_ok X G (T.c.fact 15 (f := (.glo "Up")) rfl)
theorem Txt.g_Down (T : Txt K mg) : mg "Down" = some (.ref (ga K "Down")) := by
  obtain ⟨h, X, G⟩ := T.H
  exact He.glo_ok X G (T.c.fact 16 (f := (.glo "Down")) rfl)
theorem Txt.g_number_in (T : Txt K mg) : mg "number_in" = some (.ref (ga K "number_in")) := by
  obtain ⟨h, X, G⟩ := T.H
  exact He.glo_ok X G (T.c.fact 17 (f := (.glo "number_in")) rfl)
theorem Txt.g_kind_by (T : Txt K mg) : mg "kind_by" = some (.ref (ga K "kind_by")) := by
  obtain ⟨h, X, G⟩ := T.H
  exact He.glo_ok X G (T.c.fact 18 (f := (.glo "kind_by")) rfl)
theorem Txt.g_MOST (T : Txt K mg) : ∃ t, mg "MOST" = some (.int 60 t) := by
  obtain ⟨h, X, G⟩ := T.H
  exact He.int_ok X G (T.c.fact 19 (f := (.int "MOST" 60)) rfl)
theorem Txt.g_Part (T : Txt K mg) : mg "Part" = some (.ref (ga K "Part")) := by
  obtain ⟨h, X, G⟩ := T.H
  exact He.glo_ok X G (T.c.fact 20 (f := (.glo "Part")) rfl)
theorem Txt.g_Works (T : Txt K mg) : mg "Works" = some (.ref (ga K "Works")) := by
  obtain ⟨h, X, G⟩ := T.H
  exact He.glo_ok X G (T.c.fact 21 (f := (.glo "Works")) rfl)
theorem Txt.g_good_name (T : Txt K mg) : mg "good_name" = some (.ref (ga K "good_name")) := by
  obtain ⟨h, X, G⟩ := T.H
  exact He.glo_ok X G (T.c.fact 22 (f := (.glo "good_name")) rfl)
theorem Txt.g_feed_of (T : Txt K mg) : mg "feed_of" = some (.ref (ga K "feed_of")) := by
  obtain ⟨h, X, G⟩ := T.H
  exact He.glo_ok X G (T.c.fact 23 (f := (.glo "feed_of")) rfl)
theorem Txt.g_part_of (T : Txt K mg) : mg "part_of" = some (.ref (ga K "part_of")) := by
  obtain ⟨h, X, G⟩ := T.H
  exact He.glo_ok X G (T.c.fact 24 (f := (.glo "part_of")) rfl)
theorem Txt.g_settled (T : Txt K mg) : mg "settled" = some (.ref (ga K "settled")) := by
  obtain ⟨h, X, G⟩ := T.H
  exact He.glo_ok X G (T.c.fact 25 (f := (.glo "settled")) rfl)
theorem Txt.g_read (T : Txt K mg) : mg "read" = some (.ref (ga K "read")) := by
  obtain ⟨h, X, G⟩ := T.H
  exact He.glo_ok X G (T.c.fact 26 (f := (.glo "read")) rfl)
theorem Txt.g_law_cell_at (T : Txt K mg) : mg "_law_cell_at" = some (.ref (ga K "_law_cell_at")) := by
  obtain ⟨h, X, G⟩ := T.H
  exact He.glo_ok X G (T.c.fact 27 (f := (.glo "_law_cell_at")) rfl)
theorem Txt.g_law_draw (T : Txt K mg) : mg "_law_draw" = some (.ref (ga K "_law_draw")) := by
  obtain ⟨h, X, G⟩ := T.H
  exact He.glo_ok X G (T.c.fact 28 (f := (.glo "_law_draw")) rfl)
theorem Txt.g_law_asks (T : Txt K mg) : mg "_law_asks" = some (.ref (ga K "_law_asks")) := by
  obtain ⟨h, X, G⟩ := T.H
  exact He.glo_ok X G (T.c.fact 29 (f := (.glo "_law_asks")) rfl)
theorem Txt.g_law_name (T : Txt K mg) : mg "_law_name" = some (.ref (ga K "_law_name")) := by
  obtain ⟨h, X, G⟩ := T.H
  exact He.glo_ok X G (T.c.fact 30 (f := (.glo "_law_name")) rfl)
theorem Txt.g_law_word (T : Txt K mg) : mg "_law_word" = some (.ref (ga K "_law_word")) := by
  obtain ⟨h, X, G⟩ := T.H
  exact He.glo_ok X G (T.c.fact 31 (f := (.glo "_law_word")) rfl)
theorem Txt.g_law_works (T : Txt K mg) : mg "_law_works" = some (.ref (ga K "_law_works")) := by
  obtain ⟨h, X, G⟩ := T.H
  exact He.glo_ok X G (T.c.fact 32 (f := (.glo "_law_works")) rfl)
theorem Txt.g_law_text (T : Txt K mg) : mg "_law_text" = some (.ref (ga K "_law_text")) := by
  obtain ⟨h, X, G⟩ := T.H
  exact He.glo_ok X G (T.c.fact 33 (f := (.glo "_law_text")) rfl)
theorem Txt.g_law_refused (T : Txt K mg) : mg "_law_refused" = some (.ref (ga K "_law_refused")) := by
  obtain ⟨h, X, G⟩ := T.H
  exact He.glo_ok X G (T.c.fact 34 (f := (.glo "_law_refused")) rfl)
theorem Txt.g_law_bad (T : Txt K mg) : mg "_law_bad" = some (.ref (ga K "_law_bad")) := by
  obtain ⟨h, X, G⟩ := T.H
  exact He.glo_ok X G (T.c.fact 35 (f := (.glo "_law_bad")) rfl)
theorem Txt.g_law_many (T : Txt K mg) : mg "_law_many" = some (.ref (ga K "_law_many")) := by
  obtain ⟨h, X, G⟩ := T.H
  exact He.glo_ok X G (T.c.fact 36 (f := (.glo "_law_many")) rfl)
theorem Txt.g_law_ringed (T : Txt K mg) : mg "_law_ringed" = some (.ref (ga K "_law_ringed")) := by
  obtain ⟨h, X, G⟩ := T.H
  exact He.glo_ok X G (T.c.fact 37 (f := (.glo "_law_ringed")) rfl)
theorem Txt.g_law (T : Txt K mg) : mg "law" = some (.ref (ga K "law")) := by
  obtain ⟨h, X, G⟩ := T.H
  exact He.glo_ok X G (T.c.fact 38 (f := (.glo "law")) rfl)
theorem Txt.f_str (T : Txt K mg) : mg "str" = none := by
  obtain ⟨h, X, G⟩ := T.H
  exact He.free_ok X G (T.c.fact 39 (f := (.free "str")) rfl)
theorem Txt.f_int (T : Txt K mg) : mg "int" = none := by
  obtain ⟨h, X, G⟩ := T.H
  exact He.free_ok X G (T.c.fact 40 (f := (.free "int")) rfl)
theorem Txt.f_len (T : Txt K mg) : mg "len" = none := by
  obtain ⟨h, X, G⟩ := T.H
  exact He.free_ok X G (T.c.fact 41 (f := (.free "len")) rfl)
theorem Txt.f_enumerate (T : Txt K mg) : mg "enumerate" = none := by
  obtain ⟨h, X, G⟩ := T.H
  exact He.free_ok X G (T.c.fact 42 (f := (.free "enumerate")) rfl)
theorem Txt.f_zip (T : Txt K mg) : mg "zip" = none := by
  obtain ⟨h, X, G⟩ := T.H
  exact He.free_ok X G (T.c.fact 43 (f := (.free "zip")) rfl)
theorem Txt.f_range (T : Txt K mg) : mg "range" = none := by
  obtain ⟨h, X, G⟩ := T.H
  exact He.free_ok X G (T.c.fact 44 (f := (.free "range")) rfl)
theorem Txt.f_isinstance (T : Txt K mg) : mg "isinstance" = none := by
  obtain ⟨h, X, G⟩ := T.H
  exact He.free_ok X G (T.c.fact 45 (f := (.free "isinstance")) rfl)
theorem Txt.f_ValueError (T : Txt K mg) : mg "ValueError" = none := by
  obtain ⟨h, X, G⟩ := T.H
  exact He.free_ok X G (T.c.fact 46 (f := (.free "ValueError")) rfl)
theorem Txt.f_min (T : Txt K mg) : mg "min" = none := by
  obtain ⟨h, X, G⟩ := T.H
  exact He.free_ok X G (T.c.fact 47 (f := (.free "min")) rfl)
theorem Txt.kp_WorksError (T : Txt K mg) : PySem.W.keepIn K (.ref (ga K "WorksError")) = true := He.keep_ok (T.c.fact 48 (f := (.keep "WorksError")) rfl)
theorem Txt.kp_BadRow (T : Txt K mg) : PySem.W.keepIn K (.ref (ga K "BadRow")) = true := He.keep_ok (T.c.fact 49 (f := (.keep "BadRow")) rfl)
theorem Txt.kp_NoPart (T : Txt K mg) : PySem.W.keepIn K (.ref (ga K "NoPart")) = true := He.keep_ok (T.c.fact 50 (f := (.keep "NoPart")) rfl)
theorem Txt.kp_TooMany (T : Txt K mg) : PySem.W.keepIn K (.ref (ga K "TooMany")) = true := He.keep_ok (T.c.fact 51 (f := (.keep "TooMany")) rfl)
theorem Txt.kp_Ring (T : Txt K mg) : PySem.W.keepIn K (.ref (ga K "Ring")) = true := He.keep_ok (T.c.fact 52 (f := (.keep "Ring")) rfl)
theorem Txt.kp_BadLag (T : Txt K mg) : PySem.W.keepIn K (.ref (ga K "BadLag")) = true := He.keep_ok (T.c.fact 53 (f := (.keep "BadLag")) rfl)
theorem Txt.c_Kind (T : Txt K mg) : Cls K (ga K "Kind") := He.cls_ok (T.c.fact 54 (f := (.cls "Kind")) rfl)
theorem Txt.m_Kind_lines (T : Txt K mg) : Meth K (ga K "Kind") "lines" (ma K (ga K "Kind") "lines") := He.meth_ok (T.c.fact 55 (f := (.meth "Kind" "lines")) rfl)
theorem Txt.m_Kind_joined (T : Txt K mg) : Meth K (ga K "Kind") "joined" (ma K (ga K "Kind") "joined") := He.meth_ok (T.c.fact 56 (f := (.meth "Kind" "joined")) rfl)
theorem Txt.m_Kind_word (T : Txt K mg) : Meth K (ga K "Kind") "word" (ma K (ga K "Kind") "word") := He.meth_ok (T.c.fact 57 (f := (.meth "Kind" "word")) rfl)
theorem Txt.m_Kind_made (T : Txt K mg) : Meth K (ga K "Kind") "made" (ma K (ga K "Kind") "made") := He.meth_ok (T.c.fact 58 (f := (.meth "Kind" "made")) rfl)
theorem Txt.c_Source (T : Txt K mg) : Cls K (ga K "Source") := He.cls_ok (T.c.fact 59 (f := (.cls "Source")) rfl)
theorem Txt.m_Source_lines (T : Txt K mg) : Meth K (ga K "Source") "lines" (ma K (ga K "Source") "lines") := He.meth_ok (T.c.fact 60 (f := (.meth "Source" "lines")) rfl)
theorem Txt.m_Source_word (T : Txt K mg) : Meth K (ga K "Source") "word" (ma K (ga K "Source") "word") := He.meth_ok (T.c.fact 61 (f := (.meth "Source" "word")) rfl)
theorem Txt.m_Source_joined (T : Txt K mg) : Meth K (ga K "Source") "joined" (ma K (ga K "Source") "joined") := He.meth_ok (T.c.fact 62 (f := (.meth "Source" "joined")) rfl)
theorem Txt.m_Source_made (T : Txt K mg) : Meth K (ga K "Source") "made" (ma K (ga K "Source") "made") := He.meth_ok (T.c.fact 63 (f := (.meth "Source" "made")) rfl)
theorem Txt.c_Sink (T : Txt K mg) : Cls K (ga K "Sink") := He.cls_ok (T.c.fact 64 (f := (.cls "Sink")) rfl)
theorem Txt.m_Sink_lines (T : Txt K mg) : Meth K (ga K "Sink") "lines" (ma K (ga K "Sink") "lines") := He.meth_ok (T.c.fact 65 (f := (.meth "Sink" "lines")) rfl)
theorem Txt.m_Sink_joined (T : Txt K mg) : Meth K (ga K "Sink") "joined" (ma K (ga K "Sink") "joined") := He.meth_ok (T.c.fact 66 (f := (.meth "Sink" "joined")) rfl)
theorem Txt.m_Sink_word (T : Txt K mg) : Meth K (ga K "Sink") "word" (ma K (ga K "Sink") "word") := He.meth_ok (T.c.fact 67 (f := (.meth "Sink" "word")) rfl)
theorem Txt.m_Sink_made (T : Txt K mg) : Meth K (ga K "Sink") "made" (ma K (ga K "Sink") "made") := He.meth_ok (T.c.fact 68 (f := (.meth "Sink" "made")) rfl)
theorem Txt.c_Both (T : Txt K mg) : Cls K (ga K "Both") := He.cls_ok (T.c.fact 69 (f := (.cls "Both")) rfl)
theorem Txt.m_Both_joined (T : Txt K mg) : Meth K (ga K "Both") "joined" (ma K (ga K "Both") "joined") := He.meth_ok (T.c.fact 70 (f := (.meth "Both" "joined")) rfl)
theorem Txt.m_Both_word (T : Txt K mg) : Meth K (ga K "Both") "word" (ma K (ga K "Both") "word") := He.meth_ok (T.c.fact 71 (f := (.meth "Both" "word")) rfl)
theorem Txt.m_Both_lines (T : Txt K mg) : Meth K (ga K "Both") "lines" (ma K (ga K "Both") "lines") := He.meth_ok (T.c.fact 72 (f := (.meth "Both" "lines")) rfl)
theorem Txt.m_Both_made (T : Txt K mg) : Meth K (ga K "Both") "made" (ma K (ga K "Both") "made") := He.meth_ok (T.c.fact 73 (f := (.meth "Both" "made")) rfl)
theorem Txt.c_Either (T : Txt K mg) : Cls K (ga K "Either") := He.cls_ok (T.c.fact 74 (f := (.cls "Either")) rfl)
theorem Txt.m_Either_joined (T : Txt K mg) : Meth K (ga K "Either") "joined" (ma K (ga K "Either") "joined") := He.meth_ok (T.c.fact 75 (f := (.meth "Either" "joined")) rfl)
theorem Txt.m_Either_word (T : Txt K mg) : Meth K (ga K "Either") "word" (ma K (ga K "Either") "word") := He.meth_ok (T.c.fact 76 (f := (.meth "Either" "word")) rfl)
theorem Txt.m_Either_lines (T : Txt K mg) : Meth K (ga K "Either") "lines" (ma K (ga K "Either") "lines") := He.meth_ok (T.c.fact 77 (f := (.meth "Either" "lines")) rfl)
theorem Txt.m_Either_made (T : Txt K mg) : Meth K (ga K "Either") "made" (ma K (ga K "Either") "made") := He.meth_ok (T.c.fact 78 (f := (.meth "Either" "made")) rfl)
theorem Txt.c_Odd (T : Txt K mg) : Cls K (ga K "Odd") := He.cls_ok (T.c.fact 79 (f := (.cls "Odd")) rfl)
theorem Txt.m_Odd_joined (T : Txt K mg) : Meth K (ga K "Odd") "joined" (ma K (ga K "Odd") "joined") := He.meth_ok (T.c.fact 80 (f := (.meth "Odd" "joined")) rfl)
theorem Txt.m_Odd_word (T : Txt K mg) : Meth K (ga K "Odd") "word" (ma K (ga K "Odd") "word") := He.meth_ok (T.c.fact 81 (f := (.meth "Odd" "word")) rfl)
theorem Txt.m_Odd_lines (T : Txt K mg) : Meth K (ga K "Odd") "lines" (ma K (ga K "Odd") "lines") := He.meth_ok (T.c.fact 82 (f := (.meth "Odd" "lines")) rfl)
theorem Txt.m_Odd_made (T : Txt K mg) : Meth K (ga K "Odd") "made" (ma K (ga K "Odd") "made") := He.meth_ok (T.c.fact 83 (f := (.meth "Odd" "made")) rfl)
theorem Txt.c_Plus (T : Txt K mg) : Cls K (ga K "Plus") := He.cls_ok (T.c.fact 84 (f := (.cls "Plus")) rfl)
theorem Txt.m_Plus_joined (T : Txt K mg) : Meth K (ga K "Plus") "joined" (ma K (ga K "Plus") "joined") := He.meth_ok (T.c.fact 85 (f := (.meth "Plus" "joined")) rfl)
theorem Txt.m_Plus_word (T : Txt K mg) : Meth K (ga K "Plus") "word" (ma K (ga K "Plus") "word") := He.meth_ok (T.c.fact 86 (f := (.meth "Plus" "word")) rfl)
theorem Txt.m_Plus_lines (T : Txt K mg) : Meth K (ga K "Plus") "lines" (ma K (ga K "Plus") "lines") := He.meth_ok (T.c.fact 87 (f := (.meth "Plus" "lines")) rfl)
theorem Txt.m_Plus_made (T : Txt K mg) : Meth K (ga K "Plus") "made" (ma K (ga K "Plus") "made") := He.meth_ok (T.c.fact 88 (f := (.meth "Plus" "made")) rfl)
theorem Txt.c_Pick (T : Txt K mg) : Cls K (ga K "Pick") := He.cls_ok (T.c.fact 89 (f := (.cls "Pick")) rfl)
theorem Txt.m_Pick_lines (T : Txt K mg) : Meth K (ga K "Pick") "lines" (ma K (ga K "Pick") "lines") := He.meth_ok (T.c.fact 90 (f := (.meth "Pick" "lines")) rfl)
theorem Txt.m_Pick_joined (T : Txt K mg) : Meth K (ga K "Pick") "joined" (ma K (ga K "Pick") "joined") := He.meth_ok (T.c.fact 91 (f := (.meth "Pick" "joined")) rfl)
theorem Txt.m_Pick_word (T : Txt K mg) : Meth K (ga K "Pick") "word" (ma K (ga K "Pick") "word") := He.meth_ok (T.c.fact 92 (f := (.meth "Pick" "word")) rfl)
theorem Txt.m_Pick_made (T : Txt K mg) : Meth K (ga K "Pick") "made" (ma K (ga K "Pick") "made") := He.meth_ok (T.c.fact 93 (f := (.meth "Pick" "made")) rfl)
theorem Txt.c_Up (T : Txt K mg) : Cls K (ga K "Up") := He.cls_ok (T.c.fact 94 (f := (.cls "Up")) rfl)
theorem Txt.n_Up_count (T : Txt K mg) : NoAttr K (ga K "Up") "count" := He.noat_ok (T.c.fact 95 (f := (.noat "Up" "count")) rfl)
theorem Txt.mk_Up (T : Txt K mg) : Mk K (ga K "Up") (ma K (ga K "Up") "__init__") := He.mkr_ok (T.c.fact 96 (f := (.mkr "Up")) rfl)
theorem Txt.m_Up_lines (T : Txt K mg) : Meth K (ga K "Up") "lines" (ma K (ga K "Up") "lines") := He.meth_ok (T.c.fact 97 (f := (.meth "Up" "lines")) rfl)
theorem Txt.m_Up_joined (T : Txt K mg) : Meth K (ga K "Up") "joined" (ma K (ga K "Up") "joined") := He.meth_ok (T.c.fact 98 (f := (.meth "Up" "joined")) rfl)
theorem Txt.m_Up_word (T : Txt K mg) : Meth K (ga K "Up") "word" (ma K (ga K "Up") "word") := He.meth_ok (T.c.fact 99 (f := (.meth "Up" "word")) rfl)
theorem Txt.m_Up_made (T : Txt K mg) : Meth K (ga K "Up") "made" (ma K (ga K "Up") "made") := He.meth_ok (T.c.fact 100 (f := (.meth "Up" "made")) rfl)
theorem Txt.c_Down (T : Txt K mg) : Cls K (ga K "Down") := He.cls_ok (T.c.fact 101 (f := (.cls "Down")) rfl)
theorem Txt.n_Down_count (T : Txt K mg) : NoAttr K (ga K "Down") "count" := He.noat_ok (T.c.fact 102 (f := (.noat "Down" "count")) rfl)
theorem Txt.mk_Down (T : Txt K mg) : Mk K (ga K "Down") (ma K (ga K "Down") "__init__") := He.mkr_ok (T.c.fact 103 (f := (.mkr "Down")) rfl)
theorem Txt.m_Down_lines (T : Txt K mg) : Meth K (ga K "Down") "lines" (ma K (ga K "Down") "lines") := He.meth_ok (T.c.fact 104 (f := (.meth "Down" "lines")) rfl)
theorem Txt.m_Down_joined (T : Txt K mg) : Meth K (ga K "Down") "joined" (ma K (ga K "Down") "joined") := He.meth_ok (T.c.fact 105 (f := (.meth "Down" "joined")) rfl)
theorem Txt.m_Down_word (T : Txt K mg) : Meth K (ga K "Down") "word" (ma K (ga K "Down") "word") := He.meth_ok (T.c.fact 106 (f := (.meth "Down" "word")) rfl)
theorem Txt.m_Down_made (T : Txt K mg) : Meth K (ga K "Down") "made" (ma K (ga K "Down") "made") := He.meth_ok (T.c.fact 107 (f := (.meth "Down" "made")) rfl)
theorem Txt.c_Part (T : Txt K mg) : Cls K (ga K "Part") := He.cls_ok (T.c.fact 108 (f := (.cls "Part")) rfl)
theorem Txt.n_Part_called (T : Txt K mg) : NoAttr K (ga K "Part") "called" := He.noat_ok (T.c.fact 109 (f := (.noat "Part" "called")) rfl)
theorem Txt.n_Part_craft (T : Txt K mg) : NoAttr K (ga K "Part") "craft" := He.noat_ok (T.c.fact 110 (f := (.noat "Part" "craft")) rfl)
theorem Txt.n_Part_takes (T : Txt K mg) : NoAttr K (ga K "Part") "takes" := He.noat_ok (T.c.fact 111 (f := (.noat "Part" "takes")) rfl)
theorem Txt.n_Part_feeds (T : Txt K mg) : NoAttr K (ga K "Part") "feeds" := He.noat_ok (T.c.fact 112 (f := (.noat "Part" "feeds")) rfl)
theorem Txt.mk_Part (T : Txt K mg) : Mk K (ga K "Part") (ma K (ga K "Part") "__init__") := He.mkr_ok (T.c.fact 113 (f := (.mkr "Part")) rfl)
theorem Txt.m_Part_end (T : Txt K mg) : Meth K (ga K "Part") "end" (ma K (ga K "Part") "end") := He.meth_ok (T.c.fact 114 (f := (.meth "Part" "end")) rfl)
theorem Txt.c_Works (T : Txt K mg) : Cls K (ga K "Works") := He.cls_ok (T.c.fact 115 (f := (.cls "Works")) rfl)
theorem Txt.n_Works_parts (T : Txt K mg) : NoAttr K (ga K "Works") "parts" := He.noat_ok (T.c.fact 116 (f := (.noat "Works" "parts")) rfl)
theorem Txt.mk_Works (T : Txt K mg) : Mk K (ga K "Works") (ma K (ga K "Works") "__init__") := He.mkr_ok (T.c.fact 117 (f := (.mkr "Works")) rfl)
theorem Txt.m_Works_names (T : Txt K mg) : Meth K (ga K "Works") "names" (ma K (ga K "Works") "names") := He.meth_ok (T.c.fact 118 (f := (.meth "Works" "names")) rfl)
theorem Txt.m_Works_part (T : Txt K mg) : Meth K (ga K "Works") "part" (ma K (ga K "Works") "part") := He.meth_ok (T.c.fact 119 (f := (.meth "Works" "part")) rfl)
theorem Txt.m_Works_kind (T : Txt K mg) : Meth K (ga K "Works") "kind" (ma K (ga K "Works") "kind") := He.meth_ok (T.c.fact 120 (f := (.meth "Works" "kind")) rfl)
theorem Txt.m_Works_time (T : Txt K mg) : Meth K (ga K "Works") "time" (ma K (ga K "Works") "time") := He.meth_ok (T.c.fact 121 (f := (.meth "Works" "time")) rfl)
theorem Txt.m_Works_lines (T : Txt K mg) : Meth K (ga K "Works") "lines" (ma K (ga K "Works") "lines") := He.meth_ok (T.c.fact 122 (f := (.meth "Works" "lines")) rfl)
theorem Txt.m_Works_stored (T : Txt K mg) : Meth K (ga K "Works") "stored" (ma K (ga K "Works") "stored") := He.meth_ok (T.c.fact 123 (f := (.meth "Works" "stored")) rfl)
theorem Txt.mo_Kind (T : Txt K mg) : MkO K (ga K "Kind") := moB_ok (exs_at T.ex 0 (f := (moB "Kind")) rfl)
theorem Txt.mo_Source (T : Txt K mg) : MkO K (ga K "Source") := moB_ok (exs_at T.ex 1 (f := (moB "Source")) rfl)
theorem Txt.mo_Sink (T : Txt K mg) : MkO K (ga K "Sink") := moB_ok (exs_at T.ex 2 (f := (moB "Sink")) rfl)
theorem Txt.mo_Both (T : Txt K mg) : MkO K (ga K "Both") := moB_ok (exs_at T.ex 3 (f := (moB "Both")) rfl)
theorem Txt.mo_Either (T : Txt K mg) : MkO K (ga K "Either") := moB_ok (exs_at T.ex 4 (f := (moB "Either")) rfl)
theorem Txt.mo_Odd (T : Txt K mg) : MkO K (ga K "Odd") := moB_ok (exs_at T.ex 5 (f := (moB "Odd")) rfl)
theorem Txt.mo_Plus (T : Txt K mg) : MkO K (ga K "Plus") := moB_ok (exs_at T.ex 6 (f := (moB "Plus")) rfl)
theorem Txt.mo_Pick (T : Txt K mg) : MkO K (ga K "Pick") := moB_ok (exs_at T.ex 7 (f := (moB "Pick")) rfl)
theorem Txt.xf_TooMany (T : Txt K mg) : ExcF K (ga K "TooMany") := excfB_ok (exs_at T.ex 8 (f := (excfB "TooMany")) rfl)
theorem Txt.xc_TooMany (T : Txt K mg) : ExcC K (ga K "TooMany") := exccB_ok (exs_at T.ex 9 (f := (exccB "TooMany")) rfl)
theorem Txt.xm_TooMany (T : Txt K mg) : PySem.W.exmOne K (.ref (ga K "TooMany")) (.ref (ga K "WorksError")) = some true := exmB_ok (exs_at T.ex 10 (f := (exmB "TooMany" "WorksError" true)) rfl)
theorem Txt.ki_TooMany_BadRow (T : Txt K mg) : PySem.W.kitOne K (.ref (ga K "TooMany")) (.ref (ga K "BadRow")) = some false := kitB_ok (exs_at T.ex 11 (f := (kitB "TooMany" "BadRow" false)) rfl)
theorem Txt.ki_TooMany_NoPart (T : Txt K mg) : PySem.W.kitOne K (.ref (ga K "TooMany")) (.ref (ga K "NoPart")) = some false := kitB_ok (exs_at T.ex 12 (f := (kitB "TooMany" "NoPart" false)) rfl)
theorem Txt.ki_TooMany_TooMany (T : Txt K mg) : PySem.W.kitOne K (.ref (ga K "TooMany")) (.ref (ga K "TooMany")) = some true := kitB_ok (exs_at T.ex 13 (f := (kitB "TooMany" "TooMany" true)) rfl)
theorem Txt.ki_TooMany_Ring (T : Txt K mg) : PySem.W.kitOne K (.ref (ga K "TooMany")) (.ref (ga K "Ring")) = some false := kitB_ok (exs_at T.ex 14 (f := (kitB "TooMany" "Ring" false)) rfl)
theorem Txt.ki_TooMany_BadLag (T : Txt K mg) : PySem.W.kitOne K (.ref (ga K "TooMany")) (.ref (ga K "BadLag")) = some false := kitB_ok (exs_at T.ex 15 (f := (kitB "TooMany" "BadLag" false)) rfl)
theorem Txt.kv_TooMany (T : Txt K mg) : PySem.W.kitOne K (.ref (ga K "TooMany")) (.type "ValueError") = some true := kitVB_ok (exs_at T.ex 16 (f := (kitVB "TooMany")) rfl)
theorem Txt.xf_Ring (T : Txt K mg) : ExcF K (ga K "Ring") := excfB_ok (exs_at T.ex 17 (f := (excfB "Ring")) rfl)
theorem Txt.xc_Ring (T : Txt K mg) : ExcC K (ga K "Ring") := exccB_ok (exs_at T.ex 18 (f := (exccB "Ring")) rfl)
theorem Txt.xm_Ring (T : Txt K mg) : PySem.W.exmOne K (.ref (ga K "Ring")) (.ref (ga K "WorksError")) = some true := exmB_ok (exs_at T.ex 19 (f := (exmB "Ring" "WorksError" true)) rfl)
theorem Txt.ki_Ring_BadRow (T : Txt K mg) : PySem.W.kitOne K (.ref (ga K "Ring")) (.ref (ga K "BadRow")) = some false := kitB_ok (exs_at T.ex 20 (f := (kitB "Ring" "BadRow" false)) rfl)
theorem Txt.ki_Ring_NoPart (T : Txt K mg) : PySem.W.kitOne K (.ref (ga K "Ring")) (.ref (ga K "NoPart")) = some false := kitB_ok (exs_at T.ex 21 (f := (kitB "Ring" "NoPart" false)) rfl)
theorem Txt.ki_Ring_TooMany (T : Txt K mg) : PySem.W.kitOne K (.ref (ga K "Ring")) (.ref (ga K "TooMany")) = some false := kitB_ok (exs_at T.ex 22 (f := (kitB "Ring" "TooMany" false)) rfl)
theorem Txt.ki_Ring_Ring (T : Txt K mg) : PySem.W.kitOne K (.ref (ga K "Ring")) (.ref (ga K "Ring")) = some true := kitB_ok (exs_at T.ex 23 (f := (kitB "Ring" "Ring" true)) rfl)
theorem Txt.ki_Ring_BadLag (T : Txt K mg) : PySem.W.kitOne K (.ref (ga K "Ring")) (.ref (ga K "BadLag")) = some false := kitB_ok (exs_at T.ex 24 (f := (kitB "Ring" "BadLag" false)) rfl)
theorem Txt.kv_Ring (T : Txt K mg) : PySem.W.kitOne K (.ref (ga K "Ring")) (.type "ValueError") = some true := kitVB_ok (exs_at T.ex 25 (f := (kitVB "Ring")) rfl)
theorem Txt.ox_BadRow (T : Txt K mg) : OexC K (ga K "BadRow") := oexB_ok (exs_at T.ex 26 (f := (oexB "BadRow")) rfl)
theorem Txt.xc_BadRow (T : Txt K mg) : ExcC K (ga K "BadRow") := exccB_ok (exs_at T.ex 27 (f := (exccB "BadRow")) rfl)
theorem Txt.xm_BadRow (T : Txt K mg) : PySem.W.exmOne K (.ref (ga K "BadRow")) (.ref (ga K "WorksError")) = some true := exmB_ok (exs_at T.ex 28 (f := (exmB "BadRow" "WorksError" true)) rfl)
theorem Txt.ki_BadRow_BadRow (T : Txt K mg) : PySem.W.kitOne K (.ref (ga K "BadRow")) (.ref (ga K "BadRow")) = some true := kitB_ok (exs_at T.ex 29 (f := (kitB "BadRow" "BadRow" true)) rfl)
theorem Txt.ki_BadRow_NoPart (T : Txt K mg) : PySem.W.kitOne K (.ref (ga K "BadRow")) (.ref (ga K "NoPart")) = some false := kitB_ok (exs_at T.ex 30 (f := (kitB "BadRow" "NoPart" false)) rfl)
theorem Txt.ki_BadRow_TooMany (T : Txt K mg) : PySem.W.kitOne K (.ref (ga K "BadRow")) (.ref (ga K "TooMany")) = some false := kitB_ok (exs_at T.ex 31 (f := (kitB "BadRow" "TooMany" false)) rfl)
theorem Txt.ki_BadRow_Ring (T : Txt K mg) : PySem.W.kitOne K (.ref (ga K "BadRow")) (.ref (ga K "Ring")) = some false := kitB_ok (exs_at T.ex 32 (f := (kitB "BadRow" "Ring" false)) rfl)
theorem Txt.ki_BadRow_BadLag (T : Txt K mg) : PySem.W.kitOne K (.ref (ga K "BadRow")) (.ref (ga K "BadLag")) = some false := kitB_ok (exs_at T.ex 33 (f := (kitB "BadRow" "BadLag" false)) rfl)
theorem Txt.kv_BadRow (T : Txt K mg) : PySem.W.kitOne K (.ref (ga K "BadRow")) (.type "ValueError") = some true := kitVB_ok (exs_at T.ex 34 (f := (kitVB "BadRow")) rfl)
theorem Txt.xr_BadRow (T : Txt K mg) : XfC K (ga K "BadRow") := xfcB_ok (exs_at T.ex 35 (f := (xfcB "BadRow")) rfl)
theorem Txt.no_BadRow (T : Txt K mg) : PySem.W.findIn K (.ref (ga K "BadRow")) "row" = some none := noB_ok (exs_at T.ex 36 (f := (noB "BadRow" "row")) rfl)
theorem Txt.oi_BadRow (T : Txt K mg) : PySem.W.findIn K (.ref (ga K "BadRow")) "__init__" = some (some (.ref (ma K (ga K "BadRow") "__init__"))) := ownInitB_ok (exs_at T.ex 37 (f := (ownInitB "BadRow")) rfl)
theorem Txt.ot_BadRow (T : Txt K mg) : PySem.W.typeIn K (.ref (ma K (ga K "BadRow") "__init__")) = some (.type "function") := fnTyB_ok (exs_at T.ex 38 (f := (fnTyB "BadRow")) rfl)
theorem Txt.ox_NoPart (T : Txt K mg) : OexC K (ga K "NoPart") := oexB_ok (exs_at T.ex 39 (f := (oexB "NoPart")) rfl)
theorem Txt.xc_NoPart (T : Txt K mg) : ExcC K (ga K "NoPart") := exccB_ok (exs_at T.ex 40 (f := (exccB "NoPart")) rfl)
theorem Txt.xm_NoPart (T : Txt K mg) : PySem.W.exmOne K (.ref (ga K "NoPart")) (.ref (ga K "WorksError")) = some true := exmB_ok (exs_at T.ex 41 (f := (exmB "NoPart" "WorksError" true)) rfl)
theorem Txt.ki_NoPart_BadRow (T : Txt K mg) : PySem.W.kitOne K (.ref (ga K "NoPart")) (.ref (ga K "BadRow")) = some false := kitB_ok (exs_at T.ex 42 (f := (kitB "NoPart" "BadRow" false)) rfl)
theorem Txt.ki_NoPart_NoPart (T : Txt K mg) : PySem.W.kitOne K (.ref (ga K "NoPart")) (.ref (ga K "NoPart")) = some true := kitB_ok (exs_at T.ex 43 (f := (kitB "NoPart" "NoPart" true)) rfl)
theorem Txt.ki_NoPart_TooMany (T : Txt K mg) : PySem.W.kitOne K (.ref (ga K "NoPart")) (.ref (ga K "TooMany")) = some false := kitB_ok (exs_at T.ex 44 (f := (kitB "NoPart" "TooMany" false)) rfl)
theorem Txt.ki_NoPart_Ring (T : Txt K mg) : PySem.W.kitOne K (.ref (ga K "NoPart")) (.ref (ga K "Ring")) = some false := kitB_ok (exs_at T.ex 45 (f := (kitB "NoPart" "Ring" false)) rfl)
theorem Txt.ki_NoPart_BadLag (T : Txt K mg) : PySem.W.kitOne K (.ref (ga K "NoPart")) (.ref (ga K "BadLag")) = some false := kitB_ok (exs_at T.ex 46 (f := (kitB "NoPart" "BadLag" false)) rfl)
theorem Txt.kv_NoPart (T : Txt K mg) : PySem.W.kitOne K (.ref (ga K "NoPart")) (.type "ValueError") = some true := kitVB_ok (exs_at T.ex 47 (f := (kitVB "NoPart")) rfl)
theorem Txt.xr_NoPart (T : Txt K mg) : XfC K (ga K "NoPart") := xfcB_ok (exs_at T.ex 48 (f := (xfcB "NoPart")) rfl)
theorem Txt.no_NoPart (T : Txt K mg) : PySem.W.findIn K (.ref (ga K "NoPart")) "row" = some none := noB_ok (exs_at T.ex 49 (f := (noB "NoPart" "row")) rfl)
theorem Txt.oi_NoPart (T : Txt K mg) : PySem.W.findIn K (.ref (ga K "NoPart")) "__init__" = some (some (.ref (ma K (ga K "NoPart") "__init__"))) := ownInitB_ok (exs_at T.ex 50 (f := (ownInitB "NoPart")) rfl)
theorem Txt.ot_NoPart (T : Txt K mg) : PySem.W.typeIn K (.ref (ma K (ga K "NoPart") "__init__")) = some (.type "function") := fnTyB_ok (exs_at T.ex 51 (f := (fnTyB "NoPart")) rfl)
theorem Txt.ci_WorksError (T : Txt K mg) : ClsI K (ga K "WorksError") := clsIB_ok (exs_at T.ex 52 (f := (clsIB "WorksError")) rfl)
theorem Txt.F_wall (T : Txt K mg) : ∃ fd, FunD K "_wall" "_wall" (defArgs s_wall) (defBody s_wall) (defScope s_wall) [] [] (fAd K ("_wall", none)) fd := T.c.def_ 0 (d := d_wall) rfl
theorem Txt.F_BadRow_init (T : Txt K mg) : ∃ fd, FunD K "__init__" "BadRow.__init__" (defArgs s_BadRow_init) (defBody s_BadRow_init) (defScope s_BadRow_init) [] [] (fAd K ("BadRow", some "__init__")) fd := T.c.def_ 1 (d := d_BadRow_init) rfl
theorem Txt.F_NoPart_init (T : Txt K mg) : ∃ fd, FunD K "__init__" "NoPart.__init__" (defArgs s_NoPart_init) (defBody s_NoPart_init) (defScope s_NoPart_init) [] [] (fAd K ("NoPart", some "__init__")) fd := T.c.def_ 2 (d := d_NoPart_init) rfl
theorem Txt.F_Kind_lines (T : Txt K mg) : ∃ fd, FunD K "lines" "Kind.lines" (defArgs s_Kind_lines) (defBody s_Kind_lines) (defScope s_Kind_lines) [] [] (fAd K ("Kind", some "lines")) fd := T.c.def_ 3 (d := d_Kind_lines) rfl
theorem Txt.F_Kind_joined (T : Txt K mg) : ∃ fd, FunD K "joined" "Kind.joined" (defArgs s_Kind_joined) (defBody s_Kind_joined) (defScope s_Kind_joined) [] [] (fAd K ("Kind", some "joined")) fd := T.c.def_ 4 (d := d_Kind_joined) rfl
theorem Txt.F_Kind_word (T : Txt K mg) : ∃ fd, FunD K "word" "Kind.word" (defArgs s_Kind_word) (defBody s_Kind_word) (defScope s_Kind_word) [] [] (fAd K ("Kind", some "word")) fd := T.c.def_ 5 (d := d_Kind_word) rfl
theorem Txt.F_Kind_made (T : Txt K mg) : ∃ fd, FunD K "made" "Kind.made" (defArgs s_Kind_made) (defBody s_Kind_made) (defScope s_Kind_made) [] [] (fAd K ("Kind", some "made")) fd := T.c.def_ 6 (d := d_Kind_made) rfl
theorem Txt.F_Source_lines (T : Txt K mg) : ∃ fd, FunD K "lines" "Source.lines" (defArgs s_Source_lines) (defBody s_Source_lines) (defScope s_Source_lines) [] [] (fAd K ("Source", some "lines")) fd := T.c.def_ 7 (d := d_Source_lines) rfl
theorem Txt.F_Source_word (T : Txt K mg) : ∃ fd, FunD K "word" "Source.word" (defArgs s_Source_word) (defBody s_Source_word) (defScope s_Source_word) [] [] (fAd K ("Source", some "word")) fd := T.c.def_ 8 (d := d_Source_word) rfl
theorem Txt.F_Sink_lines (T : Txt K mg) : ∃ fd, FunD K "lines" "Sink.lines" (defArgs s_Sink_lines) (defBody s_Sink_lines) (defScope s_Sink_lines) [] [] (fAd K ("Sink", some "lines")) fd := T.c.def_ 9 (d := d_Sink_lines) rfl
theorem Txt.F_Sink_joined (T : Txt K mg) : ∃ fd, FunD K "joined" "Sink.joined" (defArgs s_Sink_joined) (defBody s_Sink_joined) (defScope s_Sink_joined) [] [] (fAd K ("Sink", some "joined")) fd := T.c.def_ 10 (d := d_Sink_joined) rfl
theorem Txt.F_Sink_word (T : Txt K mg) : ∃ fd, FunD K "word" "Sink.word" (defArgs s_Sink_word) (defBody s_Sink_word) (defScope s_Sink_word) [] [] (fAd K ("Sink", some "word")) fd := T.c.def_ 11 (d := d_Sink_word) rfl
theorem Txt.F_Both_joined (T : Txt K mg) : ∃ fd, FunD K "joined" "Both.joined" (defArgs s_Both_joined) (defBody s_Both_joined) (defScope s_Both_joined) [] [] (fAd K ("Both", some "joined")) fd := T.c.def_ 12 (d := d_Both_joined) rfl
theorem Txt.F_Both_word (T : Txt K mg) : ∃ fd, FunD K "word" "Both.word" (defArgs s_Both_word) (defBody s_Both_word) (defScope s_Both_word) [] [] (fAd K ("Both", some "word")) fd := T.c.def_ 13 (d := d_Both_word) rfl
theorem Txt.F_Either_joined (T : Txt K mg) : ∃ fd, FunD K "joined" "Either.joined" (defArgs s_Either_joined) (defBody s_Either_joined) (defScope s_Either_joined) [] [] (fAd K ("Either", some "joined")) fd := T.c.def_ 14 (d := d_Either_joined) rfl
theorem Txt.F_Either_word (T : Txt K mg) : ∃ fd, FunD K "word" "Either.word" (defArgs s_Either_word) (defBody s_Either_word) (defScope s_Either_word) [] [] (fAd K ("Either", some "word")) fd := T.c.def_ 15 (d := d_Either_word) rfl
theorem Txt.F_Odd_joined (T : Txt K mg) : ∃ fd, FunD K "joined" "Odd.joined" (defArgs s_Odd_joined) (defBody s_Odd_joined) (defScope s_Odd_joined) [] [] (fAd K ("Odd", some "joined")) fd := T.c.def_ 16 (d := d_Odd_joined) rfl
theorem Txt.F_Odd_word (T : Txt K mg) : ∃ fd, FunD K "word" "Odd.word" (defArgs s_Odd_word) (defBody s_Odd_word) (defScope s_Odd_word) [] [] (fAd K ("Odd", some "word")) fd := T.c.def_ 17 (d := d_Odd_word) rfl
theorem Txt.F_Plus_joined (T : Txt K mg) : ∃ fd, FunD K "joined" "Plus.joined" (defArgs s_Plus_joined) (defBody s_Plus_joined) (defScope s_Plus_joined) [] [] (fAd K ("Plus", some "joined")) fd := T.c.def_ 18 (d := d_Plus_joined) rfl
theorem Txt.F_Plus_word (T : Txt K mg) : ∃ fd, FunD K "word" "Plus.word" (defArgs s_Plus_word) (defBody s_Plus_word) (defScope s_Plus_word) [] [] (fAd K ("Plus", some "word")) fd := T.c.def_ 19 (d := d_Plus_word) rfl
theorem Txt.F_Pick_lines (T : Txt K mg) : ∃ fd, FunD K "lines" "Pick.lines" (defArgs s_Pick_lines) (defBody s_Pick_lines) (defScope s_Pick_lines) [] [] (fAd K ("Pick", some "lines")) fd := T.c.def_ 20 (d := d_Pick_lines) rfl
theorem Txt.F_Pick_joined (T : Txt K mg) : ∃ fd, FunD K "joined" "Pick.joined" (defArgs s_Pick_joined) (defBody s_Pick_joined) (defScope s_Pick_joined) [] [] (fAd K ("Pick", some "joined")) fd := T.c.def_ 21 (d := d_Pick_joined) rfl
theorem Txt.F_Pick_word (T : Txt K mg) : ∃ fd, FunD K "word" "Pick.word" (defArgs s_Pick_word) (defBody s_Pick_word) (defScope s_Pick_word) [] [] (fAd K ("Pick", some "word")) fd := T.c.def_ 22 (d := d_Pick_word) rfl
theorem Txt.F_Up_init (T : Txt K mg) : ∃ fd, FunD K "__init__" "Up.__init__" (defArgs s_Up_init) (defBody s_Up_init) (defScope s_Up_init) [] [] (fAd K ("Up", some "__init__")) fd := T.c.def_ 23 (d := d_Up_init) rfl
theorem Txt.F_Up_lines (T : Txt K mg) : ∃ fd, FunD K "lines" "Up.lines" (defArgs s_Up_lines) (defBody s_Up_lines) (defScope s_Up_lines) [] [] (fAd K ("Up", some "lines")) fd := T.c.def_ 24 (d := d_Up_lines) rfl
theorem Txt.F_Up_joined (T : Txt K mg) : ∃ fd, FunD K "joined" "Up.joined" (defArgs s_Up_joined) (defBody s_Up_joined) (defScope s_Up_joined) [] [] (fAd K ("Up", some "joined")) fd := T.c.def_ 25 (d := d_Up_joined) rfl
theorem Txt.F_Up_word (T : Txt K mg) : ∃ fd, FunD K "word" "Up.word" (defArgs s_Up_word) (defBody s_Up_word) (defScope s_Up_word) [] [] (fAd K ("Up", some "word")) fd := T.c.def_ 26 (d := d_Up_word) rfl
theorem Txt.F_Down_init (T : Txt K mg) : ∃ fd, FunD K "__init__" "Down.__init__" (defArgs s_Down_init) (defBody s_Down_init) (defScope s_Down_init) [] [] (fAd K ("Down", some "__init__")) fd := T.c.def_ 27 (d := d_Down_init) rfl
theorem Txt.F_Down_lines (T : Txt K mg) : ∃ fd, FunD K "lines" "Down.lines" (defArgs s_Down_lines) (defBody s_Down_lines) (defScope s_Down_lines) [] [] (fAd K ("Down", some "lines")) fd := T.c.def_ 28 (d := d_Down_lines) rfl
theorem Txt.F_Down_joined (T : Txt K mg) : ∃ fd, FunD K "joined" "Down.joined" (defArgs s_Down_joined) (defBody s_Down_joined) (defScope s_Down_joined) [] [] (fAd K ("Down", some "joined")) fd := T.c.def_ 29 (d := d_Down_joined) rfl
theorem Txt.F_Down_word (T : Txt K mg) : ∃ fd, FunD K "word" "Down.word" (defArgs s_Down_word) (defBody s_Down_word) (defScope s_Down_word) [] [] (fAd K ("Down", some "word")) fd := T.c.def_ 30 (d := d_Down_word) rfl
theorem Txt.F_number_in (T : Txt K mg) : ∃ fd, FunD K "number_in" "number_in" (defArgs s_number_in) (defBody s_number_in) (defScope s_number_in) [] [] (fAd K ("number_in", none)) fd := T.c.def_ 31 (d := d_number_in) rfl
theorem Txt.F_kind_by (T : Txt K mg) : ∃ fd, FunD K "kind_by" "kind_by" (defArgs s_kind_by) (defBody s_kind_by) (defScope s_kind_by) [] [] (fAd K ("kind_by", none)) fd := T.c.def_ 32 (d := d_kind_by) rfl
theorem Txt.F_Part_init (T : Txt K mg) : ∃ fd, FunD K "__init__" "Part.__init__" (defArgs s_Part_init) (defBody s_Part_init) (defScope s_Part_init) [] [] (fAd K ("Part", some "__init__")) fd := T.c.def_ 33 (d := d_Part_init) rfl
theorem Txt.F_Part_end (T : Txt K mg) : ∃ fd, FunD K "end" "Part.end" (defArgs s_Part_end) (defBody s_Part_end) (defScope s_Part_end) [] [] (fAd K ("Part", some "end")) fd := T.c.def_ 34 (d := d_Part_end) rfl
theorem Txt.F_Works_init (T : Txt K mg) : ∃ fd, FunD K "__init__" "Works.__init__" (defArgs s_Works_init) (defBody s_Works_init) (defScope s_Works_init) [] [] (fAd K ("Works", some "__init__")) fd := T.c.def_ 35 (d := d_Works_init) rfl
theorem Txt.F_Works_names (T : Txt K mg) : ∃ fd, FunD K "names" "Works.names" (defArgs s_Works_names) (defBody s_Works_names) (defScope s_Works_names) [] [] (fAd K ("Works", some "names")) fd := T.c.def_ 36 (d := d_Works_names) rfl
theorem Txt.F_Works_part (T : Txt K mg) : ∃ fd, FunD K "part" "Works.part" (defArgs s_Works_part) (defBody s_Works_part) (defScope s_Works_part) [] [] (fAd K ("Works", some "part")) fd := T.c.def_ 37 (d := d_Works_part) rfl
theorem Txt.F_Works_kind (T : Txt K mg) : ∃ fd, FunD K "kind" "Works.kind" (defArgs s_Works_kind) (defBody s_Works_kind) (defScope s_Works_kind) [] [] (fAd K ("Works", some "kind")) fd := T.c.def_ 38 (d := d_Works_kind) rfl
theorem Txt.F_Works_time (T : Txt K mg) : ∃ fd, FunD K "time" "Works.time" (defArgs s_Works_time) (defBody s_Works_time) (defScope s_Works_time) [] [] (fAd K ("Works", some "time")) fd := T.c.def_ 39 (d := d_Works_time) rfl
theorem Txt.F_Works_lines (T : Txt K mg) : ∃ fd, FunD K "lines" "Works.lines" (defArgs s_Works_lines) (defBody s_Works_lines) (defScope s_Works_lines) [] [] (fAd K ("Works", some "lines")) fd := T.c.def_ 40 (d := d_Works_lines) rfl
theorem Txt.F_Works_stored (T : Txt K mg) : ∃ fd, FunD K "stored" "Works.stored" (defArgs s_Works_stored) (defBody s_Works_stored) (defScope s_Works_stored) [] [] (fAd K ("Works", some "stored")) fd := T.c.def_ 41 (d := d_Works_stored) rfl
theorem Txt.F_good_name (T : Txt K mg) : ∃ fd, FunD K "good_name" "good_name" (defArgs s_good_name) (defBody s_good_name) (defScope s_good_name) [] [] (fAd K ("good_name", none)) fd := T.c.def_ 42 (d := d_good_name) rfl
theorem Txt.F_feed_of (T : Txt K mg) : ∃ fd, FunD K "feed_of" "feed_of" (defArgs s_feed_of) (defBody s_feed_of) (defScope s_feed_of) [] [] (fAd K ("feed_of", none)) fd := T.c.def_ 43 (d := d_feed_of) rfl
theorem Txt.F_part_of (T : Txt K mg) : ∃ fd, FunD K "part_of" "part_of" (defArgs s_part_of) (defBody s_part_of) (defScope s_part_of) [] [] (fAd K ("part_of", none)) fd := T.c.def_ 44 (d := d_part_of) rfl
theorem Txt.F_settled (T : Txt K mg) : ∃ fd, FunD K "settled" "settled" (defArgs s_settled) (defBody s_settled) (defScope s_settled) [] [] (fAd K ("settled", none)) fd := T.c.def_ 45 (d := d_settled) rfl
theorem Txt.F_read (T : Txt K mg) : ∃ fd, FunD K "read" "read" (defArgs s_read) (defBody s_read) (defScope s_read) [] [] (fAd K ("read", none)) fd := T.c.def_ 46 (d := d_read) rfl
theorem Txt.F_law_cell_at (T : Txt K mg) : ∃ fd, FunD K "_law_cell_at" "_law_cell_at" (defArgs s_law_cell_at) (defBody s_law_cell_at) (defScope s_law_cell_at) [] [] (fAd K ("_law_cell_at", none)) fd := T.c.def_ 47 (d := d_law_cell_at) rfl
theorem Txt.F_law_draw (T : Txt K mg) : ∃ fd, FunD K "_law_draw" "_law_draw" (defArgs s_law_draw) (defBody s_law_draw) (defScope s_law_draw) [] [] (fAd K ("_law_draw", none)) fd := T.c.def_ 48 (d := d_law_draw) rfl
theorem Txt.F_law_asks (T : Txt K mg) : ∃ fd, FunD K "_law_asks" "_law_asks" (defArgs s_law_asks) (defBody s_law_asks) (defScope s_law_asks) [] [] (fAd K ("_law_asks", none)) fd := T.c.def_ 49 (d := d_law_asks) rfl
theorem Txt.F_law_name (T : Txt K mg) : ∃ fd, FunD K "_law_name" "_law_name" (defArgs s_law_name) (defBody s_law_name) (defScope s_law_name) [] [] (fAd K ("_law_name", none)) fd := T.c.def_ 50 (d := d_law_name) rfl
theorem Txt.F_law_word (T : Txt K mg) : ∃ fd, FunD K "_law_word" "_law_word" (defArgs s_law_word) (defBody s_law_word) (defScope s_law_word) [] [] (fAd K ("_law_word", none)) fd := T.c.def_ 51 (d := d_law_word) rfl
theorem Txt.F_law_works (T : Txt K mg) : ∃ fd, FunD K "_law_works" "_law_works" (defArgs s_law_works) (defBody s_law_works) (defScope s_law_works) [] [] (fAd K ("_law_works", none)) fd := T.c.def_ 52 (d := d_law_works) rfl
theorem Txt.F_law_text (T : Txt K mg) : ∃ fd, FunD K "_law_text" "_law_text" (defArgs s_law_text) (defBody s_law_text) (defScope s_law_text) [] [] (fAd K ("_law_text", none)) fd := T.c.def_ 53 (d := d_law_text) rfl
theorem Txt.F_law_refused (T : Txt K mg) : ∃ fd, FunD K "_law_refused" "_law_refused" (defArgs s_law_refused) (defBody s_law_refused) (defScope s_law_refused) [] [] (fAd K ("_law_refused", none)) fd := T.c.def_ 54 (d := d_law_refused) rfl
theorem Txt.F_law_bad (T : Txt K mg) : ∃ fd, FunD K "_law_bad" "_law_bad" (defArgs s_law_bad) (defBody s_law_bad) (defScope s_law_bad) [] [] (fAd K ("_law_bad", none)) fd := T.c.def_ 55 (d := d_law_bad) rfl
theorem Txt.F_law_many (T : Txt K mg) : ∃ fd, FunD K "_law_many" "_law_many" (defArgs s_law_many) (defBody s_law_many) (defScope s_law_many) [] [] (fAd K ("_law_many", none)) fd := T.c.def_ 56 (d := d_law_many) rfl
theorem Txt.F_law_ringed (T : Txt K mg) : ∃ fd, FunD K "_law_ringed" "_law_ringed" (defArgs s_law_ringed) (defBody s_law_ringed) (defScope s_law_ringed) [] [] (fAd K ("_law_ringed", none)) fd := T.c.def_ 57 (d := d_law_ringed) rfl
theorem Txt.F_law (T : Txt K mg) : ∃ fd, FunD K "law" "law" (defArgs s_law) (defBody s_law) (defScope s_law) [] [] (fAd K ("law", none)) fd := T.c.def_ 58 (d := d_law) rfl
theorem Txt.F_Source_joined (T : Txt K mg) : ∃ fd, FunD K "joined" "Kind.joined" (defArgs s_Kind_joined) (defBody s_Kind_joined) (defScope s_Kind_joined) [] [] (fAd K ("Source", some "joined")) fd := T.c.def_ 59 (d := d_Source_joined) rfl
theorem Txt.F_Source_made (T : Txt K mg) : ∃ fd, FunD K "made" "Kind.made" (defArgs s_Kind_made) (defBody s_Kind_made) (defScope s_Kind_made) [] [] (fAd K ("Source", some "made")) fd := T.c.def_ 60 (d := d_Source_made) rfl
theorem Txt.F_Sink_made (T : Txt K mg) : ∃ fd, FunD K "made" "Kind.made" (defArgs s_Kind_made) (defBody s_Kind_made) (defScope s_Kind_made) [] [] (fAd K ("Sink", some "made")) fd := T.c.def_ 61 (d := d_Sink_made) rfl
theorem Txt.F_Both_lines (T : Txt K mg) : ∃ fd, FunD K "lines" "Kind.lines" (defArgs s_Kind_lines) (defBody s_Kind_lines) (defScope s_Kind_lines) [] [] (fAd K ("Both", some "lines")) fd := T.c.def_ 62 (d := d_Both_lines) rfl
theorem Txt.F_Both_made (T : Txt K mg) : ∃ fd, FunD K "made" "Kind.made" (defArgs s_Kind_made) (defBody s_Kind_made) (defScope s_Kind_made) [] [] (fAd K ("Both", some "made")) fd := T.c.def_ 63 (d := d_Both_made) rfl
theorem Txt.F_Either_lines (T : Txt K mg) : ∃ fd, FunD K "lines" "Kind.lines" (defArgs s_Kind_lines) (defBody s_Kind_lines) (defScope s_Kind_lines) [] [] (fAd K ("Either", some "lines")) fd := T.c.def_ 64 (d := d_Either_lines) rfl
theorem Txt.F_Either_made (T : Txt K mg) : ∃ fd, FunD K "made" "Kind.made" (defArgs s_Kind_made) (defBody s_Kind_made) (defScope s_Kind_made) [] [] (fAd K ("Either", some "made")) fd := T.c.def_ 65 (d := d_Either_made) rfl
theorem Txt.F_Odd_lines (T : Txt K mg) : ∃ fd, FunD K "lines" "Kind.lines" (defArgs s_Kind_lines) (defBody s_Kind_lines) (defScope s_Kind_lines) [] [] (fAd K ("Odd", some "lines")) fd := T.c.def_ 66 (d := d_Odd_lines) rfl
theorem Txt.F_Odd_made (T : Txt K mg) : ∃ fd, FunD K "made" "Kind.made" (defArgs s_Kind_made) (defBody s_Kind_made) (defScope s_Kind_made) [] [] (fAd K ("Odd", some "made")) fd := T.c.def_ 67 (d := d_Odd_made) rfl
theorem Txt.F_Plus_lines (T : Txt K mg) : ∃ fd, FunD K "lines" "Kind.lines" (defArgs s_Kind_lines) (defBody s_Kind_lines) (defScope s_Kind_lines) [] [] (fAd K ("Plus", some "lines")) fd := T.c.def_ 68 (d := d_Plus_lines) rfl
theorem Txt.F_Plus_made (T : Txt K mg) : ∃ fd, FunD K "made" "Kind.made" (defArgs s_Kind_made) (defBody s_Kind_made) (defScope s_Kind_made) [] [] (fAd K ("Plus", some "made")) fd := T.c.def_ 69 (d := d_Plus_made) rfl
theorem Txt.F_Pick_made (T : Txt K mg) : ∃ fd, FunD K "made" "Kind.made" (defArgs s_Kind_made) (defBody s_Kind_made) (defScope s_Kind_made) [] [] (fAd K ("Pick", some "made")) fd := T.c.def_ 70 (d := d_Pick_made) rfl
theorem Txt.F_Up_made (T : Txt K mg) : ∃ fd, FunD K "made" "Kind.made" (defArgs s_Kind_made) (defBody s_Kind_made) (defScope s_Kind_made) [] [] (fAd K ("Up", some "made")) fd := T.c.def_ 71 (d := d_Up_made) rfl
theorem Txt.F_Down_made (T : Txt K mg) : ∃ fd, FunD K "made" "Kind.made" (defArgs s_Kind_made) (defBody s_Kind_made) (defScope s_Kind_made) [] [] (fAd K ("Down", some "made")) fd := T.c.def_ 72 (d := d_Down_made) rfl
end
end SW
namespace SW
open PySem PySem.Spec PyProof.Rows L2 He
theorem run1 (w : World) (os : OsState) : (HandSHeadRun.endF (HandSHeadRun.stepQ (HandSHeadRun.denQ HandSHeadRun.tabQ) R.prog w) 8000 R.prog w os).map (fun s => (HandSHeadRun.looksF R.prog (PySem.W.boot_heap w.params) s.abs, HandSHeadRun.seenQ (PySem.W.view R.prog [42]) names (importedModules R.prog.main.body) (fun s => PySem.W.xlAt (PySem.W.view R.prog [42]) [] s && PySem.W.recOk R.toRowW.records s) s.abs)) = some (true, PySem.W.openGood (PySem.W.view R.prog [42]) names) := by
  kernel_rfl
theorem run2 (w : World) (os : OsState) : (HandSHeadRun.endF (HandSHeadRun.stepQ (HandSHeadRun.denQ HandSHeadRun.tabQ) R.prog w) 8000 R.prog w os).map ob = some (hk.val w) := by
  kernel_rfl
theorem run (w : World) : HandSHeadRun.RunEq R (PySem.W.view R.prog [42]) hk ob 8000 names w := run_join (run1 w) (run2 w)
end SW

/-! ### further rules -/
namespace SW
open PySem PySem.Spec PyProof.Rows L2 He TL
theorem hu0_of {A : Around} {k : Nat} (hr : Room k A) : A.units < cLine := Nat.lt_of_le_of_lt (Nat.le_add_right _ _) hr.units
/-- any list beside an empty one -/
def rEqEmp (K : PySem.W.Frag) : R2 := fun x y H Q => ∃ a b xs, x = .ref a ∧ y = .ref b ∧ SqL K H a xs ∧ SqL K H b [] ∧ Q (.bl xs.isEmpty) H
theorem op_eqEmp {X : Cx} (hu : X.A.units < cLine) : OpR X (compareOp .Eq) (rEqEmp X.K) := by
  intro pins s σ H x y v u Q I rx ry h
  obtain ⟨a, b, xs, rfl, rfl, ha, hb, q⟩ := h
  cases rx
  cases ry
  obtain ⟨its, rv, p, _⟩ := I.list ha
  obtain ⟨its2, rv2, p2, _⟩ := I.list hb
  cases rv2
  cases rv with
  | nil => exact SeqAt.eq_listAt (e := fun _ => true) p.isList p2.isList rfl hu (fun j h1 _ => absurd h1 (by simp)) ⟨.bl _, H, I, rfl, q⟩
  | cons r rr => exact SeqAt.eq_list_lengthsAt p.isList p2.isList (by simp) hu ⟨.bl _, H, I, rfl, q⟩
theorem eqEmpK {X : Cx} {K : PySem.W.Frag} (hu : X.A.units < cLine) (h : X.K = K := by rfl) : OpR X (compareOp .Eq) (rEqEmp K) := by subst h; exact op_eqEmp hu
/-- a short text some times -/
def repS (z : Str) (n : Nat) : Str := ⟨(List.replicate n z.cps).foldl (· ++ ·) #[]⟩
theorem rep_len (z : Str) (n : Nat) : tl (repS z n) = (List.replicate n (tl z)).flatten := by
  have key : ∀ (l : List (Array Nat)) (a : Array Nat), (l.foldl (· ++ ·) a).toList = a.toList ++ (l.map Array.toList).flatten := by
    intro l
    induction l with
    | nil => intro a; simp
    | cons x l ih => intro a; rw [List.foldl_cons, ih]; simp
  show ((List.replicate n z.cps).foldl (· ++ ·) #[]).toList = _
  rw [key, List.map_replicate]
  rfl
theorem op_mul_str {X : Cx} : OpR X (binaryOp .Mult) (fun x y H Q => ∃ (z : Str) (n : Nat), x = .str z ∧ y = .int (n : Int) ∧ z.length ≤ 100 ∧ n ≤ 100 ∧ Q (.str (repS z n)) H) := by
  intro pins s σ H x y v u Q I rx ry h
  obtain ⟨z, n, rfl, rfl, hz, hn, q⟩ := h
  obtain ⟨t, rfl⟩ := rx
  obtain ⟨t', rfl⟩ := ry
  have hprod : z.length * n ≤ 100 * 100 := Nat.mul_le_mul hz hn
  refine PySem.P.mul_str ?_ (fun h1 h2 => ?_) (fun h1 h2 => ?_) ?_
  · have h1 : ¬ (n : Int) < -(2 ^ 63 : Int) := by omega
    have h2 : ¬ (n : Int) ≥ 2 ^ 63 := by omega
    rw [decide_eq_false h1, decide_eq_false h2]; rfl
  · have hn1 : 0 < (n : Int) := by omega
    have h3 : (z.length : Int) ≤ (2 ^ 63 - 1) / (n : Int) := (Int.le_ediv_iff_mul_le hn1).mpr (by
      rw [← Int.natCast_mul]
      omega)
    omega
  · have h4 : (n : Int).toNat = n := rfl
    rw [h4]
    exact decide_eq_false (by have : (10000 : Nat) ≤ sizeLine := by decide
                              omega)
  · have ez : ∀ w : Str, tl w = tl (repS z n) → Q (.str w) H := fun w e => by rw [ext_tl e]; exact q
    by_cases h1 : (n : Int) < 1
    · rw [if_pos h1]
      have h0 : n = 0 := by omega
      subst h0
      exact ⟨by decide, .str Str.empty, H, I.tok _, ⟨_, rfl⟩, q⟩
    · rw [if_neg h1]
      cases h2 : ((n : Int) == 1 || z.length == 0) with
      | true =>
        rw [if_pos rfl]
        refine ⟨.str z, H, I, ⟨_, rfl⟩, ez z ?_⟩
        rw [rep_len]
        rcases (Bool.or_eq_true _ _).mp h2 with h | h
        · have h0 : n = 1 := by have := eq_of_beq h; omega
          subst h0
          simp
        · have h0 : tl z = [] := List.eq_nil_of_length_eq_zero (by rw [← len_tl]; exact eq_of_beq h)
          rw [h0]
          simp
      | false =>
        rw [if_neg (by simp)]
        have el : (repS z n).length ≤ sizeLine := by
          rw [len_tl, rep_len]
          simp only [List.length_flatten, List.map_replicate, List.sum_replicate_nat]
          rw [← len_tl, Nat.mul_comm]
          exact Nat.le_trans hprod (by decide)
        exact ⟨el, .str (repS z n), H, I.tok _, ⟨_, rfl⟩, q⟩
/-- a def with defaults; ds: what stands behind the given arguments -/
structure OkD (P : Program) (w : World) (K : PySem.W.Frag) (mg : Str → Option Value) (base : Heap) (k : Nat) (f : Addr) (ps : List Str) (sp : Sp) (ds : List V) : Prop where
  ex : ∃ (fd : FuncData) (us : List Value), FnOk P w K mg base CX0 k f fd ps sp ∧ Vals ds us ∧ Binds K fd ps us
  kp : PySem.W.keepIn K (.ref f) = true
section
variable {P : Program} {w : World} {K : PySem.W.Frag} {mg : Str → Option Value} {base : Heap} {k : Nat} {f : Addr} {ps N : List Str} {sp sp' : Sp} {x qual : Str} {params : Arguments} {body : List Stmt} {scope : Scope} {dvs ds : List V}
theorem mkOkD (F : ∃ fd, FunD K x qual params body scope dvs [] f fd) (S : FnScope N ps scope) (n j : Nat) (hd : dvs ≠ []) (hn : n + (dvs.length - j) = ps.length)
    (hb : ∀ (T : Addr) (kV doc pm : Value) (an : Option Addr) (cdv ct : Value) (us its : List Value), us.length = n → its.length = dvs.length →
      ∃ k, bindArgs (PySem.W.fnOf x qual params body scope (.ref T) kV doc pm an cdv ct) ⟨us, []⟩ = seqItems? (.ref T) >>= k ∧ k (some its.toArray) = pure (ps.zip (us ++ its.drop j)))
    (len : ∀ vs H Q E, sp vs H Q E → vs.length = ps.length)
    (hbody : ∀ (cdv : Value) (A : Around) (outer : List Env) (s : Shared) (H : Hp) (vs : List V) (Q : VK) (E : XK), Room k (A.deeper (envOfC qual scope s.heap.objs.size f cdv)) → sp vs H Q E →
      ∃ t, PSs (cxOf CX0 P w K mg base N qual scope f cdv A outer s H E).nox body t ∧ t { nx := fun _ H' => Q .non H', rt := Q } (start N vs) H) : OkD P w K mg base (k + 1) f ps sp (dvs.drop j) := by
  obtain ⟨fd, F⟩ := F
  obtain ⟨us, h1, h2⟩ := F.binds1 n j hd hn hb
  refine ⟨⟨fd, us, F.ok S len fun cdv A outer s H vs Q E hr h => ?_, h1, h2⟩, F.kp⟩
  obtain ⟨t, ht, q⟩ := hbody cdv A outer s H vs Q E hr h
  exact ⟨t, ht.nox, q⟩
end
theorem pe_callD {X : Cx} {k : Nat} {f : Addr} {ps : List Str} {sp : Sp} {x : Str} {p pos : Pos} {e : Expr} {es : List Expr} {t : TA} {ds : List V} (G : OkD X.prog X.w X.K X.mg X.base k f ps sp ds) (hr : Room k X.A) (hm : X.mg x = some (.ref f)) (ha : PA X (e :: es) t) (hg : Gl X x := by rfl)
    (hdb : (x == ("__debug__" : Str)) = false := by decide) (he : starEach (e :: es) X.env = (false, eval e X.env) :: starEach es X.env := by rfl) (hpl : (backTo pos (starEach es X.env)).any (·.1) = false := by rfl) :
    PE X (.Call (.Name x p) (e :: es) [] pos) (tCall sp ds E0 t) := by
  obtain ⟨⟨fd, us, F, v, b⟩, kp⟩ := G
  exact pe_call F hr hg hm kp b v pass0 ha hdb he hpl
theorem kitTy {K : PySem.W.Frag} {T : String} : PySem.W.kitOne K (.type T) (.type T) = some true := if_pos (beq_self_eq_true _)
theorem kitIB {K : PySem.W.Frag} : PySem.W.kitOne K (.type "int") (.type "bool") = some false := by rfl
end SW


/-! ### list != [] -/
namespace SW
open PySem PySem.Spec PyProof.Rows L2 He TL
def rNeEmp (K : PySem.W.Frag) : R2 := fun x y H Q => ∃ a b xs, x = .ref a ∧ y = .ref b ∧ SqL K H a xs ∧ SqL K H b [] ∧ Q (.bl (!xs.isEmpty)) H
theorem op_neEmp {X : Cx} (hu : X.A.units < cLine) : OpR X (compareOp .NotEq) (rNeEmp X.K) := by
  intro pins s σ H x y v u Q I rx ry h
  obtain ⟨a, b, xs, rfl, rfl, ha, hb, q⟩ := h
  cases rx
  cases ry
  obtain ⟨its, rv, p, _⟩ := I.list ha
  obtain ⟨its2, rv2, p2, _⟩ := I.list hb
  cases rv2
  cases rv with
  | nil => exact SeqAt.RcNeAt.lists (e := fun _ => true) p.isList p2.isList rfl hu (fun j h1 _ => absurd h1 (by simp)) _ _ _ _ ⟨.bl _, H, I, rfl, q⟩
  | cons r rr => exact SeqAt.RcNeAt.lists_lengths p.isList p2.isList (by simp) hu _ _ _ _ ⟨.bl _, H, I, rfl, q⟩
theorem neEmpK {X : Cx} {K : PySem.W.Frag} (hu : X.A.units < cLine) (h : X.K = K := by rfl) : OpR X (compareOp .NotEq) (rNeEmp K) := by subst h; exact op_neEmp hu
end SW


/-! ### dicts that are equal, by != -/
namespace PySem.W
open PySem PySem.Calls PyProof.Rows PyProof.V PySem.Spec
section
variable {prog : Program} {w : World} {K : Type} [DecidableEq K] {knd : KeyKind prog w K} {A : Around} {E : Value → Shared → Prop} {s : Shared}
theorem rcNe_dicts {a b : Addr} {ka kb : List (K × Value)} {r : Bool} (ha : (a == sysModules) = false) (hb : (b == sysModules) = false)
    (da : s.heap.DictOf knd a ka) (db : s.heap.DictOf knd b kb) (hu : A.units < cLine) (hits : ka.length = kb.length → KeqHitsP prog w A.in1 s kb ka r) (E Q : Value → Shared → Prop) (h : Q (.bool (!(ka.length == kb.length && r))) s) : wpAny (model prog w) A (richCompare .NotEq (.ref a) (.ref b)) Q E s := by
  refine wpAny_richCompare_same_room (op := .NotEq) da.typeIs db.typeIs PySem.F.slot_dict_ne (wpAny_call_entry PySem.F.slot_dict_ne da.typeIs PySem.F.entry_dict_ne ?_ (PySem.F.args_dict_ne_2 _ _)) hu
  show wpAny _ _ (Builtin.Dict.dictSlotArgs "__ne__" ⟨[.ref a, .ref b], []⟩ >>= _) _ _ s
  refine wpAny_bind ?_
  unfold Builtin.Dict.dictSlotArgs
  refine wpAny_bind (wpAny_notOrdered_dict da.typeIs ?_)
  show wpAny _ _ (pure (Value.ref a, Value.ref b)) _ _ s
  refine wpAny_pure ?_
  refine wpAny_bind (wpAny_isInstance (T := "dict") db.typeIs PySem.F.sub_dict_dict ?_)
  simp only [Bool.not_true, Bool.false_eq_true, if_false]
  refine wpAny_bind (wpAny_pure (wpAny_bind (wpAny_pure ?_)))
  refine wpAny_bind (samePairsP ha hb da db hits ?_)
  refine wpAny_pure ⟨_, rfl, ?_, ?_⟩
  · exact fun x => nomatch x
  · cases e : (ka.length == kb.length && r) <;> rw [e] at h <;> exact h
end
end PySem.W
namespace SW
open PySem PySem.Spec PyProof.Rows L2 He TL
def rNeDict (K : PySem.W.Frag) : R2 := fun x y H Q => ∃ n a b ks ls, n ≤ 60 ∧ x = .ref a ∧ y = .ref b ∧ H a = some (.dK ks) ∧ H b = some (.dK ls) ∧ ks.length = ls.length ∧ (∀ p ∈ ks, ∃ u, valV ls p.1 = some u ∧ EqV K H n p.2 u) ∧ Q (.bl false) H
theorem op_neDict {X : Cx} (hu : X.A.units + 64 < cLine) : OpR X (compareOp .NotEq) (rNeDict X.K) := by
  intro pins s σ H x y v u Q I rx ry h
  obtain ⟨n, a, b, ks, ls, hn, rfl, rfl, ha, hb, hl, hp, q⟩ := h
  cases (show v = Value.ref a from rx)
  cases (show u = Value.ref b from ry)
  obtain ⟨_, ya, va, ra, da⟩ := (show ObjOk X.prog X.w H s.heap a (.dK ks) from I.hok a _ ha)
  obtain ⟨_, yb, vb, rb, db⟩ := (show ObjOk X.prog X.w H s.heap b (.dK ls) from I.hok b _ hb)
  refine PySem.W.rcNe_dicts (knd := mixKind X.prog X.w) (r := true) ya yb da db (by omega) (fun _ => hits_run (eqV_run I n X.A.in1 (by show X.A.units + 1 + n < cLine; omega)) rb ra hp) _ _ ?_
  have e : va.length = vb.length := by rw [← ra.length, ← rb.length]; exact hl
  rw [show (!(va.length == vb.length && true)) = false from by rw [e]; simp]
  exact ⟨.bl false, H, I, rfl, q⟩
theorem neDictK {X : Cx} {K : PySem.W.Frag} (hu : X.A.units + 64 < cLine) (h : X.K = K := by rfl) : OpR X (compareOp .NotEq) (rNeDict K) := by subst h; exact op_neDict hu
theorem eqVK {X : Cx} {K : PySem.W.Frag} (hu : X.A.units + 64 < cLine) (h : X.K = K := by rfl) : OpR X (compareOp .Eq) (rEqV K) := by subst h; exact op_eqV hu
/-- lists of ints that are equal -/
theorem eqv_ints {K : PySem.W.Frag} {H : Hp} {a b : Addr} {xs : List Int} (ha : H a = some (.lst (xs.map V.int))) (hb : H b = some (.lst (xs.map V.int))) (n : Nat) : EqV K H (n + 2) (.ref a) (.ref b) := by
  refine .inr (.inr (.inl ⟨a, b, _, _, rfl, rfl, SqL.of ha, SqL.of hb, ?_⟩))
  clear ha hb
  induction xs with
  | nil => exact .nil
  | cons x xs ih => exact .cons (.inl ⟨rfl, rfl⟩) ih
end SW


/-! ### max(xs, default=d), min(xs, default=d) of a list of ints -/
namespace SW
open PySem PySem.Spec PyProof.Rows L2 He TL
def rMaxDf (K : PySem.W.Frag) : List V → List V → Hp → VK → Prop := fun vs zs H Q => ∃ (a : Addr) (ns : List Int) (d : V), vs = [V.ref a] ∧ zs = [d] ∧ SqL K H a (ns.map V.int) ∧ (ns = [] → Q d H) ∧ ∀ m, m ∈ ns → (∀ y, y ∈ ns → y ≤ m) → Q (.int m) H
def rMinDf (K : PySem.W.Frag) : List V → List V → Hp → VK → Prop := fun vs zs H Q => ∃ (a : Addr) (ns : List Int) (d : V), vs = [V.ref a] ∧ zs = [d] ∧ SqL K H a (ns.map V.int) ∧ (ns = [] → Q d H) ∧ ∀ m, m ∈ ns → (∀ y, y ∈ ns → m ≤ y) → Q (.int m) H
theorem reads_ints {h : Heap} : ∀ {ns : List Int} {us : List Value}, Vals (ns.map V.int) us → ∃ as, ReadsAll h us (ns.map PyData.int) as
  | [], _, r => by
    cases r
    exact ⟨_, .nil⟩
  | n :: ns, _, r => by
    rw [List.map_cons] at r
    cases r with
    | cons a b =>
      obtain ⟨t, rfl⟩ := a
      obtain ⟨as, h2⟩ := reads_ints b
      exact ⟨_, .cons (.int _ _) h2⟩
theorem alike_ints (ns : List Int) : PySem.W.AlikeAll (ns.map PyData.int) := by
  refine ⟨fun x hx y hy => ?_, fun x hx => ?_⟩
  · obtain ⟨i, _, rfl⟩ := List.mem_map.mp hx
    obtain ⟨j, _, rfl⟩ := List.mem_map.mp hy
    rfl
  · obtain ⟨i, _, rfl⟩ := List.mem_map.mp hx
    exact fun z => by cases z
theorem depth_ints : ∀ ns : List Int, PyData.depthAll (ns.map PyData.int) = 0
  | [] => rfl
  | n :: ns => by
    show max 0 (PyData.depthAll (ns.map PyData.int)) = 0
    rw [depth_ints ns] <;> rfl
theorem foldMax : ∀ (ns : List Int) (n : Int), ns.foldl max n ∈ n :: ns ∧ ∀ y ∈ n :: ns, y ≤ ns.foldl max n
  | [], n => ⟨List.mem_cons_self .., fun y hy => by rw [List.mem_singleton.mp hy]; exact Int.le_refl _⟩
  | m :: ns, n => by
    obtain ⟨h1, h2⟩ := foldMax ns (max n m)
    rw [List.foldl_cons]
    refine ⟨?_, fun y hy => ?_⟩
    · rcases List.mem_cons.mp h1 with h | h
      · rw [h]
        rcases Int.le_total n m with e | e
        · rw [Int.max_eq_right e]
          exact List.mem_cons_of_mem _ (List.mem_cons_self ..)
        · rw [Int.max_eq_left e]
          exact List.mem_cons_self ..
      · exact List.mem_cons_of_mem _ (List.mem_cons_of_mem _ h)
    · have h3 := h2 (max n m) (List.mem_cons_self ..)
      rcases List.mem_cons.mp hy with h | h
      · rw [h]
        omega
      · rcases List.mem_cons.mp h with h | h
        · rw [h]
          omega
        · exact h2 y (List.mem_cons_of_mem _ h)
theorem foldMin : ∀ (ns : List Int) (n : Int), ns.foldl min n ∈ n :: ns ∧ ∀ y ∈ n :: ns, ns.foldl min n ≤ y
  | [], n => ⟨List.mem_cons_self .., fun y hy => by rw [List.mem_singleton.mp hy]; exact Int.le_refl _⟩
  | m :: ns, n => by
    obtain ⟨h1, h2⟩ := foldMin ns (min n m)
    rw [List.foldl_cons]
    refine ⟨?_, fun y hy => ?_⟩
    · rcases List.mem_cons.mp h1 with h | h
      · rw [h]
        rcases Int.le_total n m with e | e
        · rw [Int.min_eq_left e]
          exact List.mem_cons_self ..
        · rw [Int.min_eq_right e]
          exact List.mem_cons_of_mem _ (List.mem_cons_self ..)
      · exact List.mem_cons_of_mem _ (List.mem_cons_of_mem _ h)
    · have h3 := h2 (min n m) (List.mem_cons_self ..)
      rcases List.mem_cons.mp hy with h | h
      · rw [h]
        omega
      · rcases List.mem_cons.mp h with h | h
        · rw [h]
          omega
        · exact h2 y (List.mem_cons_of_mem _ h)
theorem map_cons_inv {ns : List Int} {y : PyData} {ys : List PyData} (e : ns.map PyData.int = y :: ys) : ∃ n r, ns = n :: r ∧ y = .int n ∧ ys = r.map PyData.int := by
  cases ns with
  | nil => cases e
  | cons n r =>
    rw [List.map_cons] at e
    injection e with e1 e2
    exact ⟨n, r, rfl, e1.symm, e2.symm⟩
section
variable {X : Cx}
theorem cr_maxDf (hc : X.calm = true) (hu : X.A.units + 1 < cLine) : CallRK X (.builtin "max") [Str.ofString "default"] (rMaxDf X.K) := by
  intro pins s σ H vs zs us ws Q I r rz h
  obtain ⟨a, ns, d, rfl, rfl, hs, h0, h1⟩ := h
  obtain rfl := Vals.ref1 r
  obtain ⟨dv, rfl, rd⟩ := vals1 rz
  obtain ⟨its, rv, hl, _⟩ := I.list hs
  obtain ⟨as, hr⟩ := reads_ints (h := s.heap) rv
  refine PySem.W.max_list_default (I.ok.hd hc) hl.isList (xs := ns.map PyData.int) (by simpa using hr) (alike_ints ns) (by rw [depth_ints]; exact hu) (fun e h' tk hk => ?_) fun y ys i v h' tk bs e hv hrd hk => ?_
  · have : ns = [] := List.map_eq_nil_iff.mp e
    exact ⟨d, H, I.kept hk, rd, h0 this⟩
  · obtain ⟨n, rs, rfl, rfl, rfl⟩ := map_cons_inv e
    rw [PySem.W.maxD_ints] at hrd
    cases hrd
    obtain ⟨m1, m2⟩ := foldMax rs n
    exact ⟨.int _, H, I.kept hk, ⟨_, rfl⟩, h1 _ m1 m2⟩
theorem cr_minDf (hc : X.calm = true) (hu : X.A.units + 1 < cLine) : CallRK X (.builtin "min") [Str.ofString "default"] (rMinDf X.K) := by
  intro pins s σ H vs zs us ws Q I r rz h
  obtain ⟨a, ns, d, rfl, rfl, hs, h0, h1⟩ := h
  obtain rfl := Vals.ref1 r
  obtain ⟨dv, rfl, rd⟩ := vals1 rz
  obtain ⟨its, rv, hl, _⟩ := I.list hs
  obtain ⟨as, hr⟩ := reads_ints (h := s.heap) rv
  refine PySem.W.min_list_default (I.ok.hd hc) hl.isList (xs := ns.map PyData.int) (by simpa using hr) (alike_ints ns) (by rw [depth_ints]; exact hu) (fun e h' tk hk => ?_) fun y ys i v h' tk bs e hv hrd hk => ?_
  · have : ns = [] := List.map_eq_nil_iff.mp e
    exact ⟨d, H, I.kept hk, rd, h0 this⟩
  · obtain ⟨n, rs, rfl, rfl, rfl⟩ := map_cons_inv e
    rw [PySem.W.minD_ints] at hrd
    cases hrd
    obtain ⟨m1, m2⟩ := foldMin rs n
    exact ⟨.int _, H, I.kept hk, ⟨_, rfl⟩, h1 _ m1 m2⟩
theorem maxDfK {K : PySem.W.Frag} (hc : X.calm = true) (hu : X.A.units + 1 < cLine) (h : X.K = K := by rfl) : CallRK X (.builtin "max") [Str.ofString "default"] (rMaxDf K) := by subst h; exact cr_maxDf hc hu
theorem minDfK {K : PySem.W.Frag} (hc : X.calm = true) (hu : X.A.units + 1 < cLine) (h : X.K = K := by rfl) : CallRK X (.builtin "min") [Str.ofString "default"] (rMinDf K) := by subst h; exact cr_minDf hc hu
theorem sortedSK {K : PySem.W.Frag} (h : X.K = K := by rfl) : CallR X (.builtin "sorted") (rSortedS K) := by subst h; exact cr_sortedS
theorem sortedDK {K : PySem.W.Frag} (hc : X.calm = true) (_ : X.K = K := by rfl) : CallR X (.builtin "sorted") (fun xs H Q => ∃ (a : Addr) (kvs : List (Key × V)) (ks : List Str), xs = [.ref a] ∧ Rd H a (.dK kvs) ∧ kvs.map (·.1) = ks.map Sum.inr ∧ ks.length < 64 ∧
    ∀ ys p, ys.Perm ks → PyProof.Rows.sortedS ys = true → H p = none → Q (.ref p) (upd H p (.lst (ys.map V.str)))) := call_sortedD hc
end
end SW


/-! ### sorted(d) of a dict whose keys are pairs of texts; sorted(set(xs)) of ints -/
namespace SW
open PySem PySem.Spec PySem.Calls PyProof.Rows L2 He TL
section
variable {prog : Program} {w : World} {A : Around} {E : Value → Shared → Prop} {s : Shared}
/-- a tuple of two texts -/
def TwoS (h : Heap) (v : Value) (x y : Str) : Prop := ∃ a o t u n, v = .ref a ∧ h.get? a = some o ∧ o.cls = .type "tuple" ∧ o.data = .seq #[.str x t, .str y u] n
theorem TwoS.keeps {h h' : Heap} {v : Value} {x y : Str} (p : TwoS h v x y) (k : ∀ b o, h.get? b = some o → o.cls = .type "tuple" → h'.get? b = some o) : TwoS h' v x y := by
  obtain ⟨a, o, t, u, n, e1, e2, e3, e4⟩ := p
  exact ⟨a, o, t, u, n, e1, k _ _ e2 e3, e3, e4⟩
def ltS (x y : Str) : Bool := decide (x.cps.toList < y.cps.toList)
theorem twoS_tot {vs : List Value} (hp : ∀ v ∈ vs, ∃ x y, TwoS s.heap v x y) : Srt.Tot prog w A s (tuples' true) (fun p => p.1 ∈ vs) := by
  intro p q hm1 hm2
  obtain ⟨x, y, a, o, t, u, n, e1, e2, e3, e4⟩ := hp _ hm1
  obtain ⟨x2, y2, a2, o2, t2, u2, n2, f1, f2, f3, f4⟩ := hp _ hm2
  rw [e1, f1]
  obtain ⟨ans, hans⟩ : ∃ ans : Bool, ans = if (x == x2) = true then (if (y == y2) = true then false else ltS y y2) else ltS x x2 := ⟨_, rfl⟩
  refine ⟨ans, PySem.W.kat_lt e2 e4 f2 f4 ?_⟩
  show PySem.W.KatLex prog w A true (decide (2 < 2)) _ [(.str x t, .str x2 t2), (.str y u, .str y2 u2)] 0 s
  refine PySem.W.kat_cons (SeqAt.EqAt.str_str x t x2 t2 prog w _ _ ?_)
  refine PySem.W.kat_go (fun c1 => ?_) (fun c1 => ?_)
  · rw [if_pos c1] at hans
    refine PySem.W.kat_yes (PySem.W.kat_cons (SeqAt.EqAt.str_str y u y2 u2 prog w _ _ ?_))
    refine PySem.W.kat_go (fun c2 => ?_) (fun c2 => ?_)
    · rw [if_pos c2] at hans
      exact PySem.W.kat_yes (PySem.W.kat_nil ⟨rfl, hans.symm⟩)
    · rw [if_neg (by rw [c2]; simp)] at hans
      refine PySem.W.kat_no (PySem.W.kat_one _ _ (PyProof.Rows.lt_str ?_))
      exact (show s = s ∧ ltS y y2 = ans from ⟨rfl, hans.symm⟩)
  · rw [if_neg (by rw [c1]; simp)] at hans
    exact PySem.W.kat_no (oneLt_str ⟨rfl, hans.symm⟩)
theorem twoS_firsts {h : Heap} : ∀ {vs : List Value}, (∀ v ∈ vs, ∃ x y, TwoS h v x y) → ∃ fs : List Value, PySem.W.KatTups h vs fs ∧ fs.length = vs.length ∧ ∀ f ∈ fs, ∃ x t, f = Value.str x t
  | [], _ => ⟨[], PySem.W.KatTups.nil, rfl, fun _ hm => by simp at hm⟩
  | v :: vs, hp => by
    obtain ⟨fs, h1, h2, h3⟩ := twoS_firsts (vs := vs) fun z hz => hp z (List.mem_cons_of_mem _ hz)
    obtain ⟨x, y, a, o, t, u, n, e1, e2, e3, e4⟩ := hp v (List.mem_cons_self ..)
    subst e1
    refine ⟨.str x t :: fs, PySem.W.KatTups.cons e2 e3 e4 rfl h1, congrArg Nat.succ h2, fun f hf => ?_⟩
    rcases List.mem_cons.mp hf with z | z
    · exact ⟨x, t, z⟩
    · exact h3 f z
theorem twoS_sortable {a : Addr} {vs : List Value} (h0 : 0 < vs.length) (hp : ∀ v ∈ vs, ∃ x y, TwoS s.heap v x y) (ha : ∀ o, s.heap.get? a = some o → o.cls ≠ .type "tuple") : Srt.Sortable prog w A s a vs := by
  intro h' keep
  have hq : ∀ v ∈ vs, ∃ x y, TwoS h' v x y := fun v hm => by
    obtain ⟨x, y, p⟩ := hp v hm
    exact ⟨x, y, p.keeps fun b o e c => keep b o (fun z => by subst z; exact ha o e c) e⟩
  obtain ⟨fs, h1, h2, h3⟩ := twoS_firsts hq
  refine ⟨tuples' true, fun Q E hh => ?_, twoS_tot hq⟩
  refine PySem.W.kat_kind (T := .type "str") h1 (by omega) (fun f hf => ?_) (by rfl) ?_
  · obtain ⟨x, t, rfl⟩ := h3 f hf
    exact PySem.W.Looks.now
  · rw [show (Value.type "str" != Value.type "tuple") = true by decide +kernel]
    exact hh
end
theorem perm_refs {bs : List Addr} {out : List Value} (h : out.Perm (bs.map Value.ref)) : ∃ cs : List Addr, cs.Perm bs ∧ out = cs.map Value.ref := by
  obtain ⟨f, hf⟩ : ∃ f : Value → Addr, ∀ b, f (.ref b) = b := ⟨fun v => match v with | .ref b => b | _ => 0, fun _ => rfl⟩
  have h1 := h.map f
  rw [List.map_map, show (f ∘ Value.ref) = id from funext hf, List.map_id] at h1
  refine ⟨out.map f, h1, ?_⟩
  rw [List.map_map]
  refine (List.map_id out).symm.trans (List.map_congr_left fun v hv => ?_)
  obtain ⟨b, _, rfl⟩ := List.mem_map.mp (h.subset hv)
  show _ = Value.ref (f (.ref b))
  rw [hf] <;> rfl
section
variable {X : Cx}
/-- sorted(d), the keys pairs of texts -/
theorem pairedAt {α β : Type} {F : α → β → Prop} {l1 : List α} {l2 : List β} (h : Paired F l1 l2) : ∀ {j : Nat} {x : β}, l2[j]? = some x → ∃ y, l1[j]? = some y ∧ F y x := by
  induction h with
  | nil => intro j x e; cases e
  | cons a _ ih =>
    intro j x e
    cases j with
    | zero => cases e; exact ⟨_, rfl, a⟩
    | succ j => exact ih (by simpa using e)
def rSortedTT : List V → Hp → VK → Prop := fun xs H Q => ∃ d kvs, xs = [V.ref d] ∧ Rd H d (.dT kvs) ∧ (∀ kv ∈ kvs, ∃ x y : Str, kv.1 = [Sum.inr x, Sum.inr y]) ∧
  ∀ (p : Addr) (bs cs : List Addr), H p = none → IsKeys H kvs bs → cs.Perm bs → Q (.ref p) (upd H p (.lst (cs.map V.ref)))
theorem cr_sortedTT (hc : X.calm = true) : CallR X (.builtin "sorted") rSortedTT := by
  intro pins s σ H xs us Q I r h
  obtain ⟨d, kvs, rfl, hd, htt, q⟩ := h
  obtain ⟨u, rfl, rx⟩ := r.one
  cases rx
  obtain ⟨z, hs, ks, pr, o, es, ep, ho, hx, hdt, he, hn⟩ := (show ObjOk X.prog X.w H s.heap d (.dT kvs) from hd.ok I.hok)
  have l1 : es.size = ks.length := size_of_entries he
  have l2 : kvs.length = ks.length := Paired.length pr
  refine Calls.call_function_entry PyProof.Rows.kind_sorted PyProof.Rows.plain_sorted PyProof.Rows.entry_sorted (PyProof.Rows.args_sorted1 _) ?_
  unfold Builtin.«sorted»
  refine wpAny_bind (m := checkCount "sorted" 1 1 _) (wpAny_pure ?_)
  refine wpAny_bind (PySem.W.kdu_collect (A := X.A.in1) (kdl_raw hs hx hdt) (I.ok.hd hc) ho (by omega) fun h' tk acc hk it => ?_)
  have ea : acc.toList = (ks.map fun x => x.2.1).map Value.ref := by
    have hl : acc.toList.length = ks.length := by rw [Array.length_toList, it.1]; exact l1
    refine List.ext_getElem? fun j => ?_
    rw [List.map_map, List.getElem?_map]
    cases hj : acc.toList[j]? with
    | none =>
      have h1 := List.getElem?_eq_none_iff.mp hj
      rw [List.getElem?_eq_none (show ks.length ≤ j by omega)] <;> rfl
    | some v =>
      obtain ⟨en, hen, hv⟩ := it.2 j v (by rw [← Array.getElem?_toList]; exact hj)
      have qe := entry_at he j
      rw [hen] at qe
      cases hb : ks[j]? with
      | none => rw [hb] at qe; cases qe
      | some b =>
        rw [hb] at qe
        have e2 := Option.some.inj qe
        rw [hv, e2] <;> rfl
  have I1 : Inv X pins σ H { s with heap := h', toks := tk } := I.kept hk
  have hlen : acc.toList.length ≤ sizeLine := by rw [ea, List.length_map, List.length_map]; omega
  refine wpAny_bind (wpAny_newList ?_ hlen)
  have hoL : (h'.push (seqObj "list" acc.toList.toArray 0)).get? h'.objs.size = some (seqObj "list" acc.toList.toArray 0) := Heap.get?_push_size _ rfl
  have two : ∀ v ∈ acc.toList, ∃ x y, TwoS (h'.push (seqObj "list" acc.toList.toArray 0)) v x y := fun v hv => by
    rw [ea] at hv
    obtain ⟨b, hb, rfl⟩ := List.mem_map.mp hv
    obtain ⟨j, hj⟩ := List.mem_iff_getElem?.mp hb
    obtain ⟨kv, hkv, hbt⟩ := pairedAt (isKeys_of pr) hj
    obtain ⟨x, y, exy⟩ := htt kv (List.mem_of_getElem? hkv)
    rw [exy] at hbt
    obtain ⟨_, its, rv, hit⟩ := (show ObjOk X.prog X.w H h' b (.tup [.str x, .str y]) from I1.hok b _ hbt)
    cases rv with
    | cons r1 r2 =>
      cases r2 with
      | cons r2 r3 =>
        cases r3
        obtain ⟨t1, rfl⟩ := r1
        obtain ⟨t2, rfl⟩ := r2
        obtain ⟨o2, ho2, hc2, n2, hd2⟩ := hit
        exact ⟨x, y, b, o2, t1, t2, _, rfl, Heap.get?_push_of_some _ ho2, hc2, hd2⟩
  refine wpAny_bind (wpAny_holding (wpAny_call_entry PyProof.Rows.slot_list_sort ⟨_, hoL, rfl⟩ PyProof.Rows.entry_list_sort
    (Srt.list_sort_any (s := { s with heap := h'.push (seqObj "list" acc.toList.toArray 0), toks := tk }) hoL hlen (fun h2 => twoS_sortable (by omega) two fun o' e' => ?_) fun out hp => ⟨_, rfl, ?_⟩) (PyProof.Rows.args_list_sort _)))
  · rw [hoL] at e'
    cases e'
    exact fun c => absurd (Value.type.inj c) (by decide)
  have hp2 : out.Perm ((ks.map fun x => x.2.1).map Value.ref) := by rw [← ea]; exact hp
  obtain ⟨cs, hcs, rfl⟩ := perm_refs hp2
  obtain ⟨e', he'⟩ := PyProof.Rows.sortedHeap_at (vs := acc.toList) (out := (cs.map Value.ref).toArray) hoL
  have hz : (cs.map V.ref).length ≤ sizeLine := by
    have h1 := hcs.length_eq
    rw [List.length_map] at h1 ⊢
    omega
  refine wpAny_pure ⟨_, rfl, .ref h'.objs.size, upd H h'.objs.size (.lst (cs.map V.ref)), I1.laid (t' := tk) (fun b u e => ?_) (Nat.le_refl _)
    (show ObjOk X.prog X.w _ _ _ (.lst (cs.map V.ref)) from ⟨hz, cs.map Value.ref, e', vals_refs cs, he'⟩), rfl, q _ _ cs (I1.hok.fresh (Nat.le_refl _)) (isKeys_of pr) hcs⟩
  have hb : b < h'.objs.size := Heap.lt_size e
  rw [PyProof.Rows.sortedHeap_old (Nat.ne_of_lt hb) (by rw [size_push']; exact Nat.lt_succ_of_lt hb)]
  exact Heap.get?_push_of_some _ e
theorem sortedTTK {K : PySem.W.Frag} (hc : X.calm = true) (_ : X.K = K := by rfl) : CallR X (.builtin "sorted") rSortedTT := cr_sortedTT hc
end
end SW


/-! ### what a suite asks of an exception -/
namespace SW
open PySem PySem.Spec PyProof.Rows L2 He
def rIsEd (K : PySem.W.Frag) (a : Addr) (cls : Value) (d : Option Addr) : List V → Hp → VK → Prop := fun xs H Q => ∃ (D : Addr) (c : V) (cv : Value) (b : Bool), xs = [.ref a, c] ∧ cls = .ref D ∧ ExcC K D ∧ (d = none ∨ ∃ dd fs, d = some dd ∧ H dd = some (.xd fs)) ∧ (∀ u, RelV c u → u = cv) ∧ PySem.W.kitOne K (.ref D) cv = some b ∧ Q (.bl b) H
theorem call_isEd {X : Cx} {K : PySem.W.Frag} {a : Addr} {cls : Value} {d : Option Addr} {oe : Obj} {pn : List (Addr × Obj)} (hz : Zc cls d oe) (hf : ∃ vs, oe.data = .fields vs) (hK : X.K = K := by rfl) : CallR (X.suite a ((a, oe) :: pn)) (.builtin "isinstance") (rIsEd K a cls d) := by
  subst hK
  intro pins s σ H xs us Q I r h
  obtain ⟨D, c, cv, b, rfl, rfl, C, hd, hcv, e, q⟩ := h
  cases r with
  | cons rx rr =>
    cases rr with
    | cons rt rr =>
      cases rr
      cases rx
      have ec := hcv _ rt
      subst ec
      obtain ⟨hget, _⟩ := I.pin (a, oe) (List.mem_append.mpr (.inl List.mem_cons_self))
      obtain ⟨vs, hv⟩ := hf
      obtain ⟨od, J⟩ : ∃ od, PySem.W.InstAt s.heap a oe D od := by
        rcases hd with rfl | ⟨dd, fs, rfl, hx⟩
        · exact ⟨none, hget, hz.1, by unfold PySem.W.notCls; rw [hv] <;> rfl, by rw [hz.2]; exact True.intro⟩
        · have hx2 : ObjOk X.prog X.w H s.heap dd (.xd fs) := I.hok dd _ hx
          obtain ⟨mA, hns, hr⟩ := hx2
          obtain ⟨o, ho, hl⟩ := lookIn_ns hns
          exact ⟨some o, hget, hz.1, by unfold PySem.W.notCls; rw [hv] <;> rfl, by rw [hz.2]; exact ho⟩
      have hcl : (PySem.W.clsIn X.K D).isSome = true := by
        obtain ⟨cd, hc, _⟩ := PySem.W.any_some C.hd
        rw [hc] <;> rfl
      exact PySem.W.kia_one (PySem.W.kitx_exc hcl C.hg C.hk C.hs C.ha C.hn C.ht C.hm) I.kIn J e (fun z => nomatch z) fun tk => ⟨.bl b, H, I.kept (t' := tk) fun _ _ z => z, rfl, q⟩
def eqkB (k : Bool) (v : Value) : Bool := match v with
  | .bool n => n == k
  | _ => false
def rCntB (K : PySem.W.Frag) : V → List V → Hp → VK → Prop := fun x xs H Q => ∃ (p : Addr) (ns : List Bool) (k : Bool), x = .ref p ∧ xs = [.bl k] ∧ SqL K H p (ns.map V.bl) ∧ Q (.int (ns.count k : Nat)) H
theorem bools_of_vals : ∀ {ns : List Bool} {us : List Value}, Vals (ns.map V.bl) us → us = ns.map Value.bool
  | [], _, r => by cases r; rfl
  | n :: ns, _, r => by
    cases r with
    | cons h t =>
      rw [bools_of_vals t]
      have h : _ = Value.bool n := h
      rw [h] <;> rfl
theorem eqkB_count {k : Bool} : ∀ {ns : List Bool}, (ns.map Value.bool).countP (eqkB k) = ns.count k
  | [] => rfl
  | n :: ns => by
    rw [List.map_cons, List.countP_cons, List.count_cons, eqkB_count] <;> rfl
theorem mt_countB {X : Cx} : MtR X "list.count" (rCntB X.K) := by
  intro pins s σ H x xs v us Q I rx rxs h
  obtain ⟨p, ns, k, rfl, rfl, hs, q⟩ := h
  cases rx
  obtain ⟨u, rfl, ru⟩ := rxs.one
  cases ru
  obtain ⟨its, rv, ⟨⟨cls, dd, data, sl⟩, n, ho, hc, hdn, hd⟩, hlen⟩ := I.list hs
  simp only at hc hd
  subst hc hd
  have hi := bools_of_vals rv
  subst hi
  refine call_meets PySem.F.slot_list_count ⟨_, ho, rfl⟩ PySem.F.entry_list_count (PySem.F.args_list_count_2 _ _)
    (SeqAt.list_countAt p (ns.map Value.bool).toArray n dd sl (.bool k) (eqkB k)) ⟨ho, fun y hy => ?_, ?_⟩
  · have hy : y ∈ ns.map Value.bool := by simpa using hy
    obtain ⟨b, _, rfl⟩ := List.mem_map.mp hy
    exact PySem.SeqAt.EqAt.bool_bool b k
  · refine ⟨.int (ns.count k : Nat), H, I.tok _, ⟨s.toks, ?_⟩, q⟩
    show Value.int (((ns.map Value.bool).countP (eqkB k) : Nat) : Int) s.toks = Value.int ((ns.count k : Nat) : Int) s.toks
    rw [eqkB_count]
theorem countBK {X : Cx} {K : PySem.W.Frag} (h : X.K = K := by rfl) : MtR X "list.count" (rCntB K) := by subst h; exact mt_countB
end SW


/-! ### texts as lists of signs -/
namespace SW
open PySem PySem.Spec PyProof.Rows L2 He TL
theorem strip_tl (x y : Str) : Txt.stripChars x y = Txt.stripBy y.cps.contains true true x := rfl
theorem takeWhile_len {p : Nat → Bool} : ∀ {l : List Nat}, (l.takeWhile p).length = l.length → ∀ c ∈ l, p c = true
  | [], _, c, h => by cases h
  | a :: r, e, c, h => by
    cases q : p a with
    | false =>
      rw [List.takeWhile_cons, q] at e
      simp at e
    | true =>
      rw [List.takeWhile_cons, q] at e
      simp only [if_true, List.length_cons, Nat.add_right_cancel_iff] at e
      rcases List.mem_cons.mp h with rfl | h
      · exact q
      · exact takeWhile_len e c h
theorem takeWhile_all {p : Nat → Bool} : ∀ {l : List Nat}, (∀ c ∈ l, p c = true) → l.takeWhile p = l
  | [], _ => rfl
  | a :: r, h => by
    rw [List.takeWhile_cons, h a (List.mem_cons_self ..)]
    simp only [if_true]
    rw [takeWhile_all fun c hc => h c (List.mem_cons_of_mem _ hc)]
theorem drop_take_head {p : Nat → Bool} : ∀ (l : List Nat) {c : Nat} {r : List Nat}, l.drop (l.takeWhile p).length = c :: r → p c = false
  | [], c, r, h => by simp at h
  | a :: l, c, r, h => by
    cases q : p a with
    | false =>
      rw [List.takeWhile_cons, q] at h
      simp at h
      rw [← h.1]
      exact q
    | true =>
      rw [List.takeWhile_cons, q] at h
      simp only [if_true, List.length_cons, List.drop_succ_cons] at h
      exact drop_take_head l h
theorem strip_nil (x y : Str) : tl (Txt.stripChars x y) = [] ↔ ∀ c ∈ tl x, c ∈ tl y := by
  have hg : ∀ c, y.cps.contains c = true ↔ c ∈ tl y := fun c => by simp [tl]
  rw [strip_tl, PySem.W.stripBy_eq]
  show tl (Builtin.Str.strSub x _ _) = [] ↔ _
  rw [tl_strSub]
  show (((tl x).drop ((tl x).takeWhile y.cps.contains).length).take (x.length - (((tl x).drop ((tl x).takeWhile y.cps.contains).length).reverse.takeWhile y.cps.contains).length - ((tl x).takeWhile y.cps.contains).length)) = [] ↔ _
  constructor
  · intro h
    cases e : (tl x).drop ((tl x).takeWhile y.cps.contains).length with
    | nil =>
      have hl : ((tl x).takeWhile y.cps.contains).length = (tl x).length := by
        have h1 := List.drop_eq_nil_iff.mp e
        have h2 := (List.takeWhile_sublist (l := tl x) y.cps.contains).length_le
        omega
      exact fun c hc => (hg c).mp (takeWhile_len hl c hc)
    | cons c r =>
      exfalso
      have hc := drop_take_head (tl x) e
      have hl : (tl x).length = ((tl x).takeWhile y.cps.contains).length + (r.length + 1) := by
        have := congrArg List.length e
        rw [List.length_drop, List.length_cons] at this
        omega
      rw [e] at h
      have hr : ((c :: r).reverse.takeWhile y.cps.contains).length < r.length + 1 := by
        refine Nat.lt_of_le_of_ne ?_ fun z => ?_
        · have := (List.takeWhile_sublist (l := (c :: r).reverse) y.cps.contains).length_le
          simpa using this
        · have := takeWhile_len (l := (c :: r).reverse) (p := y.cps.contains) (by simpa using z) c (by simp)
          rw [hc] at this
          cases this
      rw [len_tl, hl] at h
      have h3 := congrArg List.length h
      rw [List.length_take, List.length_cons, List.length_nil] at h3
      omega
  · intro h
    have e : (tl x).takeWhile y.cps.contains = tl x := takeWhile_all fun c hc => (hg c).mpr (h c hc)
    rw [e, List.drop_length, List.take_nil]
theorem tl_nil {x : Str} : tl x = [] ↔ x = Str.empty := ⟨fun h => ext_tl (by rw [h]; rfl), fun h => by rw [h]; rfl⟩
theorem starts1 (x y : Str) (c : Nat) (hy : tl y = [c]) : Txt.startswith x y = ((tl x).head? == some c) := by
  have hl : y.length = 1 := by rw [len_tl, hy]; rfl
  show (decide (0 + y.length ≤ x.length) && Builtin.Str.subAt x y 0) = _
  rw [StrLaws.subAt_eq, hl]
  show (decide (0 + 1 ≤ x.length) && ((tl x).drop 0).take 1 == tl y) = _
  rw [hy, len_tl]
  cases e : tl x with
  | nil => rfl
  | cons a r =>
    simp only [List.length_cons, List.drop_zero, List.head?_cons]
    rw [show decide (0 + 1 ≤ r.length + 1) = true from decide_eq_true (by omega)]
    rw [Bool.eq_iff_iff]
    simp
/-- how numbers stand in a text: figures, no nought ahead of others, at most four, at most so great -/
def isDig (c : Nat) : Bool := decide (48 ≤ c) && decide (c ≤ 57)
theorem isDig_iff (c : Nat) : isDig c = true ↔ 48 ≤ c ∧ c ≤ 57 := by simp [isDig]
def figs : Str := "0123456789"
theorem tl_figs : tl figs = [48, 49, 50, 51, 52, 53, 54, 55, 56, 57] := by decide +kernel
theorem mem_figs (c : Nat) : c ∈ tl figs ↔ isDig c = true := by
  rw [tl_figs, isDig_iff]
  simp only [List.mem_cons, List.not_mem_nil, or_false]
  omega
/-- the number that the signs tell, -1 where none -/
def numIn (cs : List Nat) (most : Int) : Int :=
  if cs = [] ∨ 4 < cs.length ∨ cs.all isDig = false then -1
  else if (cs.head? = some 48 ∧ 1 < cs.length) ∨ most < (NumText.digitsVal cs : Int) then -1
  else (NumText.digitsVal cs : Int)
theorem numIn_ge (cs : List Nat) (most : Int) : -1 ≤ numIn cs most := by
  unfold numIn
  split
  · omega
  · split <;> omega
theorem numIn_le (cs : List Nat) {most : Int} (h : -1 ≤ most) : numIn cs most ≤ most := by
  unfold numIn
  split
  · omega
  · split
    · omega
    · rename_i h2
      omega
/-- what is written is read: the figures of n, for n at most so great and below 10000 -/
theorem numL_head {n : Nat} (h : 10 ≤ n) : (numL n).head? ≠ some 48 := by
  induction n using Nat.strongRecOn with
  | ind n ih =>
    rw [numL_step h]
    by_cases h2 : n / 10 < 10
    · rw [numL_lt h2]
      simp
      omega
    · have := ih (n / 10) (by omega) (by omega)
      intro e
      cases q : numL (n / 10) with
      | nil => exact numL_ne _ q
      | cons a r =>
        rw [q] at e this
        exact this e
theorem numIn_num {n : Nat} {most : Int} (h : (n : Int) ≤ most) (h4 : n < 10000) : numIn (numL n) most = (n : Int) := by
  have h1 : numL n ≠ [] := numL_ne n
  have h2 : (numL n).length ≤ 4 := numL_len (by decide) (by omega)
  have h3 : (numL n).all isDig = true := by
    rw [List.all_eq_true]
    exact fun c hc => (isDig_iff c).mpr (numL_digits n c hc)
  unfold numIn
  have hn : ¬ (numL n = [] ∨ 4 < (numL n).length ∨ (numL n).all isDig = false) := by
    rintro (e | e | e)
    · exact h1 e
    · omega
    · rw [h3] at e
      cases e
  rw [if_neg hn, numL_val]
  rw [if_neg]
  rintro (⟨e, e2⟩ | e)
  · by_cases h10 : 10 ≤ n
    · exact numL_head h10 e
    · rw [numL_lt (by omega)] at e2
      simp at e2
  · omega

theorem takeWhile_ne {c : Nat} : ∀ {l : List Nat}, c ∉ l → l.takeWhile (· != c) = l ∧ l.dropWhile (· != c) = []
  | [], _ => ⟨rfl, rfl⟩
  | a :: r, h => by
    have h1 : a ≠ c := fun e => h (by rw [e]; exact List.mem_cons_self ..)
    have h2 := takeWhile_ne (l := r) fun m => h (List.mem_cons_of_mem _ m)
    have h3 : (a != c) = true := bne_iff_ne.mpr h1
    rw [List.takeWhile_cons, List.dropWhile_cons, h3]
    simp only [if_true]
    exact ⟨by rw [h2.1], h2.2⟩
theorem takeWhile_split {c : Nat} : ∀ {l : List Nat}, c ∈ l → l = l.takeWhile (· != c) ++ c :: (l.dropWhile (· != c)).tail ∧ c ∉ l.takeWhile (· != c)
  | [], h => by cases h
  | a :: r, h => by
    by_cases e : a = c
    · subst e
      rw [List.takeWhile_cons, List.dropWhile_cons]
      simp
    · have h3 : (a != c) = true := bne_iff_ne.mpr e
      have h2 := takeWhile_split (l := r) ((List.mem_cons.mp h).resolve_left fun z => e z.symm)
      rw [List.takeWhile_cons, List.dropWhile_cons, h3]
      simp only [if_true, List.cons_append]
      refine ⟨congrArg _ h2.1, fun m => ?_⟩
      rcases List.mem_cons.mp m with z | z
      · exact e z.symm
      · exact h2.2 z
/-- a text parted by one sign -/
theorem part1 (z y : Str) (c : Nat) (hy : tl y = [c]) : tl (Txt.partition z y).1 = (tl z).takeWhile (· != c) ∧ (tl (Txt.partition z y).2.1 = [] ↔ c ∉ tl z) ∧ tl (Txt.partition z y).2.2 = ((tl z).dropWhile (· != c)).tail := by
  by_cases h : c ∈ tl z
  · obtain ⟨e, hn⟩ := takeWhile_split h
    have ez : z = (⟨((tl z).takeWhile (· != c)).toArray⟩ : Str) ++ y ++ (⟨((tl z).dropWhile (· != c)).tail.toArray⟩ : Str) := ext_tl (by
      rw [tl_append, tl_append, hy, tl_mk, tl_mk, List.append_assoc]
      exact e)
    have p := partition_app (y := y) (s := c) (S := []) hy (a := ⟨((tl z).takeWhile (· != c)).toArray⟩) (b := ⟨((tl z).dropWhile (· != c)).tail.toArray⟩) hn
    rw [← ez] at p
    rw [p]
    refine ⟨rfl, ⟨fun q => ?_, fun q => absurd h q⟩, rfl⟩
    rw [hy] at q
    cases q
  · have p := partition_none (y := y) (s := c) (S := []) hy (a := z) h
    obtain ⟨h1, h2⟩ := takeWhile_ne h
    rw [p, h1, h2]
    exact ⟨rfl, ⟨fun _ => h, fun _ => rfl⟩, rfl⟩
theorem part1_len (z y : Str) (c : Nat) (hy : tl y = [c]) : (Txt.partition z y).1.length ≤ z.length ∧ (Txt.partition z y).2.2.length ≤ z.length := by
  obtain ⟨h1, _, h2⟩ := part1 z y c hy
  rw [len_tl, len_tl, len_tl, h1, h2, List.length_tail]
  have := (List.takeWhile_sublist (l := tl z) (· != c)).length_le
  have := (List.dropWhile_sublist (l := tl z) (· != c)).length_le
  exact ⟨by omega, by omega⟩
end SW


/-! ### kinds of parts -/
namespace SW
open PySem PySem.Spec PyProof.Rows L2 He
inductive Kc where
  | src | snk | both | either | odd | plus | pick | up | down
  deriving DecidableEq
def Kc.nm : Kc → Str
  | .src => "Source" | .snk => "Sink" | .both => "Both" | .either => "Either" | .odd => "Odd" | .plus => "Plus" | .pick => "Pick" | .up => "Up" | .down => "Down"
structure Kd where
  c : Kc
  n : Int
  deriving DecidableEq
def Kc.cnt : Kc → Bool
  | .up => true | .down => true | _ => false
def Kd.flds (k : Kd) : List (Str × V) := match k.c with
  | .up => [("count", .int k.n)] | .down => [("count", .int k.n)] | _ => []
def KindAt (K : PySem.W.Frag) (H : Hp) (a : Addr) (k : Kd) : Prop := ∃ dx, H a = some (.ins (ga K k.c.nm) dx k.flds)
def Kc.lines : Kc → Nat
  | .src => 0 | .snk => 1 | .pick => 3 | .up => 1 | .down => 1 | _ => 2
def Kd.word (k : Kd) : Str := match k.c with
  | .src => "in" | .snk => "out" | .both => "and" | .either => "or" | .odd => "odd" | .plus => "plus" | .pick => "pick" | .up => ("up:" : Str) ++ (toString k.n : Str) | .down => ("down:" : Str) ++ (toString k.n : Str)
def Kd.ok (k : Kd) : Prop := k.c.cnt = true → 1 ≤ k.n ∧ k.n ≤ 63
def Kd.joined (k : Kd) (ns : List Int) : Int := match k.c, ns with
  | .snk, x :: _ => x
  | .both, x :: y :: _ => Builtin.bitAnd x y
  | .either, x :: y :: _ => Builtin.bitOr x y
  | .odd, x :: y :: _ => Builtin.bitXor x y
  | .plus, x :: y :: _ => x + y
  | .pick, x :: y :: z :: _ => if x = 0 then z else y
  | .up, x :: _ => x * 2 ^ k.n.toNat
  | .down, x :: _ => x / 2 ^ k.n.toNat
  | _, _ => 0
def Kd.made (k : Kd) (ns : List Int) (w : Int) : Int := Builtin.bitAnd (k.joined ns) (1 * 2 ^ w.toNat - 1)
def spLines (K : PySem.W.Frag) (c : Kc) : Sp := fun vs H Q _ => ∃ (a : Addr) (k : Kd), vs = [.ref a] ∧ KindAt K H a k ∧ k.c = c ∧ Q (.int (c.lines : Int)) H
def spWord (K : PySem.W.Frag) (c : Kc) : Sp := fun vs H Q _ => ∃ (a : Addr) (k : Kd), vs = [.ref a] ∧ KindAt K H a k ∧ k.c = c ∧ k.ok ∧ Q (.str k.word) H
def spJoined (K : PySem.W.Frag) (c : Kc) : Sp := fun vs H Q _ => ∃ (a : Addr) (k : Kd) (l : Addr) (ns : List Int), vs = [.ref a, .ref l] ∧ KindAt K H a k ∧ k.c = c ∧ k.ok ∧ SqL K H l (ns.map V.int) ∧ c.lines ≤ ns.length ∧ (∀ n ∈ ns, 0 ≤ n ∧ n < 2 ^ 64) ∧ Q (.int (k.joined ns)) H
def spMade (K : PySem.W.Frag) (c : Kc) : Sp := fun vs H Q _ => ∃ (a : Addr) (k : Kd) (l : Addr) (ns : List Int) (w : Int), vs = [.ref a, .ref l, .int w] ∧ KindAt K H a k ∧ k.c = c ∧ k.ok ∧ SqL K H l (ns.map V.int) ∧ c.lines ≤ ns.length ∧ (∀ n ∈ ns, 0 ≤ n ∧ n < 2 ^ 64) ∧ 0 ≤ w ∧ w ≤ 64 ∧ Q (.int (k.made ns w)) H
def spInitC (C : Addr) : Sp := fun vs H Q _ => ∃ (x dx : Addr) (n : Int), vs = [.ref x, .int n] ∧ H x = some (.ins C dx []) ∧ Q .non (upd H x (.ins C dx [("count", .int n)]))
theorem at0 {α : Type} (x : α) (r : List α) : atI (x :: r) 0 = some x := atI_nat (j := 0) rfl
theorem at1 {α : Type} (x y : α) (r : List α) : atI (x :: y :: r) 1 = some y := atI_nat (j := 1) rfl
theorem at2 {α : Type} (x y z : α) (r : List α) : atI (x :: y :: z :: r) 2 = some z := atI_nat (j := 2) rfl
theorem dgt (n : Int) (h : n.natAbs < 2 ^ 100) : n.natAbs.log2 < 1920 := by
  by_cases e : n.natAbs = 0
  · rw [e]
    decide
  · exact Nat.lt_trans ((Nat.log2_lt e).mpr h) (by decide)
theorem cons1 {α : Type} : ∀ {l : List α}, 1 ≤ l.length → ∃ x r, l = x :: r
  | [], h => by simp at h
  | x :: r, _ => ⟨x, r, rfl⟩
theorem cons2 {α : Type} {l : List α} (h : 2 ≤ l.length) : ∃ x y r, l = x :: y :: r := by
  obtain ⟨x, l, rfl⟩ := cons1 (Nat.le_trans (by decide) h)
  obtain ⟨y, r, rfl⟩ := cons1 (l := l) (Nat.le_of_succ_le_succ h)
  exact ⟨x, y, r, rfl⟩
theorem cons3 {α : Type} {l : List α} (h : 3 ≤ l.length) : ∃ x y z r, l = x :: y :: z :: r := by
  obtain ⟨x, l, rfl⟩ := cons1 (Nat.le_trans (by decide) h)
  obtain ⟨y, z, r, rfl⟩ := cons2 (l := l) (Nat.le_of_succ_le_succ h)
  exact ⟨x, y, z, r, rfl⟩
theorem num_len {n : Int} (h0 : 0 ≤ n) (h : n < 10000) : (Str.ofString (toString n)).length ≤ 4 := by
  obtain ⟨m, rfl⟩ := Int.eq_ofNat_of_zero_le h0
  rw [TL.len_tl, TL.tl_num]
  exact TL.numL_len (by decide) (by omega)
theorem up_len : ("up:" : Str).length = 3 := by decide +kernel
theorem down_len : ("down:" : Str).length = 5 := by decide +kernel
theorem Txt.ck {K : PySem.W.Frag} {mg : Str → Option Value} (T : Txt K mg) : ∀ c : Kc, Cls K (ga K c.nm)
  | .src => T.c_Source | .snk => T.c_Sink | .both => T.c_Both | .either => T.c_Either | .odd => T.c_Odd | .plus => T.c_Plus | .pick => T.c_Pick | .up => T.c_Up | .down => T.c_Down
theorem Txt.mk_lines_ {K : PySem.W.Frag} {mg : Str → Option Value} (T : Txt K mg) : ∀ c : Kc, Meth K (ga K c.nm) "lines" (ma K (ga K c.nm) "lines")
  | .src => T.m_Source_lines | .snk => T.m_Sink_lines | .both => T.m_Both_lines | .either => T.m_Either_lines | .odd => T.m_Odd_lines | .plus => T.m_Plus_lines | .pick => T.m_Pick_lines | .up => T.m_Up_lines | .down => T.m_Down_lines
theorem Txt.mk_word_ {K : PySem.W.Frag} {mg : Str → Option Value} (T : Txt K mg) : ∀ c : Kc, Meth K (ga K c.nm) "word" (ma K (ga K c.nm) "word")
  | .src => T.m_Source_word | .snk => T.m_Sink_word | .both => T.m_Both_word | .either => T.m_Either_word | .odd => T.m_Odd_word | .plus => T.m_Plus_word | .pick => T.m_Pick_word | .up => T.m_Up_word | .down => T.m_Down_word
theorem Txt.mk_joined_ {K : PySem.W.Frag} {mg : Str → Option Value} (T : Txt K mg) : ∀ c : Kc, Meth K (ga K c.nm) "joined" (ma K (ga K c.nm) "joined")
  | .src => T.m_Source_joined | .snk => T.m_Sink_joined | .both => T.m_Both_joined | .either => T.m_Either_joined | .odd => T.m_Odd_joined | .plus => T.m_Plus_joined | .pick => T.m_Pick_joined | .up => T.m_Up_joined | .down => T.m_Down_joined
theorem Txt.mk_made_ {K : PySem.W.Frag} {mg : Str → Option Value} (T : Txt K mg) : ∀ c : Kc, Meth K (ga K c.nm) "made" (ma K (ga K c.nm) "made")
  | .src => T.m_Source_made | .snk => T.m_Sink_made | .both => T.m_Both_made | .either => T.m_Either_made | .odd => T.m_Odd_made | .plus => T.m_Plus_made | .pick => T.m_Pick_made | .up => T.m_Up_made | .down => T.m_Down_made
theorem flds_no (k : Kd) {m : Str} (h : m ≠ "count") : k.flds.lookup m = none := by
  obtain ⟨c, n⟩ := k
  cases c <;> first | rfl | (show List.lookup m [(("count" : Str), V.int n)] = none; rw [List.lookup_cons, beq_eq_false_iff_ne.mpr h]; rfl)
section
variable {P : Program} {w : World} {K : PySem.W.Frag} {mg : Str → Option Value} {base : Heap}
theorem ok_Source_lines (T : Txt K mg) : Ok P w K mg base 1 (ma K (ga K "Source") "lines") ["self"] (spLines K .src) := by
  refine mkOk T.F_Source_lines sc_Source_lines (fun _ _ _ _ _ _ us hl => match us, hl with | [_], _ => rfl) (by rintro vs H Q E ⟨_, _, rfl, _⟩; rfl) (fun cdv A outer s H vs Q E hr h => ?_)
  obtain ⟨a, k, rfl, ha, hc, q⟩ := h
  exact ⟨_, (pss_one (ps_ret pe_int)), q⟩
theorem ok_Source_word (T : Txt K mg) : Ok P w K mg base 1 (ma K (ga K "Source") "word") ["self"] (spWord K .src) := by
  refine mkOk T.F_Source_word sc_Source_word (fun _ _ _ _ _ _ us hl => match us, hl with | [_], _ => rfl) (by rintro vs H Q E ⟨_, _, rfl, _⟩; rfl) (fun cdv A outer s H vs Q E hr h => ?_)
  obtain ⟨a, ⟨c, n⟩, rfl, ⟨dx, ha⟩, hc, hk, q⟩ := h
  cases (show c = .src from hc)
  exact ⟨_, (pss_one (ps_ret pe_str)), q⟩
theorem ok_Sink_lines (T : Txt K mg) : Ok P w K mg base 1 (ma K (ga K "Sink") "lines") ["self"] (spLines K .snk) := by
  refine mkOk T.F_Sink_lines sc_Sink_lines (fun _ _ _ _ _ _ us hl => match us, hl with | [_], _ => rfl) (by rintro vs H Q E ⟨_, _, rfl, _⟩; rfl) (fun cdv A outer s H vs Q E hr h => ?_)
  obtain ⟨a, k, rfl, ha, hc, q⟩ := h
  exact ⟨_, (pss_one (ps_ret pe_int)), q⟩
theorem ok_Sink_word (T : Txt K mg) : Ok P w K mg base 1 (ma K (ga K "Sink") "word") ["self"] (spWord K .snk) := by
  refine mkOk T.F_Sink_word sc_Sink_word (fun _ _ _ _ _ _ us hl => match us, hl with | [_], _ => rfl) (by rintro vs H Q E ⟨_, _, rfl, _⟩; rfl) (fun cdv A outer s H vs Q E hr h => ?_)
  obtain ⟨a, ⟨c, n⟩, rfl, ⟨dx, ha⟩, hc, hk, q⟩ := h
  cases (show c = .snk from hc)
  exact ⟨_, (pss_one (ps_ret pe_str)), q⟩
theorem ok_Both_lines (T : Txt K mg) : Ok P w K mg base 1 (ma K (ga K "Both") "lines") ["self"] (spLines K .both) := by
  refine mkOk T.F_Both_lines sc_Kind_lines (fun _ _ _ _ _ _ us hl => match us, hl with | [_], _ => rfl) (by rintro vs H Q E ⟨_, _, rfl, _⟩; rfl) (fun cdv A outer s H vs Q E hr h => ?_)
  obtain ⟨a, k, rfl, ha, hc, q⟩ := h
  exact ⟨_, (pss_one (ps_ret pe_int)), q⟩
theorem ok_Both_word (T : Txt K mg) : Ok P w K mg base 1 (ma K (ga K "Both") "word") ["self"] (spWord K .both) := by
  refine mkOk T.F_Both_word sc_Both_word (fun _ _ _ _ _ _ us hl => match us, hl with | [_], _ => rfl) (by rintro vs H Q E ⟨_, _, rfl, _⟩; rfl) (fun cdv A outer s H vs Q E hr h => ?_)
  obtain ⟨a, ⟨c, n⟩, rfl, ⟨dx, ha⟩, hc, hk, q⟩ := h
  cases (show c = .both from hc)
  exact ⟨_, (pss_one (ps_ret pe_str)), q⟩
theorem ok_Either_lines (T : Txt K mg) : Ok P w K mg base 1 (ma K (ga K "Either") "lines") ["self"] (spLines K .either) := by
  refine mkOk T.F_Either_lines sc_Kind_lines (fun _ _ _ _ _ _ us hl => match us, hl with | [_], _ => rfl) (by rintro vs H Q E ⟨_, _, rfl, _⟩; rfl) (fun cdv A outer s H vs Q E hr h => ?_)
  obtain ⟨a, k, rfl, ha, hc, q⟩ := h
  exact ⟨_, (pss_one (ps_ret pe_int)), q⟩
theorem ok_Either_word (T : Txt K mg) : Ok P w K mg base 1 (ma K (ga K "Either") "word") ["self"] (spWord K .either) := by
  refine mkOk T.F_Either_word sc_Either_word (fun _ _ _ _ _ _ us hl => match us, hl with | [_], _ => rfl) (by rintro vs H Q E ⟨_, _, rfl, _⟩; rfl) (fun cdv A outer s H vs Q E hr h => ?_)
  obtain ⟨a, ⟨c, n⟩, rfl, ⟨dx, ha⟩, hc, hk, q⟩ := h
  cases (show c = .either from hc)
  exact ⟨_, (pss_one (ps_ret pe_str)), q⟩
theorem ok_Odd_lines (T : Txt K mg) : Ok P w K mg base 1 (ma K (ga K "Odd") "lines") ["self"] (spLines K .odd) := by
  refine mkOk T.F_Odd_lines sc_Kind_lines (fun _ _ _ _ _ _ us hl => match us, hl with | [_], _ => rfl) (by rintro vs H Q E ⟨_, _, rfl, _⟩; rfl) (fun cdv A outer s H vs Q E hr h => ?_)
  obtain ⟨a, k, rfl, ha, hc, q⟩ := h
  exact ⟨_, (pss_one (ps_ret pe_int)), q⟩
theorem ok_Odd_word (T : Txt K mg) : Ok P w K mg base 1 (ma K (ga K "Odd") "word") ["self"] (spWord K .odd) := by
  refine mkOk T.F_Odd_word sc_Odd_word (fun _ _ _ _ _ _ us hl => match us, hl with | [_], _ => rfl) (by rintro vs H Q E ⟨_, _, rfl, _⟩; rfl) (fun cdv A outer s H vs Q E hr h => ?_)
  obtain ⟨a, ⟨c, n⟩, rfl, ⟨dx, ha⟩, hc, hk, q⟩ := h
  cases (show c = .odd from hc)
  exact ⟨_, (pss_one (ps_ret pe_str)), q⟩
theorem ok_Plus_lines (T : Txt K mg) : Ok P w K mg base 1 (ma K (ga K "Plus") "lines") ["self"] (spLines K .plus) := by
  refine mkOk T.F_Plus_lines sc_Kind_lines (fun _ _ _ _ _ _ us hl => match us, hl with | [_], _ => rfl) (by rintro vs H Q E ⟨_, _, rfl, _⟩; rfl) (fun cdv A outer s H vs Q E hr h => ?_)
  obtain ⟨a, k, rfl, ha, hc, q⟩ := h
  exact ⟨_, (pss_one (ps_ret pe_int)), q⟩
theorem ok_Plus_word (T : Txt K mg) : Ok P w K mg base 1 (ma K (ga K "Plus") "word") ["self"] (spWord K .plus) := by
  refine mkOk T.F_Plus_word sc_Plus_word (fun _ _ _ _ _ _ us hl => match us, hl with | [_], _ => rfl) (by rintro vs H Q E ⟨_, _, rfl, _⟩; rfl) (fun cdv A outer s H vs Q E hr h => ?_)
  obtain ⟨a, ⟨c, n⟩, rfl, ⟨dx, ha⟩, hc, hk, q⟩ := h
  cases (show c = .plus from hc)
  exact ⟨_, (pss_one (ps_ret pe_str)), q⟩
theorem ok_Pick_lines (T : Txt K mg) : Ok P w K mg base 1 (ma K (ga K "Pick") "lines") ["self"] (spLines K .pick) := by
  refine mkOk T.F_Pick_lines sc_Pick_lines (fun _ _ _ _ _ _ us hl => match us, hl with | [_], _ => rfl) (by rintro vs H Q E ⟨_, _, rfl, _⟩; rfl) (fun cdv A outer s H vs Q E hr h => ?_)
  obtain ⟨a, k, rfl, ha, hc, q⟩ := h
  exact ⟨_, (pss_one (ps_ret pe_int)), q⟩
theorem ok_Pick_word (T : Txt K mg) : Ok P w K mg base 1 (ma K (ga K "Pick") "word") ["self"] (spWord K .pick) := by
  refine mkOk T.F_Pick_word sc_Pick_word (fun _ _ _ _ _ _ us hl => match us, hl with | [_], _ => rfl) (by rintro vs H Q E ⟨_, _, rfl, _⟩; rfl) (fun cdv A outer s H vs Q E hr h => ?_)
  obtain ⟨a, ⟨c, n⟩, rfl, ⟨dx, ha⟩, hc, hk, q⟩ := h
  cases (show c = .pick from hc)
  exact ⟨_, (pss_one (ps_ret pe_str)), q⟩
theorem ok_Up_lines (T : Txt K mg) : Ok P w K mg base 1 (ma K (ga K "Up") "lines") ["self"] (spLines K .up) := by
  refine mkOk T.F_Up_lines sc_Up_lines (fun _ _ _ _ _ _ us hl => match us, hl with | [_], _ => rfl) (by rintro vs H Q E ⟨_, _, rfl, _⟩; rfl) (fun cdv A outer s H vs Q E hr h => ?_)
  obtain ⟨a, k, rfl, ha, hc, q⟩ := h
  exact ⟨_, (pss_one (ps_ret pe_int)), q⟩
theorem ok_Up_word (T : Txt K mg) : Ok P w K mg base 1 (ma K (ga K "Up") "word") ["self"] (spWord K .up) := by
  refine mkOk T.F_Up_word sc_Up_word (fun _ _ _ _ _ _ us hl => match us, hl with | [_], _ => rfl) (by rintro vs H Q E ⟨_, _, rfl, _⟩; rfl) (fun cdv A outer s H vs Q E hr h => ?_)
  obtain ⟨a, ⟨c, n⟩, rfl, ⟨dx, ha⟩, hc, hk, q⟩ := h
  cases (show c = .up from hc)
  have h63 : 1 ≤ n ∧ n ≤ 63 := hk rfl
  have hl := num_len (n := n) (by omega) (by omega)
  refine ⟨_, (pss_one (ps_ret (pe_op op_add_str pe_str (pe_callTy call_str_int (by rfl) T.f_str (by decide +kernel) (pa_cons (pe_fldK (K := K) (pv 0) rfl) pa_nil))))), ?_⟩
  refine ⟨_, rfl, a, _, dx, _, _, rfl, ha, T.c_Up, T.n_Up_count, rfl, _, rfl, dgt n (Nat.lt_of_lt_of_le (by omega : n.natAbs < 64) (by decide)), _, _, rfl, rfl, ?_, q⟩
  exact Nat.le_trans (show ("up:" : Str).length + (Str.ofString (toString n)).length ≤ 100 by rw [up_len]; omega) (by decide)
theorem ok_Down_lines (T : Txt K mg) : Ok P w K mg base 1 (ma K (ga K "Down") "lines") ["self"] (spLines K .down) := by
  refine mkOk T.F_Down_lines sc_Down_lines (fun _ _ _ _ _ _ us hl => match us, hl with | [_], _ => rfl) (by rintro vs H Q E ⟨_, _, rfl, _⟩; rfl) (fun cdv A outer s H vs Q E hr h => ?_)
  obtain ⟨a, k, rfl, ha, hc, q⟩ := h
  exact ⟨_, (pss_one (ps_ret pe_int)), q⟩
theorem ok_Down_word (T : Txt K mg) : Ok P w K mg base 1 (ma K (ga K "Down") "word") ["self"] (spWord K .down) := by
  refine mkOk T.F_Down_word sc_Down_word (fun _ _ _ _ _ _ us hl => match us, hl with | [_], _ => rfl) (by rintro vs H Q E ⟨_, _, rfl, _⟩; rfl) (fun cdv A outer s H vs Q E hr h => ?_)
  obtain ⟨a, ⟨c, n⟩, rfl, ⟨dx, ha⟩, hc, hk, q⟩ := h
  cases (show c = .down from hc)
  have h63 : 1 ≤ n ∧ n ≤ 63 := hk rfl
  have hl := num_len (n := n) (by omega) (by omega)
  refine ⟨_, (pss_one (ps_ret (pe_op op_add_str pe_str (pe_callTy call_str_int (by rfl) T.f_str (by decide +kernel) (pa_cons (pe_fldK (K := K) (pv 0) rfl) pa_nil))))), ?_⟩
  refine ⟨_, rfl, a, _, dx, _, _, rfl, ha, T.c_Down, T.n_Down_count, rfl, _, rfl, dgt n (Nat.lt_of_lt_of_le (by omega : n.natAbs < 64) (by decide)), _, _, rfl, rfl, ?_, q⟩
  exact Nat.le_trans (show ("down:" : Str).length + (Str.ofString (toString n)).length ≤ 100 by rw [down_len]; omega) (by decide)
theorem ok_kind_lines (T : Txt K mg) : ∀ c : Kc, Ok P w K mg base 1 (ma K (ga K c.nm) "lines") ["self"] (spLines K c)
  | .src => ok_Source_lines T | .snk => ok_Sink_lines T | .both => ok_Both_lines T | .either => ok_Either_lines T | .odd => ok_Odd_lines T | .plus => ok_Plus_lines T | .pick => ok_Pick_lines T | .up => ok_Up_lines T | .down => ok_Down_lines T
theorem ok_kind_word (T : Txt K mg) : ∀ c : Kc, Ok P w K mg base 1 (ma K (ga K c.nm) "word") ["self"] (spWord K c)
  | .src => ok_Source_word T | .snk => ok_Sink_word T | .both => ok_Both_word T | .either => ok_Either_word T | .odd => ok_Odd_word T | .plus => ok_Plus_word T | .pick => ok_Pick_word T | .up => ok_Up_word T | .down => ok_Down_word T
theorem ok_Up_init (T : Txt K mg) : Ok P w K mg base 1 (ma K (ga K "Up") "__init__") ["self", "count"] (spInitC (ga K "Up")) := by
  refine mkOk T.F_Up_init sc_Up_init (fun _ _ _ _ _ _ us hl => match us, hl with | [_, _], _ => rfl) (by rintro vs H Q E ⟨_, _, _, rfl, _⟩; rfl) (fun cdv A outer s H vs Q E hr h => ?_)
  obtain ⟨x, dx, n, rfl, hx, q⟩ := h
  refine ⟨_, (pss_one (ps_fld (pv 0) (pv 1) rfl)), ?_⟩
  exact ⟨_, rfl, _, rfl, x, _, dx, [], rfl, hx, T.c_Up, T.n_Up_count, (by show 0 < 1000; decide), q⟩
theorem ok_Down_init (T : Txt K mg) : Ok P w K mg base 1 (ma K (ga K "Down") "__init__") ["self", "count"] (spInitC (ga K "Down")) := by
  refine mkOk T.F_Down_init sc_Down_init (fun _ _ _ _ _ _ us hl => match us, hl with | [_, _], _ => rfl) (by rintro vs H Q E ⟨_, _, _, rfl, _⟩; rfl) (fun cdv A outer s H vs Q E hr h => ?_)
  obtain ⟨x, dx, n, rfl, hx, q⟩ := h
  refine ⟨_, (pss_one (ps_fld (pv 0) (pv 1) rfl)), ?_⟩
  exact ⟨_, rfl, _, rfl, x, _, dx, [], rfl, hx, T.c_Down, T.n_Down_count, (by show 0 < 1000; decide), q⟩
end
end SW


/-! ### numbers and kinds read from words -/
namespace SW
open PySem PySem.Spec PyProof.Rows L2 He TL
theorem dstr (a b : Str) : decide (V.str a = V.str b) = decide (tl a = tl b) := by
  by_cases h : tl a = tl b
  · rw [decide_eq_true h, decide_eq_true (by rw [ext_tl h])]
  · rw [decide_eq_false h, decide_eq_false (fun q => h (by rw [V.str.inj q]))]
theorem tl_emp : tl ("" : Str) = [] := by decide +kernel
theorem tl_0 : tl ("0" : Str) = [48] := by decide +kernel
theorem tl_colon : tl (":" : Str) = [58] := by decide +kernel
theorem line_le {n : Nat} (h : n ≤ 100000) : n ≤ sizeLine := Nat.le_trans h (by decide)
def spNumberIn : Sp := fun vs H Q _ => ∃ (f : Str) (m : Int), vs = [.str f, .int m] ∧ f.length ≤ 100000 ∧ Q (.int (numIn (tl f) m)) H
section
variable {P : Program} {w : World} {K : PySem.W.Frag} {mg : Str → Option Value} {base : Heap}
theorem ok_number_in (T : Txt K mg) : Ok P w K mg base 1 (ga K "number_in") ["figures", "most"] spNumberIn := by
  refine mkOk T.F_number_in sc_number_in (fun _ _ _ _ _ _ us hl => match us, hl with | [_, _], _ => rfl) (by rintro vs H Q E ⟨_, _, rfl, _⟩; rfl) (fun cdv A outer s H vs Q E hr h => ?_)
  obtain ⟨f, m, rfl, hf, q⟩ := h
  refine ⟨_, (pss_cons (ps_if (PW.pt (pw_or (pt_cmpR op_eq (pv 0) pe_str (nomark _)) (pw_or (pt_cmpR op_gt (pe_callB call_len_str (by rfl) T.f_len (by decide +kernel) (pa_cons (pv 0) pa_nil)) pe_int (nomark _)) (pw_or1 (pt_cmpR op_ne (pe_bm PySem.F.plainAttrs_str PySem.F.slot_str_strip PySem.F.type_str_strip mt_stripChars (pv 0) (pa_cons pe_str pa_nil)) pe_str (nomark _)))))) (pss_one (ps_ret (pe_un un_neg pe_int))) pss_nil)
      (pss_cons (ps_if (PW.pt (pw_or (PW.pt (pw_and (pt_val (pe_m1 PySem.F.slot_str_startswith PySem.F.type_str_startswith mt_startswith (pv 0) pe_str)) (pw_and1 (pt_cmpR op_gt (pe_callB call_len_str (by rfl) T.f_len (by decide +kernel) (pa_cons (pv 0) pa_nil)) pe_int (nomark _))))) (pw_or1 (pt_cmpR op_gt (pe_callTy call_int_str (by rfl) T.f_int (by decide +kernel) (pa_cons (pv 0) pa_nil)) (pv 1) (nomark _))))) (pss_one (ps_ret (pe_un un_neg pe_int))) pss_nil)
      (pss_one (ps_ret (pe_callTy call_int_str (by rfl) T.f_int (by decide +kernel) (pa_cons (pv 0) pa_nil)))))), ?_⟩
  have hl := len_tl f
  have hst : tl (Txt.stripChars f "0123456789") = [] ↔ (tl f).all isDig = true := by
    rw [strip_nil, List.all_eq_true]
    exact ⟨fun h c hc => (mem_figs c).mp (h c hc), fun h c hc => (mem_figs c).mpr (h c hc)⟩
  have neg : numIn (tl f) m = -1 → ∀ (σ : L2.St) (D : Ends), D.rt = Q → tRet (tUn (rU fun i => .int (-i)) (tC (.int 1))) D σ H := fun e σ D hD => by
    rw [e] at q
    exact ⟨_, rfl, hD ▸ q⟩
  refine ⟨_, rfl, rfl, _, rfl, ?_⟩
  rw [dstr, tl_emp]
  refine ite2 (fun h1 => iteT ?_) (fun h1 => ?_)
  · exact neg (if_pos (.inl (of_decide_eq_true h1))) _ _ rfl
  replace h1 : ¬ tl f = [] := fun z => h1 (decide_eq_true z)
  refine ⟨_, rfl, _, rfl, line_le hf, _, _, rfl, rfl, _, rfl, ?_⟩
  refine ite2 (fun h2 => iteT ?_) (fun h2 => ?_)
  · have := of_decide_eq_true h2
    exact neg (if_pos (.inr (.inl (by omega)))) _ _ rfl
  replace h2 : ¬ 4 < (tl f).length := fun z => h2 (decide_eq_true (by omega))
  refine ⟨_, rfl, rfl, _, _, rfl, rfl, line_le hf, rfl, _, rfl, ?_⟩
  rw [dstr, tl_emp]
  refine ite2 (fun h3 => ?_) (fun h3 => ?_)
  · refine neg (if_pos (.inr (.inr ?_))) _ _ rfl
    cases e : (tl f).all isDig with
    | false => rfl
    | true =>
      rw [decide_eq_true (hst.mpr e)] at h3
      cases h3
  have h3' : (tl f).all isDig = true := by
    refine hst.mp (Classical.byContradiction fun z => h3 ?_)
    rw [decide_eq_false z]
    rfl
  have hv : PySem.intText? f = some ((NumText.digitsVal (tl f) : Nat) : Int) := PySem.intText_digits (fun c hc => (isDig_iff c).mp (List.all_eq_true.mp h3' c hc)) h1 (by omega)
  have hno : ¬ (tl f = [] ∨ 4 < (tl f).length ∨ (tl f).all isDig = false) := by
    rintro (e | e | e)
    · exact h1 e
    · exact h2 e
    · rw [h3'] at e
      cases e
  have hnum : numIn (tl f) m = if ((tl f).head? = some 48 ∧ 1 < (tl f).length) ∨ m < (NumText.digitsVal (tl f) : Int) then -1 else (NumText.digitsVal (tl f) : Int) := if_neg hno
  refine ⟨_, rfl, ⟨_, rfl⟩, _, _, rfl, rfl, _, rfl, ?_⟩
  rw [starts1 f "0" 48 tl_0]
  have rest : ∀ D : Ends, D.rt = Q → ((tl f).head? = some 48 ∧ 1 < (tl f).length → False) → m < (NumText.digitsVal (tl f) : Int) ∨ Q (.int (NumText.digitsVal (tl f) : Int)) H := fun D hD hh => by
    by_cases hm : m < (NumText.digitsVal (tl f) : Int)
    · exact .inl hm
    · rw [hnum, if_neg (by rintro (z | z); exact hh z; exact hm z)] at q
      exact .inr q
  refine ite2 (fun h4 => ?_) (fun h4 => ?_)
  · have h4' : (tl f).head? = some 48 := eq_of_beq h4
    refine ⟨_, rfl, _, rfl, line_le hf, _, _, rfl, rfl, _, rfl, ?_⟩
    refine ite2 (fun h5 => iteT ?_) (fun h5 => ?_)
    · have := of_decide_eq_true h5
      exact neg (by rw [hnum]; exact if_pos (.inl ⟨h4', by omega⟩)) _ _ rfl
    · have h5' : ¬ 1 < (tl f).length := fun z => h5 (decide_eq_true (by omega))
      refine ⟨_, rfl, _, _, rfl, hv, by omega, _, rfl, _, _, rfl, rfl, _, rfl, ?_⟩
      refine ite2 (fun h6 => ?_) (fun h6 => ?_)
      · have := of_decide_eq_true h6
        exact neg (by rw [hnum]; exact if_pos (.inr this)) _ _ rfl
      · refine ⟨_, rfl, _, _, rfl, hv, by omega, ?_⟩
        have h6' : ¬ m < (NumText.digitsVal (tl f) : Int) := fun z => h6 (decide_eq_true z)
        rw [hnum, if_neg (by rintro (z | z); exact h5' z.2; exact h6' z)] at q
        exact q
  · have h4' : ¬ (tl f).head? = some 48 := fun z => h4 (beq_iff_eq.mpr z)
    refine iteF ?_
    refine ⟨_, rfl, _, _, rfl, hv, by omega, _, rfl, _, _, rfl, rfl, _, rfl, ?_⟩
    refine ite2 (fun h6 => ?_) (fun h6 => ?_)
    · have := of_decide_eq_true h6
      exact neg (by rw [hnum]; exact if_pos (.inr this)) _ _ rfl
    · refine ⟨_, rfl, _, _, rfl, hv, by omega, ?_⟩
      have h6' : ¬ m < (NumText.digitsVal (tl f) : Int) := fun z => h6 (decide_eq_true z)
      rw [hnum, if_neg (by rintro (z | z); exact h4' z.1; exact h6' z)] at q
      exact q
end
/-! ### a kind by its word -/
def plainKinds : List Kd := [⟨.src, 0⟩, ⟨.snk, 0⟩, ⟨.both, 0⟩, ⟨.either, 0⟩, ⟨.odd, 0⟩, ⟨.plus, 0⟩, ⟨.pick, 0⟩]
def countedKind (z : Str) : Option Kd :=
  if numIn (tl (Txt.partition z ":").2.2) 63 < 1 then none
  else if tl (Txt.partition z ":").1 = tl "up" then some ⟨.up, numIn (tl (Txt.partition z ":").2.2) 63⟩
  else if tl (Txt.partition z ":").1 = tl "down" then some ⟨.down, numIn (tl (Txt.partition z ":").2.2) 63⟩
  else none
def kindBy (z : Str) : Option Kd := match plainKinds.find? (fun k => decide (tl k.word = tl z)) with
  | some k => some k
  | none => countedKind z
/-- a kind, newly made, or None -/
def KRes (K : PySem.W.Frag) (H H' : Hp) (v : V) : Option Kd → Prop
  | none => v = .non
  | some k => ∃ a, v = .ref a ∧ H a = none ∧ KindAt K H' a k
def spKindBy (K : PySem.W.Frag) : Sp := fun vs H Q _ => ∃ z : Str, vs = [.str z] ∧ z.length ≤ 100000 ∧ ∀ v H', Same H H' → KRes K H H' v (kindBy z) → Q v H'
theorem KindAt.mono {K : PySem.W.Frag} {H H' : Hp} {a : Addr} {k : Kd} (e : Same H H') (h : KindAt K H a k) : KindAt K H' a k := by
  obtain ⟨dx, h⟩ := h
  exact ⟨dx, e _ _ h⟩
theorem plain_ok {k : Kd} (h : k ∈ plainKinds) : k.ok := by
  simp only [plainKinds, List.mem_cons, List.not_mem_nil, or_false] at h
  rcases h with rfl | rfl | rfl | rfl | rfl | rfl | rfl <;> (intro z; cases z)
section
variable {P : Program} {w : World} {K : PySem.W.Frag} {mg : Str → Option Value} {base : Heap}
theorem ok_kind_by (T : Txt K mg) : Ok P w K mg base 3 (ga K "kind_by") ["word"] (spKindBy K) := by
  have G_number_in := ok_number_in (P := P) (w := w) (base := base) T
  have G_kind_word := ok_kind_word (P := P) (w := w) (base := base) T
  have G_Up_init := ok_Up_init (P := P) (w := w) (base := base) T
  have G_Down_init := ok_Down_init (P := P) (w := w) (base := base) T
  refine mkOk T.F_kind_by sc_kind_by (fun _ _ _ _ _ _ us hl => match us, hl with | [_], _ => rfl) (by rintro vs H Q E ⟨_, rfl, _⟩; rfl) (fun cdv A outer s H vs Q E hr h => ?_)
  obtain ⟨z, rfl, hz, q⟩ := h
  refine ⟨_, (pss_cons (ps_for PassesOwn.never rfl (piT (K := K) (pe_tup (pa_cons (pe_makeO0 T.mo_Source T.g_Source) (pa_cons (pe_makeO0 T.mo_Sink T.g_Sink) (pa_cons (pe_makeO0 T.mo_Both T.g_Both) (pa_cons (pe_makeO0 T.mo_Either T.g_Either) (pa_cons (pe_makeO0 T.mo_Odd T.g_Odd) (pa_cons (pe_makeO0 T.mo_Plus T.g_Plus) (pa_cons (pe_makeO0 T.mo_Pick T.g_Pick) pa_nil))))))))) (pg_name (i := 1) sc_kind_by.nd rfl (by first | exact Or.inl rfl | exact Or.inr rfl))
      (pss_one (ps_if (pt_cmpR op_eq (pe_ex fun c => (G_kind_word c).use fun fd F b => pe_meth0 (pv 1) (T.ck c) (T.mk_word_ c) F (hr.mono (by decide)) b .nil pass0) (pv 0) (nomark _)) (pss_one (ps_ret (pv 1))) pss_nil)))
      (pss_cons (ps_asg (pe_partition (pv 0) pe_str) (pg_tup rfl (pgs_cons (pg_name (i := 2) sc_kind_by.nd rfl (by first | exact Or.inl rfl | exact Or.inr rfl)) (pgs_cons (pg_name (i := 3) sc_kind_by.nd rfl (by first | exact Or.inl rfl | exact Or.inr rfl)) (pgs_cons (pg_name (i := 4) sc_kind_by.nd rfl (by first | exact Or.inl rfl | exact Or.inr rfl)) pgs_nil)))))
      (pss_cons (ps_set (i := 5) sc_kind_by.nd rfl (by first | exact Or.inl rfl | exact Or.inr rfl) (pe_callO G_number_in (hr.mono (by decide)) T.g_number_in (pa_cons (pv 4) (pa_cons pe_int pa_nil))))
      (pss_cons (ps_if (pt_cmpR op_lt (pv 5) pe_int (nomark _)) (pss_one (ps_ret pe_non)) pss_nil)
      (pss_cons (ps_if (pt_cmpR op_eq (pv 2) pe_str (nomark _)) (pss_one (ps_ret (pe_makeO T.mk_Up G_Up_init (hr.mono (by decide)) T.g_Up (pa_cons (pv 5) pa_nil)))) pss_nil)
      (pss_cons (ps_if (pt_cmpR op_eq (pv 2) pe_str (nomark _)) (pss_one (ps_ret (pe_makeO T.mk_Down G_Down_init (hr.mono (by decide)) T.g_Down (pa_cons (pv 5) pa_nil)))) pss_nil)
      (pss_one (ps_ret pe_non)))))))), ?_⟩
  intro x0 d0 n0 m0 e0
  obtain ⟨s0, k0⟩ := new_obj (C := ga K "Source") n0 m0
  revert s0 k0
  generalize upd (upd H d0 (HO.own x0)) x0 (HO.ins (ga K "Source") d0 []) = H1
  intro s0 k0
  have t1 : Same H H1 := s0
  intro x1 d1 n1 m1 e1
  obtain ⟨s1, k1⟩ := new_obj (C := ga K "Sink") n1 m1
  revert s1 k1
  generalize upd (upd H1 d1 (HO.own x1)) x1 (HO.ins (ga K "Sink") d1 []) = H2
  intro s1 k1
  have t2 : Same H H2 := Same.trans t1 s1
  intro x2 d2 n2 m2 e2
  obtain ⟨s2, k2⟩ := new_obj (C := ga K "Both") n2 m2
  revert s2 k2
  generalize upd (upd H2 d2 (HO.own x2)) x2 (HO.ins (ga K "Both") d2 []) = H3
  intro s2 k2
  have t3 : Same H H3 := Same.trans t2 s2
  intro x3 d3 n3 m3 e3
  obtain ⟨s3, k3⟩ := new_obj (C := ga K "Either") n3 m3
  revert s3 k3
  generalize upd (upd H3 d3 (HO.own x3)) x3 (HO.ins (ga K "Either") d3 []) = H4
  intro s3 k3
  have t4 : Same H H4 := Same.trans t3 s3
  intro x4 d4 n4 m4 e4
  obtain ⟨s4, k4⟩ := new_obj (C := ga K "Odd") n4 m4
  revert s4 k4
  generalize upd (upd H4 d4 (HO.own x4)) x4 (HO.ins (ga K "Odd") d4 []) = H5
  intro s4 k4
  have t5 : Same H H5 := Same.trans t4 s4
  intro x5 d5 n5 m5 e5
  obtain ⟨s5, k5⟩ := new_obj (C := ga K "Plus") n5 m5
  revert s5 k5
  generalize upd (upd H5 d5 (HO.own x5)) x5 (HO.ins (ga K "Plus") d5 []) = H6
  intro s5 k5
  have t6 : Same H H6 := Same.trans t5 s5
  intro x6 d6 n6 m6 e6
  obtain ⟨s6, k6⟩ := new_obj (C := ga K "Pick") n6 m6
  revert s6 k6
  generalize upd (upd H6 d6 (HO.own x6)) x6 (HO.ins (ga K "Pick") d6 []) = H7
  intro s6 k6
  have t7 : Same H H7 := Same.trans t6 s6
  refine ⟨(by show 7 ≤ sizeLine; decide), fun p hp => ⟨p, rfl, ⟨_, SqT.of upd_same⟩, ?_⟩⟩
  have s7 : Same H7 (upd H7 p (.tup [.ref x0, .ref x1, .ref x2, .ref x3, .ref x4, .ref x5, .ref x6])) := Same.new hp
  have hx : ∀ (i : Nat) (x : V), ([.ref x0, .ref x1, .ref x2, .ref x3, .ref x4, .ref x5, .ref x6] : List V)[i]? = some x → ∃ (a : Addr) (k : Kd), x = .ref a ∧ plainKinds[i]? = some k ∧ KindAt K (upd H7 p (.tup [.ref x0, .ref x1, .ref x2, .ref x3, .ref x4, .ref x5, .ref x6])) a k ∧ H a = none := by
    intro i x hi
    match i, hi with
    | 0, hi => cases hi; exact ⟨x0, _, rfl, rfl, ⟨d0, s7 _ _ (s6 _ _ (s5 _ _ (s4 _ _ (s3 _ _ (s2 _ _ (s1 _ _ k0))))))⟩, n0⟩
    | 1, hi => cases hi; exact ⟨x1, _, rfl, rfl, ⟨d1, s7 _ _ (s6 _ _ (s5 _ _ (s4 _ _ (s3 _ _ (s2 _ _ k1)))))⟩, t1.free n1⟩
    | 2, hi => cases hi; exact ⟨x2, _, rfl, rfl, ⟨d2, s7 _ _ (s6 _ _ (s5 _ _ (s4 _ _ (s3 _ _ k2))))⟩, t2.free n2⟩
    | 3, hi => cases hi; exact ⟨x3, _, rfl, rfl, ⟨d3, s7 _ _ (s6 _ _ (s5 _ _ (s4 _ _ k3)))⟩, t3.free n3⟩
    | 4, hi => cases hi; exact ⟨x4, _, rfl, rfl, ⟨d4, s7 _ _ (s6 _ _ (s5 _ _ k4))⟩, t4.free n4⟩
    | 5, hi => cases hi; exact ⟨x5, _, rfl, rfl, ⟨d5, s7 _ _ (s6 _ _ k5)⟩, t5.free n5⟩
    | 6, hi => cases hi; exact ⟨x6, _, rfl, rfl, ⟨d6, s7 _ _ k6⟩, t6.free n6⟩
    | i + 7, hi => simp at hi
  have t8 := Same.trans t7 s7
  have hxs : ([.ref x0, .ref x1, .ref x2, .ref x3, .ref x4, .ref x5, .ref x6] : List V).length = 7 := rfl
  have hsq : SqT K (upd H7 p (.tup [.ref x0, .ref x1, .ref x2, .ref x3, .ref x4, .ref x5, .ref x6])) p [.ref x0, .ref x1, .ref x2, .ref x3, .ref x4, .ref x5, .ref x6] := SqT.of upd_same
  revert hx t8 hxs hsq
  clear s7
  generalize upd H7 p (HO.tup [.ref x0, .ref x1, .ref x2, .ref x3, .ref x4, .ref x5, .ref x6]) = H8
  generalize ([.ref x0, .ref x1, .ref x2, .ref x3, .ref x4, .ref x5, .ref x6] : List V) = xs
  intro hx t8 hxs hsq
  refine for_tup (K := K) (a := p) (xs := xs) (fun i σ H' => ∃ v, σ = [some (.str z), v, none, none, none, none] ∧ H' = H8 ∧ (plainKinds.take i).find? (fun k => decide (tl k.word = tl z)) = none)
    ⟨none, rfl, rfl, rfl⟩ (fun i σ H' _ h => by obtain ⟨_, _, rfl, _⟩ := h; exact hsq) ?_ ?_
  · rintro i x σ H' hi ⟨v, rfl, rfl, hf⟩
    obtain ⟨a, k, rfl, hk, ⟨dx, ha⟩, hn⟩ := hx i x hi
    have hkm : k ∈ plainKinds := List.mem_of_getElem? hk
    refine ⟨k.c, _, rfl, a, dx, _, rfl, ha, flds_no _ (by decide +kernel), a, k, rfl, ⟨dx, ha⟩, rfl, plain_ok hkm, _, rfl, rfl, _, rfl, ?_⟩
    rw [dstr]
    have htk : plainKinds.take (i + 1) = plainKinds.take i ++ [k] := by
      rw [List.take_succ, hk] <;> rfl
    refine ite2 (fun h1 => ?_) (fun h1 => ?_)
    · refine ⟨_, rfl, ?_⟩
      have e : kindBy z = some k := by
        have e1 : plainKinds.find? (fun k => decide (tl k.word = tl z)) = some k := by
          rw [← List.take_append_drop (i + 1) plainKinds, htk, List.append_assoc, List.find?_append, hf]
          rw [Option.none_or, List.singleton_append, List.find?_cons, h1]
        unfold kindBy
        rw [e1]
      exact q _ _ t8 (by rw [e]; exact ⟨a, rfl, hn, dx, ha⟩)
    · refine ⟨_, rfl, rfl, ?_⟩
      rw [htk, List.find?_append, hf]
      rw [Option.none_or, List.find?_cons, Bool.eq_false_iff.mpr h1] <;> rfl
  · rintro σ H' ⟨v, rfl, rfl, hf⟩
    have e0 : kindBy z = countedKind z := by
      rw [hxs] at hf
      have e1 : plainKinds.find? (fun k => decide (tl k.word = tl z)) = none := hf
      unfold kindBy
      rw [e1]
    rw [e0] at q
    refine ⟨_, rfl, ⟨_, rfl⟩, _, _, rfl, rfl, rfl, line_le hz, fun t ht => ?_⟩
    have s8 := Same.trans t8 (Same.new (o := .tup [.str (Txt.partition z ":").1, .str (Txt.partition z ":").2.1, .str (Txt.partition z ":").2.2]) ht)
    refine ⟨t, _, rfl, SqT.of upd_same, rfl, _, _, rfl, _, _, rfl, _, _, rfl, rfl, ?_⟩
    refine ⟨_, rfl, _, _, rfl, Nat.le_trans (part1_len z ":" 58 tl_colon).2 hz, ?_⟩
    refine ⟨_, rfl, _, _, rfl, rfl, _, rfl, ?_⟩
    unfold countedKind at q
    refine ite2 (fun h1 => ?_) (fun h1 => ?_)
    · rw [if_pos (of_decide_eq_true h1)] at q
      exact q _ _ s8 rfl
    · rw [if_neg (fun z => h1 (decide_eq_true z))] at q
      refine ⟨_, rfl, rfl, _, rfl, ?_⟩
      rw [dstr]
      refine ite2 (fun h2 => ?_) (fun h2 => ?_)
      · rw [if_pos (of_decide_eq_true h2)] at q
        refine ⟨_, rfl, ?_⟩
        intro x dx nx mx ex
        refine ⟨x, dx, _, rfl, upd_same, rfl, ?_⟩
        refine q _ _ (fun b o e => ?_) ⟨x, rfl, s8.free nx, dx, upd_same⟩
        rw [upd_ne (ne_of_none (s8 _ _ e) nx), upd_ne (ne_of_none (s8 _ _ e) nx), upd_ne (ne_of_none (s8 _ _ e) mx)]
        exact s8 _ _ e
      · rw [if_neg (fun z => h2 (decide_eq_true z))] at q
        refine ⟨_, rfl, rfl, _, rfl, ?_⟩
        rw [dstr]
        refine ite2 (fun h3 => ?_) (fun h3 => ?_)
        · rw [if_pos (of_decide_eq_true h3)] at q
          refine ⟨_, rfl, ?_⟩
          intro x dx nx mx ex
          refine ⟨x, dx, _, rfl, upd_same, rfl, ?_⟩
          refine q _ _ (fun b o e => ?_) ⟨x, rfl, s8.free nx, dx, upd_same⟩
          rw [upd_ne (ne_of_none (s8 _ _ e) nx), upd_ne (ne_of_none (s8 _ _ e) nx), upd_ne (ne_of_none (s8 _ _ e) mx)]
          exact s8 _ _ e
        · rw [if_neg (fun z => h3 (decide_eq_true z))] at q
          exact q _ _ s8 rfl
end
end SW


/-! ### the law's draws -/
namespace SW
open PySem PySem.Spec PyProof.Rows L2 He TL
def primes : List Int := [1000003, 1000033, 1000037, 1000039, 1000081, 1000099, 1000117, 1000121, 1000133, 1000151, 1000159, 1000171, 1000183, 1000187, 1000193, 1000199]
def prime (k : Nat) : Int := primes.getD (k % 16) 1
def draw (c : Int) (k : Nat) (m : Int) : Int := (c * 48271 + (k : Int) * 69621) % prime k % m
theorem prime_pos (k : Nat) : 0 < prime k := by
  have h : k % 16 < 16 := Nat.mod_lt _ (by decide)
  unfold prime
  generalize k % 16 = i at h
  have : ∀ i < 16, 0 < primes.getD i 1 := by decide
  exact this i h
theorem draw_lo (c : Int) (k : Nat) {m : Int} (h : 0 < m) : 0 ≤ draw c k m := Int.emod_nonneg _ (by omega)
theorem draw_hi (c : Int) (k : Nat) {m : Int} (h : 0 < m) : draw c k m < m := Int.emod_lt_of_pos _ h
def spDraw : Sp := fun vs H Q _ => ∃ (c : Int) (k : Nat) (m : Int), vs = [.int c, .int (k : Int), .int m] ∧ k < 1000 ∧ 0 < m ∧ ∀ H', Same H H' → Q (.int (draw c k m)) H'
theorem at_prime (k : Nat) : atI (primes.map V.int) ((k : Int) % 16) = some (.int (prime k)) := by
  have h : k % 16 < 16 := Nat.mod_lt _ (by decide)
  have e : ((k : Int) % 16) = ((k % 16 : Nat) : Int) := by omega
  rw [e]
  refine atI_nat ?_
  unfold prime
  generalize k % 16 = i at h
  have : ∀ i < 16, (primes.map V.int)[i]? = some (.int (primes.getD i 1)) := by decide
  exact this i h
section
variable {P : Program} {w : World} {K : PySem.W.Frag} {mg : Str → Option Value} {base : Heap}
theorem ok_draw (T : Txt K mg) : Ok P w K mg base 1 (ga K "_law_draw") ["_law_cell", "_law_k", "_law_many_here"] spDraw := by
  refine mkOk T.F_law_draw sc_law_draw (fun _ _ _ _ _ _ us hl => match us, hl with | [_, _, _], _ => rfl) (by rintro vs H Q E ⟨_, _, _, rfl, _⟩; rfl) (fun cdv A outer s H vs Q E hr h => ?_)
  obtain ⟨c, k, m, rfl, hk, hm, q⟩ := h
  refine ⟨_, (pss_cons (ps_set (i := 3) sc_law_draw.nd rfl (by first | exact Or.inl rfl | exact Or.inr rfl) (pe_tup (pa_cons pe_int (pa_cons pe_int (pa_cons pe_int (pa_cons pe_int (pa_cons pe_int (pa_cons pe_int (pa_cons pe_int (pa_cons pe_int (pa_cons pe_int (pa_cons pe_int (pa_cons pe_int (pa_cons pe_int (pa_cons pe_int (pa_cons pe_int (pa_cons pe_int (pa_cons pe_int pa_nil))))))))))))))))))
      (pss_one (ps_ret (pe_op op_mod (pe_op op_mod (pe_op op_add (pe_op op_mul (pv 0) pe_int) (pe_op op_mul (pv 1) pe_int)) (pe_ix (ixT (K := K)) (pv 3) (pe_op op_mod (pv 1) pe_int) (fun _ _ => rfl))) (pv 2))))), ?_⟩
  refine ⟨(by show 16 ≤ sizeLine; decide), fun p hp => ?_⟩
  refine ⟨_, rfl, _, _, rfl, rfl, .inr ⟨by decide, by decide⟩, _, rfl, _, _, rfl, rfl, .inr ⟨by decide, by decide⟩, _, _, rfl, rfl, ?_⟩
  refine ⟨_, rfl, _, rfl, _, _, rfl, rfl, (show (0 : Int) < 16 by decide), p, primes.map V.int, _, _, rfl, rfl, SqT.of upd_same, at_prime k, ?_⟩
  refine ⟨_, _, rfl, rfl, prime_pos k, _, rfl, _, _, rfl, rfl, hm, ?_⟩
  exact q _ (Same.new hp)
end
end SW


/-! ### what a def leaves: G is what stands for good, H all that is tracked -/
namespace SW
open PySem PySem.Spec PyProof.Rows L2 He
structure Grow (G H G' H' : Hp) : Prop where
  gg : Same G G'
  hh : Same H H'
  gh : Same G' H'
  sep : ∀ a o, H a = some o → G a = none → G' a = none
theorem Grow.refl {G H : Hp} (e : Same G H) : Grow G H G H := ⟨Same.refl _, Same.refl _, e, fun _ _ _ h => h⟩
theorem Grow.trans {G H G1 H1 G2 H2 : Hp} (a : Grow G H G1 H1) (b : Grow G1 H1 G2 H2) : Grow G H G2 H2 :=
  ⟨a.gg.trans b.gg, a.hh.trans b.hh, b.gh, fun c o e n => b.sep c o (a.hh c o e) (a.sep c o e n)⟩
/-- a new object that is not for good (yet) -/
theorem Grow.temp {G0 H0 G H : Hp} {p : Addr} {o : HO} (a : Grow G0 H0 G H) (h : H p = none) : Grow G0 H0 G (upd H p o) :=
  ⟨a.gg, a.hh.trans (Same.new h), a.gh.trans (Same.new h), a.sep⟩
/-- a new object for good -/
theorem Grow.new {G0 H0 G H : Hp} {p : Addr} {o : HO} (a : Grow G0 H0 G H) (h : H p = none) : Grow G0 H0 (upd G p o) (upd H p o) := by
  have hg : G p = none := a.gh.free h
  refine ⟨a.gg.trans (Same.new hg), a.hh.trans (Same.new h), fun b u e => ?_, fun c u e n => ?_⟩
  · by_cases hb : b = p
    · subst hb
      rw [upd_same] at e ⊢
      exact e
    · rw [upd_ne hb] at e ⊢
      exact a.gh b u e
  · have : c ≠ p := ne_of_none (a.hh c u e) h
    rw [upd_ne this]
    exact a.sep c u e n
/-- an object of our own changes -/
theorem Grow.mut {G0 H0 G H : Hp} {p : Addr} {o : HO} (a : Grow G0 H0 G H) (h0 : H0 p = none) (hg : G p = none) : Grow G0 H0 G (upd H p o) :=
  ⟨a.gg, fun b u e => by rw [upd_ne (ne_of_none e h0)]; exact a.hh b u e, fun b u e => by rw [upd_ne (ne_of_none e hg)]; exact a.gh b u e, a.sep⟩
/-- an object of our own stands for good from here on -/
theorem Grow.keep {G0 H0 G H : Hp} {p : Addr} {o : HO} (a : Grow G0 H0 G H) (h0 : H0 p = none) (hg : G p = none) (h : H p = some o) : Grow G0 H0 (upd G p o) H := by
  refine ⟨a.gg.trans (Same.new hg), a.hh, fun b u e => ?_, fun c u e n => ?_⟩
  · by_cases hb : b = p
    · subst hb
      rw [upd_same] at e
      rw [h]
      exact e
    · rw [upd_ne hb] at e
      exact a.gh b u e
  · rw [upd_ne (ne_of_none e h0)]
    exact a.sep c u e n
/-- an instance made, not yet for good -/
theorem Grow.make {G0 H0 G H : Hp} {x dx C : Addr} {fs : List (Str × V)} (a : Grow G0 H0 G H) (n : H x = none) (m : H dx = none) : Grow G0 H0 G (upd (upd H dx (.own x)) x (.ins C dx fs)) := by
  have e : Same H (upd (upd H dx (.own x)) x (.ins C dx fs)) := fun b o e => by rw [upd_ne (ne_of_none e n), upd_ne (ne_of_none e m)]; exact e
  exact ⟨a.gg, a.hh.trans e, a.gh.trans e, a.sep⟩

/-! ### lists that agree item by item -/
def All2 {α β : Type} (R : α → β → Prop) (xs : List α) (ys : List β) : Prop := xs.length = ys.length ∧ ∀ (i : Nat) (x : α) (y : β), xs[i]? = some x → ys[i]? = some y → R x y
section
variable {α β : Type} {R S : α → β → Prop} {xs : List α} {ys : List β} {x : α} {y : β}
theorem All2.nil : All2 R [] [] := ⟨rfl, fun i x y h => by simp at h⟩
theorem All2.get (h : All2 R xs ys) {i : Nat} (e : xs[i]? = some x) : ∃ y, ys[i]? = some y ∧ R x y := by
  have hi : i < ys.length := by rw [← h.1]; exact (List.getElem?_eq_some_iff.mp e).1
  exact ⟨ys[i], List.getElem?_eq_getElem hi, h.2 i x _ e (List.getElem?_eq_getElem hi)⟩
theorem All2.get' (h : All2 R xs ys) {i : Nat} (e : ys[i]? = some y) : ∃ x, xs[i]? = some x ∧ R x y := by
  have hi : i < xs.length := by rw [h.1]; exact (List.getElem?_eq_some_iff.mp e).1
  exact ⟨xs[i], List.getElem?_eq_getElem hi, h.2 i _ y (List.getElem?_eq_getElem hi) e⟩
theorem All2.mono (h : All2 R xs ys) (f : ∀ x y, R x y → S x y) : All2 S xs ys := ⟨h.1, fun i x y a b => f x y (h.2 i x y a b)⟩
theorem All2.push (h : All2 R xs ys) (r : R x y) : All2 R (xs ++ [x]) (ys ++ [y]) := by
  refine ⟨by rw [List.length_append, List.length_append, h.1] <;> rfl, fun i a b e1 e2 => ?_⟩
  by_cases hi : i < xs.length
  · rw [List.getElem?_append_left hi] at e1
    rw [List.getElem?_append_left (by rw [← h.1]; exact hi)] at e2
    exact h.2 i a b e1 e2
  · rw [List.getElem?_append_right (by omega)] at e1
    rw [List.getElem?_append_right (by rw [← h.1]; omega), ← h.1] at e2
    cases q : i - xs.length with
    | zero =>
      rw [q] at e1 e2
      cases e1
      cases e2
      exact r
    | succ k =>
      rw [q] at e1
      simp at e1
theorem All2.cons (r : R x y) (h : All2 R xs ys) : All2 R (x :: xs) (y :: ys) := by
  refine ⟨by rw [List.length_cons, List.length_cons, h.1], fun i a b e1 e2 => ?_⟩
  cases i with
  | zero =>
    cases e1
    cases e2
    exact r
  | succ i => exact h.2 i a b (by simpa using e1) (by simpa using e2)
theorem All2.uncons (h : All2 R (x :: xs) (y :: ys)) : R x y ∧ All2 R xs ys :=
  ⟨h.2 0 x y rfl rfl, by have := h.1; simpa using this, fun i a b e1 e2 => h.2 (i + 1) a b (by simpa using e1) (by simpa using e2)⟩
theorem All2.map {γ : Type} {f : γ → α} {g : γ → β} {l : List γ} (h : ∀ c ∈ l, R (f c) (g c)) : All2 R (l.map f) (l.map g) := by
  refine ⟨by rw [List.length_map, List.length_map], fun i a b e1 e2 => ?_⟩
  rw [List.getElem?_map] at e1 e2
  cases q : l[i]? with
  | none =>
    rw [q] at e1
    cases e1
  | some c =>
    rw [q] at e1 e2
    cases e1
    cases e2
    exact h c (List.mem_of_getElem? q)
theorem take_one {α : Type} {l : List α} {i : Nat} {x : α} (h : l[i]? = some x) : l.take (i + 1) = l.take i ++ [x] := by
  rw [List.take_succ, h] <;> rfl
theorem lt_of_get {α : Type} {l : List α} {i : Nat} {x : α} (h : l[i]? = some x) : i < l.length := (List.getElem?_eq_some_iff.mp h).1
end
end SW


/-! ### works as data; how they stand in the heap -/
namespace SW
open PySem PySem.Spec PyProof.Rows L2 He TL
structure Pd where
  name : Str
  kd : Kd
  time : Int
  feeds : List (Str × Int)
  deriving DecidableEq
def Pd.isEnd (p : Pd) : Bool := decide (p.kd.c = .src) || decide (p.kd.c = .snk)
def FeedAt (G : Hp) (v : V) (f : Str × Int) : Prop := ∃ t, v = .ref t ∧ G t = some (.tup [.str f.1, .int f.2])
def partFlds (n : V) (k : V) (t : V) (l : V) : List (Str × V) := [("called", n), ("craft", k), ("takes", t), ("feeds", l)]
structure PartIn (K : PySem.W.Frag) (G : Hp) (a : Addr) (p : Pd) (dx k l : Addr) (vs : List V) : Prop where
  ob : G a = some (.ins (ga K "Part") dx (partFlds (.str p.name) (.ref k) (.int p.time) (.ref l)))
  kd : KindAt K G k p.kd
  ok : p.kd.ok
  ls : G l = some (.lst vs)
  fs : All2 (FeedAt G) vs p.feeds
def PartAt (K : PySem.W.Frag) (G : Hp) (v : V) (p : Pd) : Prop := ∃ a dx k l vs, v = .ref a ∧ PartIn K G a p dx k l vs
structure WorksIn (K : PySem.W.Frag) (G : Hp) (a : Addr) (ps : List Pd) (dx l : Addr) (vs : List V) : Prop where
  ob : G a = some (.ins (ga K "Works") dx [("parts", .ref l)])
  ls : G l = some (.lst vs)
  ps : All2 (PartAt K G) vs ps
def WorksAt (K : PySem.W.Frag) (G : Hp) (a : Addr) (ps : List Pd) : Prop := ∃ dx l vs, WorksIn K G a ps dx l vs
def LineAt (G : Hp) (v : V) (f : Str × Str × Int) : Prop := ∃ t, v = .ref t ∧ G t = some (.tup [.str f.1, .str f.2.1, .int f.2.2])
def linesOf (ps : List Pd) : List (Str × Str × Int) := ps.flatMap fun p => p.feeds.map fun f => (f.1, p.name, f.2)
section
variable {K : PySem.W.Frag} {G G' H : Hp}
theorem FeedAt.mono {v : V} {f : Str × Int} (e : Same G G') (h : FeedAt G v f) : FeedAt G' v f := by
  obtain ⟨t, r, h⟩ := h
  exact ⟨t, r, e _ _ h⟩
theorem LineAt.mono {v : V} {f : Str × Str × Int} (e : Same G G') (h : LineAt G v f) : LineAt G' v f := by
  obtain ⟨t, r, h⟩ := h
  exact ⟨t, r, e _ _ h⟩
theorem PartIn.mono {a : Addr} {p : Pd} {dx k l : Addr} {vs : List V} (e : Same G G') (h : PartIn K G a p dx k l vs) : PartIn K G' a p dx k l vs :=
  ⟨e _ _ h.ob, h.kd.mono e, h.ok, e _ _ h.ls, h.fs.mono fun _ _ z => z.mono e⟩
theorem PartAt.mono {v : V} {p : Pd} (e : Same G G') (h : PartAt K G v p) : PartAt K G' v p := by
  obtain ⟨a, dx, k, l, vs, r, h⟩ := h
  exact ⟨a, dx, k, l, vs, r, h.mono e⟩
theorem WorksIn.mono {a : Addr} {ps : List Pd} {dx l : Addr} {vs : List V} (e : Same G G') (h : WorksIn K G a ps dx l vs) : WorksIn K G' a ps dx l vs :=
  ⟨e _ _ h.ob, e _ _ h.ls, h.ps.mono fun _ _ z => z.mono e⟩
theorem WorksAt.mono {a : Addr} {ps : List Pd} (e : Same G G') (h : WorksAt K G a ps) : WorksAt K G' a ps := by
  obtain ⟨dx, l, vs, h⟩ := h
  exact ⟨dx, l, vs, h.mono e⟩
end
/-! ### promises -/
def spSet4 (C : Addr) (a b c d : Str) : Sp := fun vs H Q _ => ∃ (x dx : Addr) (v1 v2 v3 v4 : V), vs = [.ref x, v1, v2, v3, v4] ∧ H x = some (.ins C dx []) ∧ Q .non (upd H x (.ins C dx [(a, v1), (b, v2), (c, v3), (d, v4)]))
def spSet1 (C : Addr) (a : Str) : Sp := fun vs H Q _ => ∃ (x dx : Addr) (v1 : V), vs = [.ref x, v1] ∧ H x = some (.ins C dx []) ∧ Q .non (upd H x (.ins C dx [(a, v1)]))
def spEnd (K : PySem.W.Frag) : Sp := fun vs H Q _ => ∃ (G : Hp) (v : V) (p : Pd), vs = [v] ∧ Same G H ∧ PartAt K G v p ∧ ∀ H', Same H H' → Q (.bl p.isEnd) H'
def spNames (K : PySem.W.Frag) : Sp := fun vs H Q _ => ∃ (G : Hp) (a : Addr) (ps : List Pd), vs = [.ref a] ∧ Same G H ∧ WorksAt K G a ps ∧ ps.length ≤ 1000 ∧
  ∀ (q : Addr) (H' : Hp), Same H H' → H q = none → H' q = some (.lst (ps.map fun p => V.str p.name)) → Q (.ref q) H'
/-- the part of a name: which one -/
def spPart (K : PySem.W.Frag) : Sp := fun vs H Q _ => ∃ (G : Hp) (a : Addr) (ps : List Pd) (j : Nat) (p : Pd), vs = [.ref a, .str p.name] ∧ Same G H ∧ WorksAt K G a ps ∧ ps.length ≤ 1000 ∧ ps[j]? = some p ∧
  (∀ m q, m < j → ps[m]? = some q → q.name ≠ p.name) ∧ ∀ (v : V) (H' : Hp), Same H H' → PartAt K G v p → Q v H'
def spKindOf (K : PySem.W.Frag) : Sp := fun vs H Q _ => ∃ (G : Hp) (a : Addr) (ps : List Pd) (j : Nat) (p : Pd), vs = [.ref a, .str p.name] ∧ Same G H ∧ WorksAt K G a ps ∧ ps.length ≤ 1000 ∧ ps[j]? = some p ∧
  (∀ m q, m < j → ps[m]? = some q → q.name ≠ p.name) ∧ ∀ (k : Addr) (H' : Hp), Same H H' → KindAt K G k p.kd → Q (.ref k) H'
def spTimeOf (K : PySem.W.Frag) : Sp := fun vs H Q _ => ∃ (G : Hp) (a : Addr) (ps : List Pd) (j : Nat) (p : Pd), vs = [.ref a, .str p.name] ∧ Same G H ∧ WorksAt K G a ps ∧ ps.length ≤ 1000 ∧ ps[j]? = some p ∧
  (∀ m q, m < j → ps[m]? = some q → q.name ≠ p.name) ∧ ∀ (H' : Hp), Same H H' → Q (.int p.time) H'
def spLinesOf (K : PySem.W.Frag) : Sp := fun vs H Q _ => ∃ (G : Hp) (a : Addr) (ps : List Pd), vs = [.ref a] ∧ Same G H ∧ WorksAt K G a ps ∧ (linesOf ps).length ≤ 10000 ∧
  ∀ (q : Addr) (us : List V) (G' H' : Hp), Grow G H G' H' → H q = none → G' q = none → H' q = some (.lst us) → All2 (LineAt G') us (linesOf ps) → Q (.ref q) H'
theorem wst : (Kd.mk .src 0).word = "in" ∧ (Kd.mk .snk 0).word = "out" := ⟨rfl, rfl⟩
theorem tl_up : tl ("up:" : Str) = [117, 112, 58] := by decide +kernel
theorem tl_down : tl ("down:" : Str) = [100, 111, 119, 110, 58] := by decide +kernel
theorem tl_in : tl ("in" : Str) = [105, 110] := by decide +kernel
theorem tl_out : tl ("out" : Str) = [111, 117, 116] := by decide +kernel
theorem isEnd_word (k : Kd) : (k.word = "in" ↔ k.c = .src) ∧ (k.word = "out" ↔ k.c = .snk) := by
  obtain ⟨c, n⟩ := k
  have ne : ∀ {x y : Str}, tl x ≠ tl y → x ≠ y := fun h e => h (by rw [e])
  cases c
  · exact ⟨⟨fun _ => rfl, fun _ => rfl⟩, ⟨fun h => absurd (show ("in" : Str) = "out" from h) (by decide +kernel), fun h => by cases h⟩⟩
  · exact ⟨⟨fun h => absurd (show ("out" : Str) = "in" from h) (by decide +kernel), fun h => by cases h⟩, ⟨fun _ => rfl, fun _ => rfl⟩⟩
  · exact ⟨⟨fun h => absurd (show ("and" : Str) = "in" from h) (by decide +kernel), fun h => by cases h⟩, ⟨fun h => absurd (show ("and" : Str) = "out" from h) (by decide +kernel), fun h => by cases h⟩⟩
  · exact ⟨⟨fun h => absurd (show ("or" : Str) = "in" from h) (by decide +kernel), fun h => by cases h⟩, ⟨fun h => absurd (show ("or" : Str) = "out" from h) (by decide +kernel), fun h => by cases h⟩⟩
  · exact ⟨⟨fun h => absurd (show ("odd" : Str) = "in" from h) (by decide +kernel), fun h => by cases h⟩, ⟨fun h => absurd (show ("odd" : Str) = "out" from h) (by decide +kernel), fun h => by cases h⟩⟩
  · exact ⟨⟨fun h => absurd (show ("plus" : Str) = "in" from h) (by decide +kernel), fun h => by cases h⟩, ⟨fun h => absurd (show ("plus" : Str) = "out" from h) (by decide +kernel), fun h => by cases h⟩⟩
  · exact ⟨⟨fun h => absurd (show ("pick" : Str) = "in" from h) (by decide +kernel), fun h => by cases h⟩, ⟨fun h => absurd (show ("pick" : Str) = "out" from h) (by decide +kernel), fun h => by cases h⟩⟩
  · have e : tl (Kd.word ⟨.up, n⟩) = [117, 112, 58] ++ tl (toString n : Str) := by rw [← tl_up]; exact tl_append _ _
    exact ⟨⟨fun h => absurd h (ne (by rw [e, tl_in]; simp)), fun h => by cases h⟩, ⟨fun h => absurd h (ne (by rw [e, tl_out]; simp)), fun h => by cases h⟩⟩
  · have e : tl (Kd.word ⟨.down, n⟩) = [100, 111, 119, 110, 58] ++ tl (toString n : Str) := by rw [← tl_down]; exact tl_append _ _
    exact ⟨⟨fun h => absurd h (ne (by rw [e, tl_in]; simp)), fun h => by cases h⟩, ⟨fun h => absurd h (ne (by rw [e, tl_out]; simp)), fun h => by cases h⟩⟩
theorem eqV_str (a b : Str) : eqV (.str a) (.str b) = decide (a = b) := by
  show (a == b) = _
  rw [Bool.eq_iff_iff]
  simp
section
variable {P : Program} {w : World} {K : PySem.W.Frag} {mg : Str → Option Value} {base : Heap}
theorem ok_Part_init (T : Txt K mg) : Ok P w K mg base 1 (ma K (ga K "Part") "__init__") ["self", "name", "kind", "time", "feeds"] (spSet4 (ga K "Part") "called" "craft" "takes" "feeds") := by
  refine mkOk T.F_Part_init sc_Part_init (fun _ _ _ _ _ _ us hl => match us, hl with | [_, _, _, _, _], _ => rfl) (by rintro vs H Q E ⟨_, _, _, _, _, _, rfl, _⟩; rfl) (fun cdv A outer s H vs Q E hr h => ?_)
  obtain ⟨x, dx, v1, v2, v3, v4, rfl, hx, q⟩ := h
  refine ⟨_, (pss_cons (ps_fld (pv 0) (pv 1) rfl)
      (pss_cons (ps_fld (pv 0) (pv 2) rfl)
      (pss_cons (ps_fld (pv 0) (pv 3) rfl)
      (pss_one (ps_fld (pv 0) (pv 4) rfl))))), ?_⟩
  refine ⟨_, rfl, _, rfl, x, _, dx, [], rfl, hx, T.c_Part, T.n_Part_called, (by show 0 < 1000; decide), ?_⟩
  refine ⟨_, rfl, _, rfl, x, _, dx, _, rfl, upd_same, T.c_Part, T.n_Part_craft, (by show 1 < 1000; decide), ?_⟩
  refine ⟨_, rfl, _, rfl, x, _, dx, _, rfl, upd_same, T.c_Part, T.n_Part_takes, (by show 2 < 1000; decide), ?_⟩
  refine ⟨_, rfl, _, rfl, x, _, dx, _, rfl, upd_same, T.c_Part, T.n_Part_feeds, (by show 3 < 1000; decide), ?_⟩
  show Q .non _
  rw [upd_upd, upd_upd, upd_upd]
  exact q
theorem ok_Works_init (T : Txt K mg) : Ok P w K mg base 1 (ma K (ga K "Works") "__init__") ["self", "parts"] (spSet1 (ga K "Works") "parts") := by
  refine mkOk T.F_Works_init sc_Works_init (fun _ _ _ _ _ _ us hl => match us, hl with | [_, _], _ => rfl) (by rintro vs H Q E ⟨_, _, _, rfl, _⟩; rfl) (fun cdv A outer s H vs Q E hr h => ?_)
  obtain ⟨x, dx, v1, rfl, hx, q⟩ := h
  refine ⟨_, (pss_one (ps_fld (pv 0) (pv 1) rfl)), ?_⟩
  exact ⟨_, rfl, _, rfl, x, _, dx, [], rfl, hx, T.c_Works, T.n_Works_parts, (by show 0 < 1000; decide), q⟩
theorem ok_Part_end (T : Txt K mg) : Ok P w K mg base 2 (ma K (ga K "Part") "end") ["self"] (spEnd K) := by
  have G_kind_word := ok_kind_word (P := P) (w := w) (base := base) T
  refine mkOk T.F_Part_end sc_Part_end (fun _ _ _ _ _ _ us hl => match us, hl with | [_], _ => rfl) (by rintro vs H Q E ⟨_, _, _, rfl, _⟩; rfl) (fun cdv A outer s H vs Q E hr h => ?_)
  obtain ⟨G, v, p, rfl, sg, ⟨a, dx, k, l, us, rfl, hp⟩, q⟩ := h
  refine ⟨_, (pss_one (ps_ret (pe_cmpR (inQ (K := K)) (pe_ex fun c => (G_kind_word c).use fun fd F b => pe_meth0 (pe_fldK (K := K) (pv 0) rfl) (T.ck c) (T.mk_word_ c) F (hr.mono (by decide)) b .nil pass0) (pe_tup (pa_cons pe_str (pa_cons pe_str pa_nil))) (by rfl)))), ?_⟩
  have ⟨dk, hk⟩ := hp.kd.mono sg
  refine ⟨p.kd.c, _, rfl, a, _, dx, _, _, rfl, sg _ _ hp.ob, T.c_Part, T.n_Part_craft, rfl, k, dk, _, rfl, hk, flds_no _ (by decide +kernel), k, p.kd, rfl, ⟨dk, hk⟩, rfl, hp.ok, ?_⟩
  refine ⟨(by show 2 ≤ sizeLine; decide), fun t ht => ⟨t, _, rfl, .inr (SqT.of upd_same), rfl, rfl, ?_⟩⟩
  have := q _ (Same.new (o := .tup [.str "in", .str "out"]) ht)
  have e : inV (V.str p.kd.word) [.str "in", .str "out"] = p.isEnd := by
    obtain ⟨h1, h2⟩ := isEnd_word p.kd
    show (eqV (.str "in") (.str p.kd.word) || (eqV (.str "out") (.str p.kd.word) || false)) = _
    rw [eqV_str, eqV_str, Bool.or_false]
    unfold Pd.isEnd
    rw [Bool.eq_iff_iff]
    simp only [Bool.or_eq_true, decide_eq_true_eq]
    rw [← h1, ← h2]
    exact ⟨fun z => z.imp Eq.symm Eq.symm, fun z => z.imp Eq.symm Eq.symm⟩
  rw [← e] at this
  exact this
theorem ok_Works_names (T : Txt K mg) : Ok P w K mg base 1 (ma K (ga K "Works") "names") ["self"] (spNames K) := by
  refine mkOk T.F_Works_names sc_Works_names (fun _ _ _ _ _ _ us hl => match us, hl with | [_], _ => rfl) (by rintro vs H Q E ⟨_, _, _, rfl, _⟩; rfl) (fun cdv A outer s H vs Q E hr h => ?_)
  obtain ⟨G, a, ps, rfl, sg, ⟨dx, l, us, hw⟩, hl, q⟩ := h
  refine ⟨_, (pss_one (ps_ret (pe_lc (own := [("part", 1)]) rfl sc_Works_names.nd (piL (K := K) (pe_fldK (K := K) (pv 0) rfl)) (blkOk_by (own := [("part", 1)]) (N := ["self", "part"]) (sc := defScope s_Works_names) (by decide +kernel)) (fun _ _ _ _ _ => (pg_name (i := 1) sc_Works_names.nd rfl (by first | exact Or.inl rfl | exact Or.inr rfl))) (fun _ _ _ _ _ => pts_nil) (fun _ _ _ _ _ => (pe_fldK (K := K) (pv 1) rfl))))), ?_⟩
  refine ⟨_, rfl, a, _, dx, _, _, rfl, sg _ _ hw.ob, T.c_Works, T.n_Works_parts, rfl, l, rfl, ⟨_, SqL.of (sg _ _ hw.ls)⟩, fun D hD => ?_⟩
  refine lc_list (K := K) (a := l) (xs := us) (fun i H' => Same H H' ∧ H' D = some (.lst ((ps.take i).map fun p => V.str p.name))) ⟨Same.new hD, upd_same⟩ (fun i H' _ h => SqL.of (h.1 _ _ (sg _ _ hw.ls))) ?_ ?_
  · rintro i x H' hi ⟨s1, h1⟩
    obtain ⟨p, hpi, b, db, k, m, ws, rfl, hp⟩ := hw.ps.get hi
    refine ⟨rfl, iteT (B := True) ?_⟩
    refine ⟨_, rfl, b, _, db, _, _, rfl, s1 _ _ (sg _ _ hp.ob), T.c_Part, T.n_Part_called, rfl, _, h1, ?_, fun c o e => ?_, ?_⟩
    · rw [List.length_map, List.length_take]
      exact small1000 (by omega)
    · rw [upd_ne (ne_of_none e hD)]
      exact s1 c o e
    · rw [upd_same, take_one hpi, List.map_append] <;> rfl
  · rintro H' ⟨s1, h1⟩
    rw [hw.ps.1, List.take_length] at h1
    exact q D H' s1 hD h1

theorem names_at {ps : List Pd} {j : Nat} {p : Pd} (h : ps[j]? = some p) : (ps.map fun p => V.str p.name)[j]? = some (.str p.name) := by
  rw [List.getElem?_map, h] <;> rfl
theorem flat_names (ps : List Pd) : (ps.map fun p => V.str p.name).all flatV = true := by
  rw [List.all_eq_true]
  intro x hx
  obtain ⟨p, _, rfl⟩ := List.mem_map.mp hx
  rfl
theorem ok_Works_part (T : Txt K mg) : Ok P w K mg base 2 (ma K (ga K "Works") "part") ["self", "name"] (spPart K) := by
  have G_Works_names := ok_Works_names (P := P) (w := w) (base := base) T
  refine mkOk T.F_Works_part sc_Works_part (fun _ _ _ _ _ _ us hl => match us, hl with | [_, _], _ => rfl) (by rintro vs H Q E ⟨_, _, _, _, _, rfl, _⟩; rfl) (fun cdv A outer s H vs Q E hr h => ?_)
  obtain ⟨G, a, ps, j, p, rfl, sg, hwa, hl, hj, hfirst, q⟩ := h
  have ⟨dx, l, us, hw⟩ := hwa
  refine ⟨_, (pss_one (ps_ret (pe_ix (ixL (K := K)) (pe_fldK (K := K) (pv 0) rfl) (pe_bm PySem.F.plainAttrs_list PySem.F.slot_list_index PySem.F.type_list_index (indexK (K := K)) (G_Works_names.use fun fd F b => pe_meth0 (pv 0) T.c_Works T.m_Works_names F (hr.mono (by decide)) b .nil pass0) (pa_cons (pv 1) pa_nil)) (fun _ _ => rfl)))), ?_⟩
  refine ⟨_, rfl, a, _, dx, _, _, rfl, sg _ _ hw.ob, T.c_Works, T.n_Works_parts, rfl, ?_⟩
  refine ⟨_, rfl, a, dx, _, rfl, sg _ _ hw.ob, rfl, G, a, ps, rfl, sg, hwa, hl, fun m H' s1 hm e1 => ?_⟩
  refine ⟨.inl ⟨rfl, _, SqL.of e1⟩, _, rfl, m, _, _, j, _, rfl, rfl, SqL.of e1, rfl, flat_names ps, names_at hj, by rw [eqV_str]; exact decide_eq_true rfl, fun k z' hk hz => ?_, ?_⟩
  · rw [List.getElem?_map] at hz
    cases e : ps[k]? with
    | none =>
      rw [e] at hz
      cases hz
    | some r =>
      rw [e] at hz
      cases hz
      rw [eqV_str]
      exact decide_eq_false (hfirst k r hk e)
  · obtain ⟨v, hv, hp⟩ := hw.ps.get' hj
    exact ⟨l, _, _, v, rfl, rfl, SqL.of (s1 _ _ (sg _ _ hw.ls)), atI_nat hv, q v H' s1 hp⟩
theorem ok_Works_kind (T : Txt K mg) : Ok P w K mg base 3 (ma K (ga K "Works") "kind") ["self", "name"] (spKindOf K) := by
  have G_Works_part := ok_Works_part (P := P) (w := w) (base := base) T
  refine mkOk T.F_Works_kind sc_Works_kind (fun _ _ _ _ _ _ us hl => match us, hl with | [_, _], _ => rfl) (by rintro vs H Q E ⟨_, _, _, _, _, rfl, _⟩; rfl) (fun cdv A outer s H vs Q E hr h => ?_)
  obtain ⟨G, a, ps, j, p, rfl, sg, hwa, hl, hj, hfirst, q⟩ := h
  have ⟨dx, l, us, hw⟩ := hwa
  refine ⟨_, (pss_one (ps_ret (pe_fldK (K := K) (G_Works_part.use fun fd F b => pe_meth (pv 0) T.c_Works T.m_Works_part F (hr.mono (by decide)) b .nil pass0 (pa_cons (pv 1) pa_nil)) rfl))), ?_⟩
  refine ⟨_, rfl, a, dx, _, rfl, sg _ _ hw.ob, rfl, _, rfl, G, a, ps, j, p, rfl, sg, hwa, hl, hj, hfirst, fun v H' s1 hp => ?_⟩
  obtain ⟨b, db, k, m, ws, rfl, hp⟩ := hp
  exact ⟨b, _, db, _, _, rfl, s1 _ _ (sg _ _ hp.ob), T.c_Part, T.n_Part_craft, rfl, q k H' s1 hp.kd⟩
theorem ok_Works_time (T : Txt K mg) : Ok P w K mg base 3 (ma K (ga K "Works") "time") ["self", "name"] (spTimeOf K) := by
  have G_Works_part := ok_Works_part (P := P) (w := w) (base := base) T
  refine mkOk T.F_Works_time sc_Works_time (fun _ _ _ _ _ _ us hl => match us, hl with | [_, _], _ => rfl) (by rintro vs H Q E ⟨_, _, _, _, _, rfl, _⟩; rfl) (fun cdv A outer s H vs Q E hr h => ?_)
  obtain ⟨G, a, ps, j, p, rfl, sg, hwa, hl, hj, hfirst, q⟩ := h
  have ⟨dx, l, us, hw⟩ := hwa
  refine ⟨_, (pss_one (ps_ret (pe_fldK (K := K) (G_Works_part.use fun fd F b => pe_meth (pv 0) T.c_Works T.m_Works_part F (hr.mono (by decide)) b .nil pass0 (pa_cons (pv 1) pa_nil)) rfl))), ?_⟩
  refine ⟨_, rfl, a, dx, _, rfl, sg _ _ hw.ob, rfl, _, rfl, G, a, ps, j, p, rfl, sg, hwa, hl, hj, hfirst, fun v H' s1 hp => ?_⟩
  obtain ⟨b, db, k, m, ws, rfl, hp⟩ := hp
  exact ⟨b, _, db, _, _, rfl, s1 _ _ (sg _ _ hp.ob), T.c_Part, T.n_Part_takes, rfl, q H' s1⟩
theorem linesOf_take {ps : List Pd} {i : Nat} {p : Pd} (h : ps[i]? = some p) : linesOf (ps.take (i + 1)) = linesOf (ps.take i) ++ p.feeds.map fun f => (f.1, p.name, f.2) := by
  unfold linesOf
  rw [take_one h, List.flatMap_append, List.flatMap_singleton]
theorem linesOf_len {ps : List Pd} (i : Nat) : (linesOf (ps.take i)).length ≤ (linesOf ps).length := by
  have e : linesOf ps = linesOf (ps.take i) ++ linesOf (ps.drop i) := by
    unfold linesOf
    rw [← List.flatMap_append, List.take_append_drop]
  rw [e, List.length_append]
  omega
theorem ok_Works_lines (T : Txt K mg) : Ok P w K mg base 1 (ma K (ga K "Works") "lines") ["self"] (spLinesOf K) := by
  refine mkOk T.F_Works_lines sc_Works_lines (fun _ _ _ _ _ _ us hl => match us, hl with | [_], _ => rfl) (by rintro vs H Q E ⟨_, _, _, rfl, _⟩; rfl) (fun cdv A outer s H vs Q E hr h => ?_)
  obtain ⟨G, a, ps, rfl, sg, hwa, hlen, q⟩ := h
  have ⟨dx, l, us, hw⟩ := hwa
  refine ⟨_, (pss_cons (ps_set (i := 1) sc_Works_lines.nd rfl (by first | exact Or.inl rfl | exact Or.inr rfl) (pe_lst pa_nil))
      (pss_cons (ps_for PassesOwn.never rfl (piL (K := K) (pe_fldK (K := K) (pv 0) rfl)) (pg_name (i := 2) sc_Works_lines.nd rfl (by first | exact Or.inl rfl | exact Or.inr rfl))
      (pss_one (ps_for PassesOwn.never rfl (piL (K := K) (pe_fldK (K := K) (pv 2) rfl)) (pg_name (i := 3) sc_Works_lines.nd rfl (by first | exact Or.inl rfl | exact Or.inr rfl))
      (pss_one (ps_expr (pe_bm PySem.F.plainAttrs_list PySem.F.slot_list_append PySem.F.type_list_append mt_append (pv 1) (pa_cons (pe_tup (pa_cons (pe_ix (ixT (K := K)) (pv 3) pe_int (fun _ _ => rfl)) (pa_cons (pe_fldK (K := K) (pv 2) rfl) (pa_cons (pe_ix (ixT (K := K)) (pv 3) pe_int (fun _ _ => rfl)) pa_nil)))) pa_nil)))))))
      (pss_one (ps_ret (pv 1))))), ?_⟩
  refine ⟨Nat.zero_le _, fun p hp => ?_⟩
  have hpG : G p = none := sg.free hp
  refine ⟨_, rfl, a, _, dx, _, _, rfl, (by rw [upd_ne (ne_of_none (sg _ _ hw.ob) hp)]; exact sg _ _ hw.ob), T.c_Works, T.n_Works_parts, rfl, l, rfl, ⟨_, SqL.of (Same.new hp _ _ (sg _ _ hw.ls))⟩, ?_⟩
  refine for_list (K := K) (a := l) (xs := us) (fun i σ H' => ∃ v2 v3 G' ls, σ = [some (.ref a), some (.ref p), v2, v3] ∧ Grow G H G' H' ∧ G' p = none ∧ H' p = some (.lst ls) ∧ All2 (LineAt G') ls (linesOf (ps.take i)))
    ⟨none, none, G, [], rfl, (Grow.refl sg).temp hp, hpG, upd_same, All2.nil⟩ (fun i σ H' _ h => by obtain ⟨_, _, G', _, _, g, _⟩ := h; exact SqL.of (g.gh _ _ (g.gg _ _ hw.ls))) ?_ ?_
  · rintro i x σ H' hi ⟨v2, v3, G', ls, rfl, g, g0, h1, h2⟩
    obtain ⟨pd, hpi, b, db, k, m, ws, rfl, hp1⟩ := hw.ps.get hi
    have hb := g.gh _ _ (g.gg _ _ hp1.ob)
    refine ⟨_, rfl, b, _, db, _, _, rfl, hb, T.c_Part, T.n_Part_feeds, rfl, m, rfl, ⟨_, SqL.of (g.gh _ _ (g.gg _ _ hp1.ls))⟩, ?_⟩
    refine for_list (K := K) (a := m) (xs := ws) (fun j σ H' => ∃ v3 G' ls, σ = [some (.ref a), some (.ref p), some (.ref b), v3] ∧ Grow G H G' H' ∧ G' p = none ∧ H' p = some (.lst ls) ∧ All2 (LineAt G') ls (linesOf (ps.take i) ++ (pd.feeds.take j).map fun f => (f.1, pd.name, f.2)))
      ⟨v3, G', ls, rfl, g, g0, h1, by rw [List.take_zero, List.map_nil, List.append_nil]; exact h2⟩ (fun i σ H' _ h => by obtain ⟨_, G', _, _, g, _⟩ := h; exact SqL.of (g.gh _ _ (g.gg _ _ hp1.ls))) ?_ ?_
    · rintro j y σ H2 hj ⟨v3, G2, ls, rfl, g, g0, h1, h2⟩
      obtain ⟨f, hf, t, rfl, ht⟩ := hp1.fs.get hj
      have ht2 := g.gh _ _ (g.gg _ _ ht)
      have hb2 := g.gh _ _ (g.gg _ _ hp1.ob)
      refine ⟨_, rfl, .inl ⟨rfl, _, SqL.of h1⟩, _, rfl, t, _, _, _, rfl, rfl, SqT.of ht2, at0 _ _, _, rfl, b, _, db, _, _, rfl, hb2, T.c_Part, T.n_Part_called, rfl, _, rfl, t, _, _, _, rfl, rfl, SqT.of ht2, at1 _ _ _, (by show 3 ≤ sizeLine; decide), fun u hu => ?_⟩
      have hpu : p ≠ u := ne_of_none h1 hu
      have hll : ls.length ≤ 10000 := by
        rw [h2.1]
        have e := linesOf_take hpi
        have := linesOf_len (ps := ps) (i + 1)
        rw [e, List.length_append, List.length_map] at this
        rw [List.length_append, List.length_map, List.length_take]
        omega
      refine ⟨p, ls, _, rfl, rfl, by rw [upd_ne hpu]; exact h1, Nat.lt_of_le_of_lt hll (by decide), ?_⟩
      refine ⟨_, upd G2 u (.tup [.str f.1, .str pd.name, .int f.2]), _, rfl, (g.new hu).mut hp (by rw [upd_ne hpu]; exact g0), by rw [upd_ne hpu]; exact g0, upd_same, ?_⟩
      rw [take_one hf, List.map_append, ← List.append_assoc]
      exact (h2.mono fun x y z => z.mono (Same.new (g.gh.free hu))).push ⟨u, rfl, upd_same⟩
    · rintro σ H2 ⟨v3, G2, ls, rfl, g, g0, h1, h2⟩
      refine ⟨_, _, G2, ls, rfl, g, g0, h1, ?_⟩
      rw [hp1.fs.1, List.take_length] at h2
      rw [linesOf_take hpi]
      exact h2
  · rintro σ H' ⟨v2, v3, G', ls, rfl, g, g0, h1, h2⟩
    rw [hw.ps.1, List.take_length] at h2
    exact ⟨_, rfl, q p ls G' H' g hp g0 h1 h2⟩
end
end SW


/-! ### a part read from its words -/
namespace SW
open PySem PySem.Spec PyProof.Rows L2 He TL
def nameSign (c : Nat) : Bool := (decide (97 ≤ c) && decide (c ≤ 122)) || isDig c
def nameSigns : Str := "abcdefghijklmnopqrstuvwxyz0123456789"
theorem tl_signs : tl nameSigns = [97, 98, 99, 100, 101, 102, 103, 104, 105, 106, 107, 108, 109, 110, 111, 112, 113, 114, 115, 116, 117, 118, 119, 120, 121, 122, 48, 49, 50, 51, 52, 53, 54, 55, 56, 57] := by decide +kernel
theorem mem_signs (c : Nat) : c ∈ tl nameSigns ↔ nameSign c = true := by
  rw [tl_signs]
  unfold nameSign
  rw [Bool.or_eq_true, Bool.and_eq_true, decide_eq_true_eq, decide_eq_true_eq, isDig_iff]
  simp only [List.mem_cons, List.not_mem_nil, or_false]
  omega
def goodName (cs : List Nat) : Bool := (decide (1 ≤ cs.length) && decide (cs.length ≤ 8)) && cs.all nameSign
def feedOf (z : Str) : Option (Str × Int) :=
  if goodName (tl (Txt.partition z "/").1) = false then none
  else if tl (Txt.partition z "/").2.1 = [] then some ((Txt.partition z "/").1, 0)
  else if numIn (tl (Txt.partition z "/").2.2) 100 < 0 then none
  else some ((Txt.partition z "/").1, numIn (tl (Txt.partition z "/").2.2) 100)
def partOf : List Str → Option Pd
  | n :: kw :: tw :: fw =>
    if goodName (tl n) = false then none
    else match kindBy kw with
      | none => none
      | some k =>
        if numIn (tl tw) 1000 < 0 ∨ fw.length ≠ k.c.lines then none
        else if none ∈ fw.map feedOf ∨ ((decide (k.c = .src) || decide (k.c = .snk)) = true ∧ 0 < numIn (tl tw) 1000) then none
        else some ⟨n, k, numIn (tl tw) 1000, (fw.map feedOf).filterMap id⟩
  | _ => none
theorem tl_slash : tl ("/" : Str) = [47] := by decide +kernel
def spGood : Sp := fun vs H Q _ => ∃ z : Str, vs = [.str z] ∧ z.length ≤ 100000 ∧ Q (.bl (goodName (tl z))) H
/-- a feed read: None, or a new pair -/
def FRes (H H' : Hp) (v : V) : Option (Str × Int) → Prop
  | none => v = .non
  | some f => ∃ t, v = .ref t ∧ H t = none ∧ H' t = some (.tup [.str f.1, .int f.2])
def spFeedOf : Sp := fun vs H Q _ => ∃ z : Str, vs = [.str z] ∧ z.length ≤ 100000 ∧ ∀ v H', Same H H' → FRes H H' v (feedOf z) → Q v H'
def PRes (K : PySem.W.Frag) (G : Hp) (v : V) : Option Pd → Prop
  | none => v = .non
  | some p => PartAt K G v p
def spPartOf (K : PySem.W.Frag) : Sp := fun vs H Q _ => ∃ (G : Hp) (l : Addr) (ws : List Str), vs = [.ref l] ∧ Same G H ∧ SqL K H l (ws.map V.str) ∧ ws.length ≤ 100000 ∧ (∀ z ∈ ws, z.length ≤ 100000) ∧
  ∀ v G' H', Grow G H G' H' → PRes K G' v (partOf ws) → Q v H'
theorem kindBy_ok {z : Str} {k : Kd} (h : kindBy z = some k) : k.ok := by
  unfold kindBy at h
  cases e : plainKinds.find? (fun k => decide (tl k.word = tl z)) with
  | some k' =>
    rw [e] at h
    cases h
    exact plain_ok (List.mem_of_find?_eq_some e)
  | none =>
    rw [e] at h
    unfold countedKind at h
    have hle := numIn_le (tl (Txt.partition z ":").2.2) (most := 63) (by decide)
    dsimp only at h
    split at h
    · cases h
    · rename_i h1
      split at h
      · cases h
        exact fun _ => ⟨by dsimp only; omega, hle⟩
      · split at h
        · cases h
          exact fun _ => ⟨by dsimp only; omega, hle⟩
        · cases h
/-- what a fresh object is for good -/
theorem Grow.got {G0 H0 G H H' : Hp} {p : Addr} {o : HO} (a : Grow G0 H0 G H) (s : Same H H') (n : H p = none) (h : H' p = some o) : Grow G0 H0 (upd G p o) H' := by
  have hg : G p = none := a.gh.free n
  refine ⟨a.gg.trans (Same.new hg), a.hh.trans s, fun b u e => ?_, fun c u e m => ?_⟩
  · by_cases hb : b = p
    · subst hb
      rw [upd_same] at e
      rw [h]
      exact e
    · rw [upd_ne hb] at e
      exact s _ _ (a.gh b u e)
  · rw [upd_ne (ne_of_none (a.hh _ _ e) n)]
    exact a.sep c u e m
theorem Grow.same {G0 H0 G H H' : Hp} (a : Grow G0 H0 G H) (s : Same H H') : Grow G0 H0 G H' := ⟨a.gg, a.hh.trans s, a.gh.trans s, a.sep⟩
section
variable {P : Program} {w : World} {K : PySem.W.Frag} {mg : Str → Option Value} {base : Heap}
theorem ok_good_name (T : Txt K mg) : Ok P w K mg base 1 (ga K "good_name") ["name"] spGood := by
  refine mkOk T.F_good_name sc_good_name (fun _ _ _ _ _ _ us hl => match us, hl with | [_], _ => rfl) (by rintro vs H Q E ⟨_, rfl, _⟩; rfl) (fun cdv A outer s H vs Q E hr h => ?_)
  obtain ⟨z, rfl, hz, q⟩ := h
  refine ⟨_, (pss_one (ps_ret (pe_and (pe_chain op_le op_le pe_int (pe_callB call_len_str (by rfl) T.f_len (by decide +kernel) (pa_cons (pv 0) pa_nil)) pe_int) (pe_one (pe_cmpR op_eq (pe_bm PySem.F.plainAttrs_str PySem.F.slot_str_strip PySem.F.type_str_strip mt_stripChars (pv 0) (pa_cons pe_str pa_nil)) pe_str (nomark _)))))), ?_⟩
  have hl := len_tl z
  have hst : tl (Txt.stripChars z nameSigns) = [] ↔ (tl z).all nameSign = true := by
    rw [strip_nil, List.all_eq_true]
    exact ⟨fun h c hc => (mem_signs c).mp (h c hc), fun h c hc => (mem_signs c).mpr (h c hc)⟩
  have e1 : decide ((1 : Int) ≤ (z.length : Int)) = decide (1 ≤ (tl z).length) := by rw [hl]; exact decide_eq_decide.mpr (by omega)
  have e2 : decide ((z.length : Int) ≤ 8) = decide ((tl z).length ≤ 8) := by rw [hl]; exact decide_eq_decide.mpr (by omega)
  unfold goodName at q
  refine ⟨_, rfl, _, rfl, line_le hz, _, _, rfl, rfl, _, rfl, ?_⟩
  rw [e1]
  refine ite2 (fun h1 => ?_) (fun h1 => ?_)
  · rw [h1, Bool.true_and] at q
    refine ⟨_, _, rfl, rfl, _, rfl, ?_⟩
    rw [e2]
    refine ite2 (fun h2 => ?_) (fun h2 => ?_)
    · rw [h2, Bool.true_and] at q
      refine ⟨_, rfl, rfl, _, _, rfl, rfl, line_le hz, rfl, ?_⟩
      rw [dstr, tl_emp]
      have : (tl z).all nameSign = decide (tl (Txt.stripChars z nameSigns) = []) := by
        rw [Bool.eq_iff_iff, decide_eq_true_eq]
        exact hst.symm
      rw [this] at q
      exact q
    · rw [Bool.eq_false_iff.mpr h2] at q
      exact q
  · rw [Bool.eq_false_iff.mpr h1] at q
    exact ⟨_, rfl, iteF q⟩
theorem ok_feed_of (T : Txt K mg) : Ok P w K mg base 2 (ga K "feed_of") ["word"] spFeedOf := by
  have G_good_name := ok_good_name (P := P) (w := w) (base := base) T
  have G_number_in := ok_number_in (P := P) (w := w) (base := base) T
  refine mkOk T.F_feed_of sc_feed_of (fun _ _ _ _ _ _ us hl => match us, hl with | [_], _ => rfl) (by rintro vs H Q E ⟨_, rfl, _⟩; rfl) (fun cdv A outer s H vs Q E hr h => ?_)
  obtain ⟨z, rfl, hz, q⟩ := h
  refine ⟨_, (pss_cons (ps_asg (pe_partition (pv 0) pe_str) (pg_tup rfl (pgs_cons (pg_name (i := 1) sc_feed_of.nd rfl (by first | exact Or.inl rfl | exact Or.inr rfl)) (pgs_cons (pg_name (i := 2) sc_feed_of.nd rfl (by first | exact Or.inl rfl | exact Or.inr rfl)) (pgs_cons (pg_name (i := 3) sc_feed_of.nd rfl (by first | exact Or.inl rfl | exact Or.inr rfl)) pgs_nil)))))
      (pss_cons (ps_if (pt_not (pt_val (pe_callO G_good_name (hr.mono (by decide)) T.g_good_name (pa_cons (pv 1) pa_nil)))) (pss_one (ps_ret pe_non)) pss_nil)
      (pss_cons (ps_if (pt_cmpR op_eq (pv 2) pe_str (nomark _)) (pss_one (ps_ret (pe_tup (pa_cons (pv 1) (pa_cons pe_int pa_nil))))) pss_nil)
      (pss_cons (ps_set (i := 4) sc_feed_of.nd rfl (by first | exact Or.inl rfl | exact Or.inr rfl) (pe_callO G_number_in (hr.mono (by decide)) T.g_number_in (pa_cons (pv 3) (pa_cons pe_int pa_nil))))
      (pss_cons (ps_if (pt_cmpR op_lt (pv 4) pe_int (nomark _)) (pss_one (ps_ret pe_non)) pss_nil)
      (pss_one (ps_ret (pe_tup (pa_cons (pv 1) (pa_cons (pv 4) pa_nil)))))))))), ?_⟩
  obtain ⟨l1, l2⟩ := part1_len z "/" 47 tl_slash
  refine ⟨_, rfl, ⟨_, rfl⟩, _, _, rfl, rfl, rfl, line_le hz, fun t ht => ?_⟩
  have s1 := Same.new (o := .tup [.str (Txt.partition z "/").1, .str (Txt.partition z "/").2.1, .str (Txt.partition z "/").2.2]) ht
  refine ⟨t, _, rfl, SqT.of upd_same, rfl, _, _, rfl, _, _, rfl, _, _, rfl, rfl, ?_⟩
  unfold feedOf at q
  refine ⟨_, rfl, _, rfl, Nat.le_trans l1 hz, _, rfl, ?_⟩
  cases hg : goodName (tl (Txt.partition z "/").1) with
  | false =>
    rw [if_pos hg] at q
    exact iteT (q _ _ s1 rfl)
  | true =>
    rw [if_neg (by rw [hg]; simp)] at q
    refine iteF ?_
    refine ⟨_, rfl, rfl, _, rfl, ?_⟩
    rw [dstr, tl_emp]
    refine ite2 (fun h1 => ?_) (fun h1 => ?_)
    · rw [if_pos (of_decide_eq_true h1)] at q
      refine ⟨_, rfl, (by show 2 ≤ sizeLine; decide), fun u hu => ?_⟩
      exact q _ _ (s1.trans (Same.new hu)) ⟨u, rfl, s1.free hu, upd_same⟩
    · rw [if_neg (fun e => h1 (decide_eq_true e))] at q
      refine ⟨_, rfl, _, _, rfl, Nat.le_trans l2 hz, ?_⟩
      refine ⟨_, rfl, _, _, rfl, rfl, _, rfl, ?_⟩
      refine ite2 (fun h2 => ?_) (fun h2 => ?_)
      · rw [if_pos (of_decide_eq_true h2)] at q
        exact q _ _ s1 rfl
      · rw [if_neg (fun e => h2 (decide_eq_true e))] at q
        refine ⟨_, rfl, _, rfl, (by show 2 ≤ sizeLine; decide), fun u hu => ?_⟩
        exact q _ _ (s1.trans (Same.new hu)) ⟨u, rfl, s1.free hu, upd_same⟩

def FeedOpt (G : Hp) (v : V) : Option (Str × Int) → Prop
  | none => v = .non
  | some f => FeedAt G v f
theorem FeedOpt.mono {G G' : Hp} {v : V} {o : Option (Str × Int)} (e : Same G G') (h : FeedOpt G v o) : FeedOpt G' v o := by
  cases o with
  | none => exact h
  | some f => exact FeedAt.mono e h
def toD : Option (Str × Int) → PyData
  | none => .none
  | some f => .tuple [.str f.1, .int f.2]
theorem feedOf_good {z : Str} {f : Str × Int} (h : feedOf z = some f) : goodName (tl f.1) = true ∧ 0 ≤ f.2 ∧ f.2 ≤ 100 := by
  unfold feedOf at h
  have hle := numIn_le (tl (Txt.partition z "/").2.2) (most := 100) (by decide)
  split at h
  · cases h
  · rename_i h1
    have h1' : goodName (tl (Txt.partition z "/").1) = true := by
      cases e : goodName (tl (Txt.partition z "/").1) with
      | true => rfl
      | false => exact absurd e h1
    split at h
    · cases h
      exact ⟨h1', (by show (0 : Int) ≤ 0; decide), (by show (0 : Int) ≤ 100; decide)⟩
    · split at h
      · cases h
      · cases h
        exact ⟨h1', by dsimp only; omega, hle⟩
theorem nameSign_lt {c : Nat} (h : nameSign c = true) : c < 1114112 := by
  unfold nameSign at h
  rw [Bool.or_eq_true, Bool.and_eq_true, decide_eq_true_eq, decide_eq_true_eq, isDig_iff] at h
  omega
theorem goodName_ok {z : Str} (h : goodName (tl z) = true) : PyData.strOk z = true := by
  unfold goodName at h
  rw [Bool.and_eq_true] at h
  show z.cps.all _ = true
  rw [Array.all_eq_true']
  intro c hc
  have := List.all_eq_true.mp h.2 c (by simpa [tl] using hc)
  exact decide_eq_true (nameSign_lt this)
theorem dpFeeds {K : PySem.W.Frag} {G H : Hp} (e : Same G H) : ∀ {vs : List V} {os : List (Option (Str × Int))}, All2 (FeedOpt G) vs os → DpAll K H vs (os.map toD)
  | [], [], _ => .nil
  | [], _ :: _, h => by have := h.1; simp at this
  | _ :: _, [], h => by have := h.1; simp at this
  | v :: vs, o :: os, h => by
    obtain ⟨h1, h2⟩ := h.uncons
    refine .cons ?_ (dpFeeds e h2)
    cases o with
    | none =>
      cases (show v = .non from h1)
      exact .non
    | some f =>
      obtain ⟨t, rfl, ht⟩ := (show FeedAt G v f from h1)
      exact .tup (SqT.of (e _ _ ht)) (.cons (.str _) (.cons (.int _) .nil))
theorem layFeeds : ∀ {os : List (Option (Str × Int))}, (∀ f, some f ∈ os → goodName (tl f.1) = true) → PyData.canLayAll0 (os.map toD) = true ∧ PyData.depthAll (os.map toD) ≤ 1
  | [], _ => ⟨rfl, Nat.zero_le _⟩
  | o :: os, h => by
    obtain ⟨h1, h2⟩ := layFeeds (os := os) fun f hf => h f (List.mem_cons_of_mem _ hf)
    cases o with
    | none =>
      refine ⟨?_, ?_⟩
      · show (PyData.canLay0 .none && PyData.canLayAll0 (os.map toD)) = true
        rw [h1] <;> rfl
      · show max (PyData.depth .none) (PyData.depthAll (os.map toD)) ≤ 1
        exact Nat.max_le.mpr ⟨Nat.zero_le _, h2⟩
    | some f =>
      have h3 := goodName_ok (h f (List.mem_cons_self ..))
      refine ⟨?_, ?_⟩
      · show ((PyData.strOk f.1 && (true && true)) && PyData.canLayAll0 (os.map toD)) = true
        rw [h1, h3] <;> rfl
      · show max (max 0 (max 0 0) + 1) (PyData.depthAll (os.map toD)) ≤ 1
        exact Nat.max_le.mpr ⟨by decide, h2⟩
theorem anyFeeds : ∀ os : List (Option (Str × Int)), ((os.map toD).any fun z => PyData.eqv z .none) = decide (none ∈ os)
  | [] => rfl
  | o :: os => by
    have ih := anyFeeds os
    rw [List.map_cons, List.any_cons, ih]
    cases o with
    | none =>
      show (true || _) = _
      rw [Bool.true_or]
      exact (decide_eq_true (List.mem_cons_self ..)).symm
    | some f =>
      show (false || _) = _
      rw [Bool.false_or]
      exact decide_eq_decide.mpr (by simp)
theorem cut_drop (xs : List V) (n : Nat) : cutV xs (some (n : Int)) none = xs.drop n := by
  unfold cutV
  rw [HT.sIx_none, HT.sIx_nat]
  by_cases h : n ≤ xs.length
  · rw [Nat.min_eq_left h, List.take_of_length_le (by rw [List.length_drop]; exact Nat.le_refl _)]
  · rw [Nat.min_eq_right (by omega), List.drop_length, List.drop_of_length_le (by omega), List.take_nil]
theorem lines_le (c : Kc) : c.lines ≤ 3 := by cases c <;> decide
theorem allSome : ∀ {vs : List V} {os : List (Option (Str × Int))} {G : Hp}, All2 (FeedOpt G) vs os → none ∉ os → All2 (FeedAt G) vs (os.filterMap id)
  | [], [], _, _, _ => All2.nil
  | [], _ :: _, _, h, _ => by have := h.1; simp at this
  | _ :: _, [], _, h, _ => by have := h.1; simp at this
  | v :: vs, o :: os, G, h, hn => by
    obtain ⟨h1, h2⟩ := h.uncons
    cases o with
    | none => exact absurd (List.mem_cons_self ..) hn
    | some f => exact All2.cons h1 (allSome h2 fun m => hn (List.mem_cons_of_mem _ m))
theorem ok_part_of (T : Txt K mg) : Ok P w K mg base 4 (ga K "part_of") ["words"] (spPartOf K) := by
  have G_good_name := ok_good_name (P := P) (w := w) (base := base) T
  have G_number_in := ok_number_in (P := P) (w := w) (base := base) T
  have G_kind_by := ok_kind_by (P := P) (w := w) (base := base) T
  have G_feed_of := ok_feed_of (P := P) (w := w) (base := base) T
  have G_kind_lines := ok_kind_lines (P := P) (w := w) (base := base) T
  have G_Part_init := ok_Part_init (P := P) (w := w) (base := base) T
  have G_Part_end := ok_Part_end (P := P) (w := w) (base := base) T
  refine mkOk T.F_part_of sc_part_of (fun _ _ _ _ _ _ us hl => match us, hl with | [_], _ => rfl) (by rintro vs H Q E ⟨_, _, _, rfl, _⟩; rfl) (fun cdv A outer s H vs Q E hr h => ?_)
  obtain ⟨G, l, ws, rfl, sg, hS, hwl, hzl, q⟩ := h
  refine ⟨_, (pss_cons (ps_if (PW.pt (pw_or (pt_cmpR op_lt (pe_callB (lenQ (K := K)) (by rfl) T.f_len (by decide +kernel) (pa_cons (pv 0) pa_nil)) pe_int (nomark _)) (pw_or1 (pt_not (pt_val (pe_callO G_good_name (hr.mono (by decide)) T.g_good_name (pa_cons (pe_ix (ixL (K := K)) (pv 0) pe_int (fun _ _ => rfl)) pa_nil))))))) (pss_one (ps_ret pe_non)) pss_nil)
      (pss_cons (ps_set (i := 1) sc_part_of.nd rfl (by first | exact Or.inl rfl | exact Or.inr rfl) (pe_callO G_kind_by (hr.mono (by decide)) T.g_kind_by (pa_cons (pe_ix (ixL (K := K)) (pv 0) pe_int (fun _ _ => rfl)) pa_nil)))
      (pss_cons (ps_set (i := 2) sc_part_of.nd rfl (by first | exact Or.inl rfl | exact Or.inr rfl) (pe_callO G_number_in (hr.mono (by decide)) T.g_number_in (pa_cons (pe_ix (ixL (K := K)) (pv 0) pe_int (fun _ _ => rfl)) (pa_cons pe_int pa_nil))))
      (pss_cons (ps_if (PW.pt (pw_or (pt_cmpR op_isN (pv 1) pe_non (nomark _)) (pw_or (pt_cmpR op_lt (pv 2) pe_int (nomark _)) (pw_or1 (pt_cmpR op_ne (pe_callB (lenQ (K := K)) (by rfl) T.f_len (by decide +kernel) (pa_cons (pv 0) pa_nil)) (pe_op op_add pe_int (pe_ex fun c => (G_kind_lines c).use fun fd F b => pe_meth0 (pv 1) (T.ck c) (T.mk_lines_ c) F (hr.mono (by decide)) b .nil pass0)) (nomark _)))))) (pss_one (ps_ret pe_non)) pss_nil)
      (pss_cons (ps_setLc (i := 3) (own := [("word", 4)]) rfl sc_part_of.nd rfl rfl (sw_true rfl rfl rfl (by decide +kernel)) (piL (K := K) (pe_slice (slL (K := K)) (pv 0) (po_some pe_int) po_none)) (blkOk_by (own := [("word", 4)]) (N := ["words", "kind", "time", "feeds", "word", "part"]) (sc := defScope s_part_of) (by decide +kernel)) (fun _ _ _ _ _ => (pg_name (i := 4) sc_part_of.nd rfl (by first | exact Or.inl rfl | exact Or.inr rfl))) (fun _ _ _ _ _ => pts_nil) (fun _ _ _ _ _ => (pe_callO G_feed_of (hr.mono (by decide)) T.g_feed_of (pa_cons (pv 4) pa_nil))))
      (pss_cons (ps_set (i := 5) sc_part_of.nd rfl (by first | exact Or.inl rfl | exact Or.inr rfl) (pe_makeO T.mk_Part G_Part_init (hr.mono (by decide)) T.g_Part (pa_cons (pe_ix (ixL (K := K)) (pv 0) pe_int (fun _ _ => rfl)) (pa_cons (pv 1) (pa_cons (pv 2) (pa_cons (pv 3) pa_nil))))))
      (pss_cons (ps_if (PW.pt (pw_or (pt_cmpR (inDK (K := K) (hu65 hr)) pe_non (pv 3) (by rfl)) (pw_or1 (PW.pt (pw_and (pt_val (G_Part_end.use fun fd F b => pe_meth0 (pv 5) T.c_Part T.m_Part_end F (hr.mono (by decide)) b .nil pass0)) (pw_and1 (pt_cmpR op_gt (pv 2) pe_int (nomark _)))))))) (pss_one (ps_ret pe_non)) pss_nil)
      (pss_one (ps_ret (pv 5)))))))))), ?_⟩
  have g0 := Grow.refl sg
  refine ⟨_, rfl, l, _, rfl, .inl hS, _, _, rfl, rfl, _, rfl, ?_⟩
  rw [List.length_map]
  refine ite2 (fun h1 => iteT ?_) (fun h1 => ?_)
  · have h3 := of_decide_eq_true h1
    refine q _ _ _ g0 ?_
    match ws, h3 with
    | [], _ => exact rfl
    | [_], _ => exact rfl
    | [_, _], _ => exact rfl
    | _ :: _ :: _ :: r, h3 => exfalso; simp only [List.length_cons] at h3; omega
  have h3 : ¬ ws.length < 3 := fun z => h1 (decide_eq_true (by omega))
  obtain ⟨n, kw, tw, fw, rfl⟩ := cons3 (l := ws) (by omega)
  have hzn : n.length ≤ 100000 := hzl n (by simp)
  have hzk : kw.length ≤ 100000 := hzl kw (by simp)
  have hzt : tw.length ≤ 100000 := hzl tw (by simp)
  have hS0 : ∀ {H'}, Same H H' → SqL K H' l (V.str n :: V.str kw :: V.str tw :: fw.map V.str) := fun s => s.seq hS
  have hpd : partOf (n :: kw :: tw :: fw) = if goodName (tl n) = false then none else match kindBy kw with
      | none => none
      | some k => if numIn (tl tw) 1000 < 0 ∨ fw.length ≠ k.c.lines then none
        else if none ∈ fw.map feedOf ∨ ((decide (k.c = .src) || decide (k.c = .snk)) = true ∧ 0 < numIn (tl tw) 1000) then none
        else some ⟨n, k, numIn (tl tw) 1000, (fw.map feedOf).filterMap id⟩ := rfl
  refine ⟨_, rfl, l, _, _, _, rfl, rfl, hS0 (Same.refl _), at0 _ _, n, rfl, hzn, _, rfl, ?_⟩
  cases hgn : goodName (tl n) with
  | false =>
    refine iteT ?_
    rw [hpd, if_pos hgn] at q
    exact q _ _ _ g0 rfl
  | true =>
  refine iteF ?_
  rw [hpd, if_neg (by rw [hgn]; simp)] at q
  -- kind, time
  refine ⟨_, rfl, l, _, _, _, rfl, rfl, hS0 (Same.refl _), at1 _ _ _, kw, rfl, hzk, fun kv H1 s1 kr => ?_⟩
  refine ⟨_, rfl, l, _, _, _, rfl, rfl, hS0 s1, at2 _ _ _ _, _, _, rfl, hzt, ?_⟩
  refine ⟨_, rfl, rfl, _, rfl, ?_⟩
  cases hkb : kindBy kw with
  | none =>
    rw [hkb] at q kr
    cases (show kv = .non from kr)
    exact iteT (iteT (q _ _ _ (g0.same s1) rfl))
  | some k =>
  rw [hkb] at q kr
  obtain ⟨ka, rfl, hka, dk, hk⟩ := kr
  have hkok := kindBy_ok hkb
  refine iteF ?_
  refine ⟨_, rfl, _, _, rfl, rfl, _, rfl, ?_⟩
  dsimp only at q ⊢
  refine ite2 (fun h2 => iteT ?_) (fun h2 => ?_)
  · rw [if_pos (.inl (of_decide_eq_true h2))] at q
    exact q _ _ _ (g0.same s1) rfl
  have h2' : ¬ numIn (tl tw) 1000 < 0 := fun z => h2 (decide_eq_true z)
  refine ⟨_, rfl, l, _, rfl, .inl (hS0 s1), k.c, _, rfl, ka, dk, _, rfl, hk, flds_no _ (by decide +kernel), ka, k, rfl, ⟨dk, hk⟩, rfl, _, _, rfl, rfl, rfl, _, rfl, ?_⟩
  have hlen : decide (V.int ((V.str n :: V.str kw :: V.str tw :: fw.map V.str).length : Int) = V.int (3 + (k.c.lines : Int))) = decide (fw.length = k.c.lines) := by
    refine decide_eq_decide.mpr ⟨fun z => ?_, fun z => ?_⟩
    · have := V.int.inj z
      simp only [List.length_cons, List.length_map] at this
      omega
    · simp only [List.length_cons, List.length_map]
      congr 1
      omega
  rw [hlen]
  by_cases h4 : fw.length = k.c.lines
  rotate_left
  · rw [decide_eq_false h4]
    rw [if_pos (.inr h4)] at q
    exact iteT (q _ _ _ (g0.same s1) rfl)
  rw [decide_eq_true h4]
  refine iteF ?_
  have h5 : ¬ (numIn (tl tw) 1000 < 0 ∨ fw.length ≠ k.c.lines) := fun z => z.elim h2' fun z => z h4
  rw [if_neg h5] at q
  have g1 := g0.got s1 hka hk
  have hkG : (upd G ka (.ins (ga K k.c.nm) dk k.flds)) ka = some (.ins (ga K k.c.nm) dk k.flds) := upd_same
  revert g1 hkG
  generalize upd G ka (HO.ins (ga K k.c.nm) dk k.flds) = G1
  intro g1 hkG
  -- the feeds
  refine ⟨_, rfl, _, rfl, l, _, rfl, hS0 s1, fun p hp => ?_⟩
  have ecut : cutV (V.str n :: V.str kw :: V.str tw :: fw.map V.str) (some 3) none = fw.map V.str := cut_drop _ 3
  rw [ecut]
  refine ⟨p, rfl, ⟨_, SqL.of upd_same⟩, fun D hD => ?_⟩
  have hDp : D ≠ p := fun z => by rw [z, upd_same] at hD; cases hD
  have hD1 : H1 D = none := by rw [upd_ne hDp] at hD; exact hD
  have hDH : H D = none := g1.hh.free hD1
  have hDG : G1 D = none := g1.gh.free hD1
  have g2 : Grow G H G1 (upd (upd H1 p (.lst (fw.map V.str))) D (.lst [])) := (g1.temp hp).temp hD
  refine lc_list (K := K) (a := p) (xs := fw.map V.str) (fun i H' => ∃ G' fs, Grow G H G' H' ∧ Same G1 G' ∧ G' D = none ∧ H' D = some (.lst fs) ∧ H' p = some (.lst (fw.map V.str)) ∧ All2 (FeedOpt G') fs ((fw.take i).map feedOf))
    ⟨G1, [], g2, Same.refl _, hDG, upd_same, by rw [upd_ne hDp.symm, upd_same], All2.nil⟩ (fun i H' _ h => by obtain ⟨_, _, _, _, _, _, h, _⟩ := h; exact SqL.of h) ?_ ?_
  · rintro i x H2 hi ⟨G2, fs, g, gs, d0, d1, hp2, hA⟩
    rw [List.getElem?_map] at hi
    cases e : fw[i]? with
    | none => rw [e] at hi; cases hi
    | some z =>
    rw [e] at hi
    cases hi
    refine ⟨rfl, iteT (B := True) ?_⟩
    refine ⟨_, rfl, z, rfl, hzl z (by simp only [List.mem_cons]; exact .inr (.inr (.inr (List.mem_of_getElem? e)))), fun v H3 s3 fr => ?_⟩
    have hil : fs.length ≤ 3 := by
      rw [hA.1, List.length_map, List.length_take]
      have := lines_le k.c
      omega
    refine ⟨fs, s3 _ _ d1, small1000 (by omega), ?_⟩
    have hpD : p ≠ D := hDp.symm
    cases ef : feedOf z with
    | none =>
      rw [ef] at fr
      cases (show v = .non from fr)
      refine ⟨G2, _, (g.same s3).mut hDH d0, gs, d0, upd_same, by rw [upd_ne hpD]; exact s3 _ _ hp2, ?_⟩
      rw [take_one e, List.map_append]
      exact hA.push (show FeedOpt G2 .non (feedOf z) by rw [ef]; exact rfl)
    | some f =>
      rw [ef] at fr
      obtain ⟨t, rfl, ht0, ht1⟩ := fr
      have htD : t ≠ D := (ne_of_none d1 ht0).symm
      refine ⟨upd G2 t (.tup [.str f.1, .int f.2]), _, (g.got s3 ht0 ht1).mut hDH (by rw [upd_ne htD.symm]; exact d0), gs.trans (Same.new (g.gh.free ht0)), by rw [upd_ne htD.symm]; exact d0, upd_same, by rw [upd_ne hpD]; exact s3 _ _ hp2, ?_⟩
      rw [take_one e, List.map_append]
      exact (hA.mono fun _ _ z => z.mono (Same.new (g.gh.free ht0))).push (show FeedOpt _ (.ref t) (feedOf z) by rw [ef]; exact ⟨t, rfl, upd_same⟩)
  rintro H2 ⟨G2, fs, g, gs, d0, d1, _, hA⟩
  rw [List.length_map, List.take_length] at hA
  -- the part
  refine ⟨_, rfl, l, _, _, _, rfl, rfl, g.hh.seq hS, at0 _ _, _, rfl, _, rfl, _, rfl, ?_⟩
  intro x dx nx mx ex
  refine ⟨x, dx, _, _, _, _, rfl, upd_same, ⟨rfl, ?_⟩⟩
  rw [upd_upd]
  have g3 := g.make (C := ga K "Part") (fs := [("called", .str n), ("craft", .ref ka), ("takes", .int (numIn (tl tw) 1000)), ("feeds", .ref D)]) nx mx
  have d3 : (upd (upd H2 dx (.own x)) x (.ins (ga K "Part") dx [("called", .str n), ("craft", .ref ka), ("takes", .int (numIn (tl tw) 1000)), ("feeds", .ref D)])) D = some (.lst fs) := by
    rw [upd_ne (ne_of_none d1 nx), upd_ne (ne_of_none d1 mx)]
    exact d1
  have x3 : (upd (upd H2 dx (.own x)) x (.ins (ga K "Part") dx [("called", .str n), ("craft", .ref ka), ("takes", .int (numIn (tl tw) 1000)), ("feeds", .ref D)])) x = some (.ins (ga K "Part") dx [("called", .str n), ("craft", .ref ka), ("takes", .int (numIn (tl tw) 1000)), ("feeds", .ref D)]) := upd_same
  revert g3 d3 x3
  show Grow _ _ _ (upd (upd H2 dx (HO.own x)) x (HO.ins (ga K "Part") dx [("called", .str n), ("craft", .ref ka), ("takes", .int (numIn (tl tw) 1000)), ("feeds", .ref D)])) → _ → _ → _
  generalize upd (upd H2 dx (HO.own x)) x (HO.ins (ga K "Part") dx [("called", .str n), ("craft", .ref ka), ("takes", .int (numIn (tl tw) 1000)), ("feeds", .ref D)]) = H3
  intro g3 d3 x3
  have hgood : ∀ f, some f ∈ fw.map feedOf → goodName (tl f.1) = true := fun f hf => by
    obtain ⟨z, _, hz⟩ := List.mem_map.mp hf
    exact (feedOf_good hz).1
  obtain ⟨lay, dep⟩ := layFeeds hgood
  have shp : SeqAt.shaped (.list ((fw.map feedOf).map toD)) = true := by
    show (PyData.canLayAll0 _ && decide (PyData.depthAll _ + 1 ≤ 64)) = true
    rw [lay]
    exact decide_eq_true (by omega)
  refine ⟨_, rfl, .none, _, .non, .lst (SqL.of d3) (dpFeeds g3.gh hA), rfl, shp, ?_⟩
  rw [anyFeeds]
  refine ⟨_, rfl, ?_⟩
  by_cases hno : none ∈ fw.map feedOf
  · rw [decide_eq_true hno]
    rw [if_pos (.inl hno)] at q
    exact iteT (iteT (q _ _ _ g3 rfl))
  rw [decide_eq_false hno]
  refine iteF ?_
  have hall := allSome hA hno
  have hxH : H x = none := g.hh.free nx
  have hxG : G2 x = none := g.gh.free nx
  have hDx : D ≠ x := ne_of_none d1 nx
  have g4 := (g3.keep hDH d0 d3).keep hxH (by rw [upd_ne hDx.symm]; exact hxG) x3
  have hDG4 : (upd (upd G2 D (.lst fs)) x (.ins (ga K "Part") dx [("called", .str n), ("craft", .ref ka), ("takes", .int (numIn (tl tw) 1000)), ("feeds", .ref D)])) D = some (.lst fs) := by rw [upd_ne hDx, upd_same]
  have hxG4 : (upd (upd G2 D (.lst fs)) x (.ins (ga K "Part") dx [("called", .str n), ("craft", .ref ka), ("takes", .int (numIn (tl tw) 1000)), ("feeds", .ref D)])) x = some (.ins (ga K "Part") dx [("called", .str n), ("craft", .ref ka), ("takes", .int (numIn (tl tw) 1000)), ("feeds", .ref D)]) := upd_same
  have s24 : Same G2 (upd (upd G2 D (.lst fs)) x (.ins (ga K "Part") dx [("called", .str n), ("craft", .ref ka), ("takes", .int (numIn (tl tw) 1000)), ("feeds", .ref D)])) := (Same.new d0).trans (Same.new (by rw [upd_ne hDx.symm]; exact hxG))
  revert g4 hDG4 hxG4 s24
  generalize upd (upd G2 D (HO.lst fs)) x (HO.ins (ga K "Part") dx [("called", .str n), ("craft", .ref ka), ("takes", .int (numIn (tl tw) 1000)), ("feeds", .ref D)]) = G4
  intro g4 hDG4 hxG4 s24
  have hpart : PartAt K G4 (.ref x) ⟨n, k, numIn (tl tw) 1000, (fw.map feedOf).filterMap id⟩ :=
    ⟨x, dx, ka, D, fs, rfl, hxG4, ⟨dk, s24 _ _ (gs _ _ hkG)⟩, hkok, hDG4, hall.mono fun _ _ z => z.mono s24⟩
  refine ⟨_, rfl, x, dx, _, rfl, x3, rfl, G4, _, _, rfl, g4.gh, hpart, fun H5 s5 => ⟨_, rfl, ?_⟩⟩
  cases he : Pd.isEnd ⟨n, k, numIn (tl tw) 1000, (fw.map feedOf).filterMap id⟩ with
  | false =>
    have he' : (decide (k.c = .src) || decide (k.c = .snk)) = false := he
    rw [if_neg (by rintro (z | z); exact hno z; rw [he'] at z; cases z.1)] at q
    exact iteF ⟨_, rfl, q _ _ _ (g4.same s5) hpart⟩
  | true =>
    have he' : (decide (k.c = .src) || decide (k.c = .snk)) = true := he
    refine iteT ?_
    refine ⟨_, rfl, _, _, rfl, rfl, _, rfl, ?_⟩
    refine ite2 (fun h6 => ?_) (fun h6 => ?_)
    · rw [if_pos (.inr ⟨he', of_decide_eq_true h6⟩)] at q
      exact q _ _ _ (g4.same s5) rfl
    · rw [if_neg (by rintro (z | z); exact hno z; exact h6 (decide_eq_true z.2))] at q
      exact ⟨_, rfl, q _ _ _ (g4.same s5) hpart⟩
end
end SW


/-! ### parts in an order in which each stands behind those that feed it without a store -/
namespace SW
open PySem PySem.Spec PyProof.Rows L2 He TL
structure Wf (ps : List Pd) : Prop where
  few : ps.length ≤ 60
  nd : (ps.map Pd.name).Nodup
  nn : ∀ p ∈ ps, goodName (tl p.name) = true
  cl : ∀ p ∈ ps, ∀ f ∈ p.feeds, ∃ r ∈ ps, r.name = f.1
  ln : ∀ p ∈ ps, p.feeds.length = p.kd.c.lines
  ac : ∃ rank : Str → Nat, ∀ p ∈ ps, ∀ f ∈ p.feeds, f.2 = 0 → rank f.1 < rank p.name
/-- each behind those that feed it without a store -/
def Topo (os : List Pd) : Prop := ∀ i p, os[i]? = some p → ∀ f ∈ p.feeds, f.2 = 0 → f.1 ∈ (os.take i).map Pd.name
structure Ord (ps os : List Pd) : Prop where
  nd : (os.map Pd.name).Nodup
  sub : ∀ p ∈ os, p ∈ ps
  topo : Topo os
theorem Topo.nil : Topo [] := fun i p h => by simp at h
theorem Topo.push {os : List Pd} {p : Pd} (h : Topo os) (hp : ∀ f ∈ p.feeds, f.2 = 0 → f.1 ∈ os.map Pd.name) : Topo (os ++ [p]) := by
  intro i q hi f hf h0
  by_cases hl : i < os.length
  · rw [List.getElem?_append_left hl] at hi
    rw [List.take_append_of_le_length (by omega)]
    exact h i q hi f hf h0
  · have : i = os.length := by
      have := lt_of_get hi
      rw [List.length_append] at this
      simp at this
      omega
    subst this
    rw [List.getElem?_append_right (by omega), Nat.sub_self] at hi
    cases hi
    rw [List.take_append_of_le_length (by omega), List.take_length]
    exact hp f hf h0
/-- as many items, none twice, all of them there: then all are there -/
theorem sub_full {α : Type} [DecidableEq α] : ∀ {xs ys : List α}, xs.Nodup → (∀ x ∈ xs, x ∈ ys) → ys.length ≤ xs.length → ∀ y ∈ ys, y ∈ xs
  | [], ys, _, _, hl, y, hy => by
    have : ys = [] := List.eq_nil_of_length_eq_zero (by simpa using hl)
    rw [this] at hy
    cases hy
  | x :: xs, ys, hn, hs, hl, y, hy => by
    obtain ⟨hx, hn'⟩ := List.nodup_cons.mp hn
    by_cases e : y = x
    · rw [e]
      exact List.mem_cons_self ..
    · refine List.mem_cons_of_mem _ (sub_full (ys := ys.erase x) hn' (fun z hz => ?_) ?_ y ((List.mem_erase_of_ne e).mpr hy))
      · have hzx : z ≠ x := fun q => hx (q ▸ hz)
        exact (List.mem_erase_of_ne hzx).mpr (hs z (List.mem_cons_of_mem _ hz))
      · have := hs x (List.mem_cons_self ..)
        rw [List.length_erase_of_mem this]
        rw [List.length_cons] at hl
        omega
theorem nodup_len {α : Type} [DecidableEq α] : ∀ {xs ys : List α}, xs.Nodup → (∀ x ∈ xs, x ∈ ys) → xs.length ≤ ys.length
  | [], _, _, _ => Nat.zero_le _
  | x :: xs, ys, hn, hs => by
    obtain ⟨hx, hn'⟩ := List.nodup_cons.mp hn
    have := nodup_len (ys := ys.erase x) hn' fun z hz => (List.mem_erase_of_ne (fun q => hx (by rw [← q]; exact hz))).mpr (hs z (List.mem_cons_of_mem _ hz))
    have hm := hs x (List.mem_cons_self ..)
    rw [List.length_erase_of_mem hm] at this
    have := List.length_pos_of_mem hm
    rw [List.length_cons]
    omega
/-- where not all are done, one is ready -/
theorem some_ready {ps os : List Pd} (hf : Wf ps) (ho : Ord ps os) (hl : os.length < ps.length) : ∃ p ∈ ps, p.name ∉ os.map Pd.name ∧ ∀ f ∈ p.feeds, f.2 = 0 → f.1 ∈ os.map Pd.name := by
  obtain ⟨rank, hr⟩ := hf.ac
  have h1 : ∃ p ∈ ps, p.name ∉ os.map Pd.name := by
    refine Classical.byContradiction fun z => ?_
    have h2 : ∀ x ∈ ps.map Pd.name, x ∈ os.map Pd.name := fun x hx => by
      obtain ⟨p, hp, rfl⟩ := List.mem_map.mp hx
      exact Classical.byContradiction fun y => z ⟨p, hp, y⟩
    have := nodup_len hf.nd h2
    rw [List.length_map, List.length_map] at this
    omega
  have key : ∀ (n : Nat) (p : Pd), p ∈ ps → p.name ∉ os.map Pd.name → rank p.name ≤ n → ∃ p ∈ ps, p.name ∉ os.map Pd.name ∧ ∀ f ∈ p.feeds, f.2 = 0 → f.1 ∈ os.map Pd.name := by
    intro n
    induction n with
    | zero =>
      intro p hp hn hz
      exact ⟨p, hp, hn, fun f hf' h0 => absurd (hr p hp f hf' h0) (by omega)⟩
    | succ n ih =>
      intro p hp hn hz
      by_cases hall : ∀ f ∈ p.feeds, f.2 = 0 → f.1 ∈ os.map Pd.name
      · exact ⟨p, hp, hn, hall⟩
      · obtain ⟨f, hf', h0, hno⟩ : ∃ f ∈ p.feeds, f.2 = 0 ∧ f.1 ∉ os.map Pd.name := by
          refine Classical.byContradiction fun z => hall fun f a b => Classical.byContradiction fun c => z ⟨f, a, b, c⟩
        obtain ⟨r, hr1, hr2⟩ := hf.cl p hp f hf'
        exact ih r hr1 (by rw [hr2]; exact hno) (by rw [hr2]; have := hr p hp f hf' h0; omega)
  obtain ⟨p, hp, hn⟩ := h1
  exact key _ p hp hn (Nat.le_refl _)
def doneK (os : List Pd) : List (Key × V) := os.map fun p => ((Sum.inr p.name : Key), V.bl true)
theorem val_done (os : List Pd) (n : Str) : (valV (doneK os) (Sum.inr n : Key)).isSome = decide (n ∈ os.map Pd.name) := by
  unfold valV doneK
  rw [Option.isSome_map, Bool.eq_iff_iff, decide_eq_true_eq]
  rw [List.find?_isSome]
  constructor
  · rintro ⟨x, hx, h⟩
    obtain ⟨p, hp, rfl⟩ := List.mem_map.mp hx
    have := of_decide_eq_true h
    exact List.mem_map.mpr ⟨p, hp, Sum.inr.inj this⟩
  · intro h
    obtain ⟨p, hp, rfl⟩ := List.mem_map.mp h
    exact ⟨_, List.mem_map.mpr ⟨p, hp, rfl⟩, decide_eq_true rfl⟩
theorem val_done_none {os : List Pd} {n : Str} (h : n ∉ os.map Pd.name) : valV (doneK os) (Sum.inr n : Key) = none := by
  have := val_done os n
  rw [decide_eq_false h] at this
  cases e : valV (doneK os) (Sum.inr n : Key) with
  | none => rfl
  | some v =>
    rw [e] at this
    cases this
def notDone (os : List Pd) (f : Str × Int) : Bool := decide (f.2 = 0) && !decide (f.1 ∈ os.map Pd.name)
def spSettled (K : PySem.W.Frag) : Sp := fun vs H Q _ => ∃ (G : Hp) (a : Addr) (ps : List Pd), vs = [.ref a] ∧ Same G H ∧ WorksAt K G a ps ∧ Wf ps ∧
  ∀ (q : Addr) (us : List V) (os : List Pd) (H' : Hp), Same H H' → H q = none → H' q = some (.lst us) → All2 (PartAt K G) us os → Ord ps os → os.length = ps.length → Q (.ref q) H'
theorem Wf.good {ps : List Pd} (h : Wf ps) {p : Pd} (hp : p ∈ ps) {f : Str × Int} (hf : f ∈ p.feeds) : goodName (tl f.1) = true := by
  obtain ⟨r, hr, e⟩ := h.cl p hp f hf
  rw [← e]
  exact h.nn r hr
section
variable {P : Program} {w : World} {K : PySem.W.Frag} {mg : Str → Option Value} {base : Heap}
theorem ok_settled (T : Txt K mg) : Ok P w K mg base 1 (ga K "settled") ["works"] (spSettled K) := by
  refine mkOk T.F_settled sc_settled (fun _ _ _ _ _ _ us hl => match us, hl with | [_], _ => rfl) (by rintro vs H Q E ⟨_, _, _, rfl, _⟩; rfl) (fun cdv A outer s H vs Q E hr h => ?_)
  obtain ⟨G, a, ps, rfl, sg, hwa, hf, q⟩ := h
  have ⟨dx, l, us, hw⟩ := hwa
  have hu := hu_of hr
  refine ⟨_, (pss_cons (ps_set (i := 1) sc_settled.nd rfl (by first | exact Or.inl rfl | exact Or.inr rfl) (pe_lst pa_nil))
      (pss_cons (ps_set (i := 2) sc_settled.nd rfl (by first | exact Or.inl rfl | exact Or.inr rfl) pe_dnewK)
      (pss_cons (ps_while PassesOwn.never (pt_cmpR op_lt (pe_callB (lenQ (K := K)) (by rfl) T.f_len (by decide +kernel) (pa_cons (pv 1) pa_nil)) (pe_callB (lenQ (K := K)) (by rfl) T.f_len (by decide +kernel) (pa_cons (pe_fldK (K := K) (pv 0) rfl) pa_nil)) (nomark _)) (pss_cons (ps_set (i := 3) sc_settled.nd rfl (by first | exact Or.inl rfl | exact Or.inr rfl) pe_bl)
      (pss_cons (ps_for PassesOwn.never rfl (piL (K := K) (pe_fldK (K := K) (pv 0) rfl)) (pg_name (i := 4) sc_settled.nd rfl (by first | exact Or.inl rfl | exact Or.inr rfl))
      (pss_cons (ps_setLc (i := 5) (own := [("feed", 6)]) rfl sc_settled.nd rfl rfl (sw_true rfl rfl rfl (by decide +kernel)) (piL (K := K) (pe_fldK (K := K) (pv 4) rfl)) (blkOk_by (own := [("feed", 6)]) (N := ["works", "order", "done", "found", "part", "ready", "feed"]) (sc := defScope s_settled) (by decide +kernel)) (fun _ _ _ _ _ => (pg_name (i := 6) sc_settled.nd rfl (by first | exact Or.inl rfl | exact Or.inr rfl))) (fun _ _ _ _ _ => pts_one (PW.pt (pw_and (pt_cmpR op_eq (pe_ix (ixT (K := K)) (pv 6) pe_int (fun _ _ => rfl)) pe_int (nomark _)) (pw_and1 (pt_cmp (pc_dnotin hu (pe_ix (ixT (K := K)) (pv 6) pe_int (fun _ _ => rfl)) (pv 2))))))) (fun _ _ _ _ _ => (pv 6)))
      (pss_one (ps_if (PW.pt (pw_and (pt_cmpR (eqEmpK (K := K) (hu0_of hr)) (pv 5) (pe_lst pa_nil) (nomark _)) (pw_and1 (pt_cmp (pc_dnotin hu (pe_fldK (K := K) (pv 4) rfl) (pv 2)))))) (pss_cons (ps_dput hu (pv 2) (pe_fldK (K := K) (pv 4) rfl) pe_bl rfl)
      (pss_cons (ps_expr (pe_bm PySem.F.plainAttrs_list PySem.F.slot_list_append PySem.F.type_list_append mt_append (pv 1) (pa_cons (pv 4) pa_nil)))
      (pss_one (ps_set (i := 3) sc_settled.nd rfl (by first | exact Or.inl rfl | exact Or.inr rfl) pe_bl)))) pss_nil))))
      (pss_one (ps_if (pt_not (pt_val (pv 3))) (pss_one ps_never) pss_nil)))))
      (pss_one (ps_ret (pv 1)))))), ?_⟩
  refine ⟨Nat.zero_le _, fun qo hq => ?_⟩
  intro d hd
  have hqd : qo ≠ d := fun z => by rw [z] at hd; rw [upd_same] at hd; cases hd
  have hdH : H d = none := by rw [upd_ne hqd.symm] at hd; exact hd
  have fewl := hf.few
  refine ⟨fun m σ H' => ∃ os us' v3 v4 v5 v6, m = ps.length - os.length ∧ σ = [some (.ref a), some (.ref qo), some (.ref d), v3, v4, v5, v6] ∧ Same H H' ∧ H' qo = some (.lst us') ∧ H' d = some (.dK (doneK os)) ∧ All2 (PartAt K G) us' os ∧ Ord ps os,
    ⟨_, [], [], none, none, none, none, rfl, rfl, (Same.new hq).trans (Same.new hd), by rw [upd_ne hqd, upd_same], upd_same, All2.nil, ⟨List.nodup_nil, fun p h => (by cases h), Topo.nil⟩⟩, ?_⟩
  rintro m σ H1 ⟨os, us', v3, v4, v5, v6, rfl, rfl, s1, o1, d1, hA, hO⟩
  have hall := s1
  refine ⟨_, rfl, qo, _, rfl, .inl (SqL.of o1), _, rfl, a, _, dx, _, _, rfl, s1 _ _ (sg _ _ hw.ob), T.c_Works, T.n_Works_parts, rfl, l, _, rfl, .inl (SqL.of (s1 _ _ (sg _ _ hw.ls))), _, _, rfl, rfl, _, rfl, ?_⟩
  have hsub : os.length ≤ ps.length := by
    have := nodup_len hO.nd (ys := ps.map Pd.name) fun x hx => by
      obtain ⟨p, hp, rfl⟩ := List.mem_map.mp hx
      exact List.mem_map.mpr ⟨p, hO.sub p hp, rfl⟩
    rw [List.length_map, List.length_map] at this
    exact this
  refine ite2 (fun hlt => ?_) (fun hlt => ?_)
  rotate_left
  · have : os.length = ps.length := by
      have h1 : ¬ ((us'.length : Int) < (us.length : Int)) := fun z => hlt (decide_eq_true z)
      rw [hA.1, hw.ps.1] at h1
      omega
    exact ⟨_, rfl, q qo us' os H1 s1 hq o1 hA hO this⟩
  have hlt' : os.length < ps.length := by
    have := of_decide_eq_true hlt
    rw [hA.1, hw.ps.1] at this
    omega
  refine ⟨fun σ H' => ∃ os' us' v3 v4 v5 v6, os.length < os'.length ∧ σ = [some (.ref a), some (.ref qo), some (.ref d), v3, v4, v5, v6] ∧ Same H H' ∧ H' qo = some (.lst us') ∧ H' d = some (.dK (doneK os')) ∧ All2 (PartAt K G) us' os' ∧ Ord ps os',
    fun σ H' ⟨os', us', v3, v4, v5, v6, h1, h2, h3⟩ => ⟨ps.length - os'.length, by omega, os', us', v3, v4, v5, v6, rfl, h2, h3⟩, ?_⟩
  -- one round
  refine ⟨_, rfl, a, _, dx, _, _, rfl, s1 _ _ (sg _ _ hw.ob), T.c_Works, T.n_Works_parts, rfl, l, rfl, ⟨_, SqL.of (s1 _ _ (sg _ _ hw.ls))⟩, ?_⟩
  let Pv : Nat → L2.St → Hp → Prop := fun i σ H' => ∃ os' us' b v4 v5 v6, σ = [some (.ref a), some (.ref qo), some (.ref d), some (.bl b), v4, v5, v6] ∧ Same H H' ∧ H' qo = some (.lst us') ∧ H' d = some (.dK (doneK os')) ∧ All2 (PartAt K G) us' os' ∧ Ord ps os' ∧
      (b = true → os.length < os'.length) ∧ (b = false → os' = os ∧ ∀ p ∈ ps.take i, p.name ∈ os.map Pd.name ∨ ∃ f ∈ p.feeds, f.2 = 0 ∧ f.1 ∉ os.map Pd.name)
  refine for_list (K := K) (a := l) (xs := us) Pv
    ⟨os, us', false, v4, v5, v6, rfl, s1, o1, d1, hA, hO, (fun z => by cases z), fun _ => ⟨rfl, fun p h => by rw [List.take_zero] at h; cases h⟩⟩ (fun i σ H' _ h => by obtain ⟨_, _, _, _, _, _, _, s, _⟩ := h; exact SqL.of (s _ _ (sg _ _ hw.ls))) ?_ ?_
  rotate_left
  · -- found?
    rintro σ H2 ⟨os', us2, b, v4, v5, v6, rfl, s2, o2, d2, hA2, hO2, hb1, hb2⟩
    cases b with
    | true => exact ⟨_, rfl, true, rfl, iteF ⟨os', us2, _, _, _, _, hb1 rfl, rfl, s2, o2, d2, hA2, hO2⟩⟩
    | false =>
      exfalso
      obtain ⟨_, hno⟩ := hb2 rfl
      obtain ⟨p, hp, h1, h2⟩ := some_ready hf hO hlt'
      rw [hw.ps.1, List.take_length] at hno
      rcases hno p hp with h | ⟨f, hf1, h0, hf2⟩
      · exact h1 h
      · exact hf2 (h2 f hf1 h0)
  rintro i x σ H2 hi ⟨os', us2, b, v4, v5, v6, rfl, s2, o2, d2, hA2, hO2, hb1, hb2⟩
  obtain ⟨p, hpi, pa, dp, k, fl, ws, rfl, hp⟩ := hw.ps.get hi
  have hpm : p ∈ ps := List.mem_of_getElem? hpi
  have hpob : ∀ {H'}, Same H H' → H' pa = _ := fun s => s _ _ (sg _ _ hp.ob)
  -- ready
  refine ⟨_, rfl, pa, _, dp, _, _, rfl, hpob s2, T.c_Part, T.n_Part_feeds, rfl, fl, rfl, ⟨_, SqL.of (s2 _ _ (sg _ _ hp.ls))⟩, fun D hD => ?_⟩
  have hDH : H D = none := s2.free hD
  refine lc_list (K := K) (a := fl) (xs := ws) (fun j H' => ∃ acc, Same H2 H' ∧ H' D = some (.lst acc) ∧ All2 (FeedAt G) acc ((p.feeds.take j).filter (notDone os')))
    ⟨[], Same.new hD, upd_same, All2.nil⟩ (fun j H' _ h => by obtain ⟨_, s, _⟩ := h; exact SqL.of (s _ _ (s2 _ _ (sg _ _ hp.ls)))) ?_ ?_
  · rintro j y H3 hj ⟨acc, s3, e3, hAc⟩
    obtain ⟨f, hfj, t, rfl, ht⟩ := hp.fs.get hj
    have ht3 := s3 _ _ (s2 _ _ (sg _ _ ht))
    refine ⟨rfl, ?_⟩
    refine ⟨_, rfl, t, _, _, _, rfl, rfl, SqT.of ht3, at1 _ _ _, rfl, _, rfl, ?_⟩
    have put : notDone os' f = true → ∃ acc', H3 D = some (.lst acc') ∧ acc'.length < sizeLine ∧ ∃ acc2, Same H2 (upd H3 D (.lst (acc' ++ [.ref t]))) ∧ (upd H3 D (.lst (acc' ++ [.ref t]))) D = some (.lst acc2) ∧ All2 (FeedAt G) acc2 ((p.feeds.take (j + 1)).filter (notDone os')) := fun hn => by
      refine ⟨acc, e3, ?_, acc ++ [.ref t], fun c o e => by rw [upd_ne (ne_of_none e hD)]; exact s3 c o e, upd_same, ?_⟩
      · rw [hAc.1]
        have h1 := List.length_filter_le (notDone os') (p.feeds.take j)
        rw [List.length_take] at h1
        have h2 := hf.ln p hpm
        have h3 := lines_le p.kd.c
        exact small1000 (by omega)
      · rw [take_one hfj, List.filter_append, List.filter_cons, hn]
        exact hAc.push ⟨t, rfl, ht⟩
    have skip : notDone os' f = false → ∃ acc2, Same H2 H3 ∧ H3 D = some (.lst acc2) ∧ All2 (FeedAt G) acc2 ((p.feeds.take (j + 1)).filter (notDone os')) := fun hn => by
      refine ⟨acc, s3, e3, ?_⟩
      rw [take_one hfj, List.filter_append, List.filter_cons, hn]
      simp only [Bool.false_eq_true, if_false, List.filter_nil, List.append_nil]
      exact hAc
    refine ite2 (fun h0 => ?_) (fun h0 => ?_)
    · have h0' : f.2 = 0 := V.int.inj (of_decide_eq_true h0)
      refine ⟨_, rfl, t, _, _, _, rfl, rfl, SqT.of ht3, at0 _ _, _, rfl, d, _, rfl, DGet.k (k := Sum.inr f.1) (s3 _ _ d2), _, rfl, ?_⟩
      rw [val_done]
      by_cases hm : f.1 ∈ os'.map Pd.name
      · rw [decide_eq_true hm]
        exact iteF (skip (by unfold notDone; rw [decide_eq_true hm]; simp))
      · rw [decide_eq_false hm]
        exact iteT ⟨_, rfl, put (by unfold notDone; rw [decide_eq_false hm, decide_eq_true h0']; rfl)⟩
    · exact iteF (skip (by unfold notDone; rw [decide_eq_false (fun z => h0 (decide_eq_true (by rw [z])))]; rfl))
  rintro H3 ⟨acc, s3, e3, hAc⟩
  rw [hp.fs.1, List.take_length] at hAc
  have s03 := s2.trans s3
  -- if ready == [] and part.called not in done
  have eem : acc.isEmpty = (p.feeds.filter (notDone os')).isEmpty := by
    have := hAc.1
    cases acc <;> cases e : p.feeds.filter (notDone os') <;> rw [e] at this <;> first | rfl | simp at this
  refine ⟨_, rfl, Nat.zero_le _, fun z hz => ?_⟩
  have s3z : Same H3 (upd H3 z (.lst [])) := Same.new hz
  refine ⟨D, z, acc, rfl, rfl, SqL.of (s3z _ _ e3), SqL.of upd_same, _, rfl, ?_⟩
  rw [eem]
  have s04 := s03.trans s3z
  have o4 := s3z _ _ (s3 _ _ o2)
  have d4 := s3z _ _ (s3 _ _ d2)
  revert s04 o4 d4
  generalize upd H3 z (HO.lst []) = H4
  intro s04 o4 d4
  have stay : ∀ v6, (∃ f ∈ p.feeds, f.2 = 0 ∧ f.1 ∉ os'.map Pd.name) ∨ p.name ∈ os'.map Pd.name → Pv (i + 1) [some (.ref a), some (.ref qo), some (.ref d), some (.bl b), some (.ref pa), some (.ref D), v6] H4 := fun v6 hst => by
    refine ⟨os', us2, b, _, _, v6, rfl, s04, o4, d4, hA2, hO2, hb1, fun hb => ?_⟩
    obtain ⟨e, hno⟩ := hb2 hb
    refine ⟨e, fun r hr' => ?_⟩
    rw [take_one hpi] at hr'
    rcases List.mem_append.mp hr' with h | h
    · exact hno r h
    · rw [List.mem_singleton.mp h, ← e]
      exact hst.symm
  cases hem : (p.feeds.filter (notDone os')).isEmpty with
  | false =>
    refine iteF ?_
    have : ∃ f ∈ p.feeds, f.2 = 0 ∧ f.1 ∉ os'.map Pd.name := by
      cases e : p.feeds.filter (notDone os') with
      | nil => rw [e] at hem; cases hem
      | cons f r =>
        have hm : f ∈ p.feeds.filter (notDone os') := by rw [e]; exact List.mem_cons_self ..
        obtain ⟨h1, h2⟩ := List.mem_filter.mp hm
        unfold notDone at h2
        simp only [Bool.and_eq_true, decide_eq_true_eq, Bool.not_eq_true', decide_eq_false_iff_not] at h2
        exact ⟨f, h1, h2⟩
    exact stay _ (.inl this)
  | true =>
    refine iteT ?_
    have hnone : ∀ f ∈ p.feeds, f.2 = 0 → f.1 ∈ os'.map Pd.name := fun f hf1 h0 => by
      refine Classical.byContradiction fun hn => ?_
      have hm : f ∈ p.feeds.filter (notDone os') := List.mem_filter.mpr ⟨hf1, by unfold notDone; rw [decide_eq_true h0, decide_eq_false hn]; rfl⟩
      rw [List.isEmpty_iff.mp hem] at hm
      cases hm
    refine ⟨_, rfl, pa, _, dp, _, _, rfl, hpob s04, T.c_Part, T.n_Part_called, rfl, _, rfl, d, _, rfl, DGet.k (k := Sum.inr p.name) d4, _, rfl, ?_⟩
    rw [val_done]
    by_cases hm : p.name ∈ os'.map Pd.name
    · rw [decide_eq_true hm]
      exact iteF (stay _ (.inr hm))
    · rw [decide_eq_false hm]
      refine iteT ?_
      have hol : os'.length ≤ 60 := by
        have := nodup_len hO2.nd (ys := ps.map Pd.name) fun x hx => by
          obtain ⟨p, hp, rfl⟩ := List.mem_map.mp hx
          exact List.mem_map.mpr ⟨p, hO2.sub p hp, rfl⟩
        rw [List.length_map, List.length_map] at this
        omega
      have hdl : (doneK os').length < sizeLine := by
        unfold doneK
        rw [List.length_map]
        exact small1000 (by omega)
      refine ⟨_, rfl, _, rfl, pa, _, dp, _, _, rfl, hpob s04, T.c_Part, T.n_Part_called, rfl, d, _, rfl, DPut.k (k := Sum.inr p.name) d4 hdl, ?_⟩
      have ed : putK (doneK os') (Sum.inr p.name : Key) (V.bl true) = doneK (os' ++ [p]) := by
        rw [putK_new _ (val_done_none hm)]
        unfold doneK
        rw [List.map_append] <;> rfl
      rw [ed]
      refine ⟨_, rfl, .inl ⟨rfl, _, SqL.of (by rw [upd_ne hqd]; exact o4)⟩, _, rfl, qo, us2, _, rfl, rfl, by rw [upd_ne hqd]; exact o4, by rw [hA2.1]; exact small1000 (by omega), ?_⟩
      refine ⟨os' ++ [p], us2 ++ [.ref pa], true, some (.ref pa), some (.ref D), v6, rfl, fun c o e => ?_, upd_same, ?_, ?_, ?_, fun _ => ?_, fun z => by cases z⟩
      · rw [upd_ne (ne_of_none e hq), upd_ne (ne_of_none e hdH)]
        exact s04 c o e
      · rw [upd_ne hqd.symm, upd_same]
      · exact hA2.push ⟨pa, dp, k, fl, ws, rfl, hp⟩
      · refine ⟨?_, fun r hr' => ?_, hO2.topo.push hnone⟩
        · rw [List.map_append]
          exact List.nodup_append.mpr ⟨hO2.nd, by simp, fun x hx y hy => by
            rw [List.map_cons, List.map_nil, List.mem_singleton] at hy
            rw [hy]
            exact fun e => hm (e ▸ hx)⟩
        · rcases List.mem_append.mp hr' with h | h
          · exact hO2.sub r h
          · rw [List.mem_singleton.mp h]
            exact hpm
      · rw [List.length_append, List.length_singleton]
        cases b with
        | true => have := hb1 rfl; omega
        | false => have := (hb2 rfl).1; rw [this]; omega
end
end SW


/-! ### a works read from its text -/
namespace SW
open PySem PySem.Spec PyProof.Rows L2 He TL
/-- a dict by names -/
def dictOf (f : Pd → V) (ps : List Pd) : List (Key × V) := ps.map fun p => ((Sum.inr p.name : Key), f p)
theorem val_dict_none {f : Pd → V} {ps : List Pd} {n : Str} (h : n ∉ ps.map Pd.name) : valV (dictOf f ps) (Sum.inr n : Key) = none := by
  unfold valV dictOf
  rw [Option.map_eq_none_iff, List.find?_eq_none]
  intro x hx e
  obtain ⟨p, hp, rfl⟩ := List.mem_map.mp hx
  exact h (List.mem_map.mpr ⟨p, hp, Sum.inr.inj (of_decide_eq_true e)⟩)
theorem val_dict {f : Pd → V} : ∀ {ps : List Pd} {p : Pd}, (ps.map Pd.name).Nodup → p ∈ ps → valV (dictOf f ps) (Sum.inr p.name : Key) = some (f p)
  | r :: ps, p, hn, hp => by
    rw [List.map_cons, List.nodup_cons] at hn
    by_cases e : r.name = p.name
    · rcases List.mem_cons.mp hp with h | h
      · subst h
        exact valV_pos (p := ((Sum.inr p.name : Key), f p)) rfl
      · exact absurd (by rw [e]; exact List.mem_map.mpr ⟨p, h, rfl⟩) hn.1
    · have hp' : p ∈ ps := by
        rcases List.mem_cons.mp hp with h | h
        · exact absurd (by rw [h]) e
        · exact h
      have h := val_dict (f := f) hn.2 hp'
      unfold dictOf at h ⊢
      rw [List.map_cons, valV_neg (fun z => e (Sum.inr.inj z))]
      exact h
theorem dict_push (f : Pd → V) (ps : List Pd) (p : Pd) (h : p.name ∉ ps.map Pd.name) : putK (dictOf f ps) (Sum.inr p.name : Key) (f p) = dictOf f (ps ++ [p]) := by
  rw [putK_new _ (val_dict_none h)]
  unfold dictOf
  rw [List.map_append] <;> rfl
def fullWord (z : Str) : Bool := !decide (tl z = [])
def wordsOf (row : Str) : List Str := (Txt.split row " ").filter fullWord
def rowsOf (text : Str) : List Str := Txt.split text "\n"
def partsOf (rows : List Str) : List Pd := rows.filterMap fun row => partOf (wordsOf row)
structure Reads (text : Str) (ps : List Pd) : Prop where
  len : text.length ≤ 100000
  many : (rowsOf text).length ≤ 1000
  small : ∀ row ∈ rowsOf text, row.length ≤ 100000 ∧ (Txt.split row " ").length ≤ 1000 ∧ ∀ z ∈ Txt.split row " ", z.length ≤ 100000
  good : ∀ row ∈ rowsOf text, wordsOf row = [] ∨ ∃ p, partOf (wordsOf row) = some p
  eq : partsOf (rowsOf text) = ps
  wf : Wf ps
  ne : ps ≠ []
  fed : ∀ p ∈ ps, ∀ f ∈ p.feeds, ∃ r ∈ ps, r.name = f.1 ∧ r.kd.c ≠ .snk
def spRead (K : PySem.W.Frag) : Sp := fun vs H Q _ => ∃ (G : Hp) (text : Str) (ps : List Pd), vs = [.str text] ∧ Same G H ∧ Reads text ps ∧
  ∀ a G' H', Grow G H G' H' → H a = none → WorksAt K G' a ps → Q (.ref a) H'
theorem partsOf_take {rows : List Str} {i : Nat} {row : Str} (h : rows[i]? = some row) : partsOf (rows.take (i + 1)) = partsOf (rows.take i) ++ (match partOf (wordsOf row) with | some p => [p] | none => []) := by
  unfold partsOf
  rw [take_one h, List.filterMap_append]
  cases e : partOf (wordsOf row) <;> simp [e]
theorem partsOf_pre (rows : List Str) (i : Nat) : ∃ r, partsOf rows = partsOf (rows.take i) ++ r := by
  refine ⟨partsOf (rows.drop i), ?_⟩
  unfold partsOf
  rw [← List.filterMap_append, List.take_append_drop]
section
variable {P : Program} {w : World} {K : PySem.W.Frag} {mg : Str → Option Value} {base : Heap}
theorem ok_read (T : Txt K mg) : Ok P w K mg base 5 (ga K "read") ["text"] (spRead K) := by
  have G_part_of := ok_part_of (P := P) (w := w) (base := base) T
  have G_kind_word := ok_kind_word (P := P) (w := w) (base := base) T
  have G_Works_init := ok_Works_init (P := P) (w := w) (base := base) T
  have G_settled := ok_settled (P := P) (w := w) (base := base) T
  obtain ⟨tM, hM⟩ := T.g_MOST
  refine mkOk T.F_read sc_read (fun _ _ _ _ _ _ us hl => match us, hl with | [_], _ => rfl) (by rintro vs H Q E ⟨_, _, _, rfl, _⟩; rfl) (fun cdv A outer s H vs Q E hr h => ?_)
  obtain ⟨G, text, ps, rfl, sg, hR, q⟩ := h
  have hu := hu_of hr
  refine ⟨_, (pss_cons (ps_set (i := 1) sc_read.nd rfl (by first | exact Or.inl rfl | exact Or.inr rfl) (pe_lst pa_nil))
      (pss_cons (ps_set (i := 2) sc_read.nd rfl (by first | exact Or.inl rfl | exact Or.inr rfl) (pe_lst pa_nil))
      (pss_cons (ps_set (i := 3) sc_read.nd rfl (by first | exact Or.inl rfl | exact Or.inr rfl) pe_dnewK)
      (pss_cons (ps_for PassesOwn.never rfl (pi_enum (by rfl) T.f_enumerate (pa_cons (pe_split (pv 0) pe_str) pa_nil)) (pg_tup rfl (pgs_cons (pg_name (i := 4) sc_read.nd rfl (by first | exact Or.inl rfl | exact Or.inr rfl)) (pgs_cons (pg_name (i := 5) sc_read.nd rfl (by first | exact Or.inl rfl | exact Or.inr rfl)) pgs_nil)))
      (pss_cons (ps_setLc (i := 6) (own := [("word", 7)]) rfl sc_read.nd rfl rfl (sw_true rfl rfl rfl (by decide +kernel)) (piL (K := K) (pe_split (pv 5) pe_str)) (blkOk_by (own := [("word", 7)]) (N := ["text", "parts", "rows", "kinds", "place", "row", "words", "word", "part", "feed", "works"]) (sc := defScope s_read) (by decide +kernel)) (fun _ _ _ _ _ => (pg_name (i := 7) sc_read.nd rfl (by first | exact Or.inl rfl | exact Or.inr rfl))) (fun _ _ _ _ _ => pts_one (pt_cmpR op_ne (pv 7) pe_str (nomark _))) (fun _ _ _ _ _ => (pv 7)))
      (pss_cons (ps_if (pt_cmpR (eqEmpK (K := K) (hu0_of hr)) (pv 6) (pe_lst pa_nil) (nomark _)) (pss_one ps_continue) pss_nil)
      (pss_cons (ps_set (i := 8) sc_read.nd rfl (by first | exact Or.inl rfl | exact Or.inr rfl) (pe_callO G_part_of (hr.mono (by decide)) T.g_part_of (pa_cons (pv 6) pa_nil)))
      (pss_cons (ps_if (PW.pt (pw_or (pt_cmpR op_isN (pv 8) pe_non (nomark _)) (pw_or1 (pt_cmp (pc_din hu (pe_fldK (K := K) (pv 8) rfl) (pv 3)))))) (pss_one ps_never) pss_nil)
      (pss_cons (ps_if (pt_cmpR op_eq (pe_callB (lenQ (K := K)) (by rfl) T.f_len (by decide +kernel) (pa_cons (pv 1) pa_nil)) (pe_glob (v := .int 60) rfl hM ⟨_, rfl⟩) (nomark _)) (pss_one ps_never) pss_nil)
      (pss_cons (ps_expr (pe_bm PySem.F.plainAttrs_list PySem.F.slot_list_append PySem.F.type_list_append mt_append (pv 1) (pa_cons (pv 8) pa_nil)))
      (pss_cons (ps_expr (pe_bm PySem.F.plainAttrs_list PySem.F.slot_list_append PySem.F.type_list_append mt_append (pv 2) (pa_cons (pv 4) pa_nil)))
      (pss_one (ps_dput hu (pv 3) (pe_fldK (K := K) (pv 8) rfl) (pe_ex fun c => (G_kind_word c).use fun fd F b => pe_meth0 (pe_fldK (K := K) (pv 8) rfl) (T.ck c) (T.mk_word_ c) F (hr.mono (by decide)) b .nil pass0) rfl))))))))))
      (pss_cons (ps_if (pt_cmpR (eqEmpK (K := K) (hu0_of hr)) (pv 1) (pe_lst pa_nil) (nomark _)) (pss_one ps_never) pss_nil)
      (pss_cons (ps_for PassesOwn.never rfl (pi_zip (by rfl) T.f_zip (pa_cons (pv 1) (pa_cons (pv 2) pa_nil))) (pg_tup rfl (pgs_cons (pg_name (i := 8) sc_read.nd rfl (by first | exact Or.inl rfl | exact Or.inr rfl)) (pgs_cons (pg_name (i := 4) sc_read.nd rfl (by first | exact Or.inl rfl | exact Or.inr rfl)) pgs_nil)))
      (pss_one (ps_for PassesOwn.never rfl (piL (K := K) (pe_fldK (K := K) (pv 8) rfl)) (pg_name (i := 9) sc_read.nd rfl (by first | exact Or.inl rfl | exact Or.inr rfl))
      (pss_one (ps_if (pt_cmpR op_eq (pe_dget2 hu (pv 3) (pe_ix (ixT (K := K)) (pv 9) pe_int (fun _ _ => rfl)) pe_str ⟨rfl, rfl, rfl, rfl⟩) pe_str (nomark _)) (pss_one ps_never) pss_nil)))))
      (pss_cons (ps_set (i := 10) sc_read.nd rfl (by first | exact Or.inl rfl | exact Or.inr rfl) (pe_makeO T.mk_Works G_Works_init (hr.mono (by decide)) T.g_Works (pa_cons (pv 1) pa_nil)))
      (pss_cons (ps_expr (pe_callO G_settled (hr.mono (by decide)) T.g_settled (pa_cons (pv 10) pa_nil)))
      (pss_one (ps_ret (pv 10))))))))))), ?_⟩
  refine ⟨Nat.zero_le _, fun pa hpa => ⟨Nat.zero_le _, fun ra hra => fun da hda => ?_⟩⟩
  have hrp : ra ≠ pa := fun z => by rw [z, upd_same] at hra; cases hra
  have hdr : da ≠ ra := fun z => by rw [z, upd_same] at hda; cases hda
  have hdp : da ≠ pa := fun z => by rw [z, upd_ne hrp.symm, upd_same] at hda; cases hda
  have hraH : H ra = none := by rw [upd_ne hrp] at hra; exact hra
  have hdaH : H da = none := by rw [upd_ne hdr, upd_ne hdp] at hda; exact hda
  have g1 := (((Grow.refl sg).temp (o := .lst []) hpa).temp (o := .lst []) hra).temp (o := .dK []) hda
  have e1 : (upd (upd (upd H pa (.lst [])) ra (.lst [])) da (.dK [])) pa = some (.lst []) := by rw [upd_ne hdp.symm, upd_ne hrp.symm, upd_same]
  have e2 : (upd (upd (upd H pa (.lst [])) ra (.lst [])) da (.dK [])) ra = some (.lst []) := by rw [upd_ne hdr.symm, upd_same]
  have e3 : (upd (upd (upd H pa (.lst [])) ra (.lst [])) da (.dK [])) da = some (.dK []) := upd_same
  revert g1 e1 e2 e3
  generalize upd (upd (upd H pa (HO.lst [])) ra (HO.lst [])) da (HO.dK []) = H1
  intro g1 e1 e2 e3
  refine ⟨_, rfl, ⟨_, rfl⟩, _, _, rfl, rfl, rfl, Nat.le_trans (Nat.add_le_add_right hR.len 2) (by decide), fun la hla => ?_⟩
  have hlaH : H la = none := g1.hh.free hla
  refine ⟨la, _, rfl, SqL.of upd_same, ?_⟩
  have hwf := hR.wf
  have hpaH := hpa
  have hne : ∀ {H' : Hp}, Same H1 H' → True := fun _ => trivial
  have hlp : la ≠ pa := fun z => by rw [z, e1] at hla; cases hla
  have hlr : la ≠ ra := fun z => by rw [z, e2] at hla; cases hla
  have hld : la ≠ da := fun z => by rw [z, e3] at hla; cases hla
  have hGp : G pa = none := sg.free hpa
  have hGr : G ra = none := sg.free hraH
  have hGd : G da = none := sg.free hdaH
  refine for_it (walk_enum (K := K) (a := la) (xs := (Txt.split text "\n").map V.str)) (fun i σ H' => ∃ v4 v5 v6 v7 v8 v9 v10 G' us ns, σ = [some (.str text), some (.ref pa), some (.ref ra), some (.ref da), v4, v5, v6, v7, v8, v9, v10] ∧ Grow G H G' H' ∧ G' pa = none ∧ G' ra = none ∧ G' da = none ∧
      H' pa = some (.lst us) ∧ H' ra = some (.lst ns) ∧ us.length = ns.length ∧ H' da = some (.dK (dictOf (fun p => V.str p.kd.word) (partsOf ((rowsOf text).take i)))) ∧ H' la = some (.lst ((Txt.split text "\n").map V.str)) ∧ All2 (PartAt K G') us (partsOf ((rowsOf text).take i)))
    ⟨none, none, none, none, none, none, none, G, [], [], rfl, g1.temp hla, hGp, hGr, hGd, by rw [upd_ne hlp.symm]; exact e1, by rw [upd_ne hlr.symm]; exact e2, rfl, by rw [upd_ne hld.symm]; exact e3, upd_same, All2.nil⟩
    (fun i σ H' _ h => by obtain ⟨_, _, _, _, _, _, _, _, _, _, _, _, _, _, _, _, _, _, _, e, _⟩ := h; exact SqL.of e) ?_ ?_
  · rintro i x σ H2 H3 hi ⟨v4, v5, v6, v7, v8, v9, v10, G2, us, ns, rfl, g2, p2, r2, d2, e1, e2, hl, e3, e4, hA⟩ ⟨t, y, z, rfl, ht, rfl, hy, hz⟩
    cases hy
    have hz : ((Txt.split text "\n").map V.str)[i]? = some z := hz
    rw [List.getElem?_map] at hz
    obtain ⟨row, hrow, rfl⟩ : ∃ row, (rowsOf text)[i]? = some row ∧ V.str row = z := by
      cases e : (Txt.split text "\n")[i]? with
      | none => rw [e] at hz; cases hz
      | some row => rw [e] at hz; cases hz; exact ⟨row, e, rfl⟩
    have hmem : row ∈ rowsOf text := List.mem_of_getElem? hrow
    obtain ⟨sm1, sm2, sm3⟩ := hR.small row hmem
    have htH : H t = none := g2.hh.free ht
    have g3 := g2.temp (o := .tup [.int (i : Nat), .str row]) ht
    have e1' : upd H2 t (.tup [.int (i : Nat), .str row]) pa = some (.lst us) := by rw [upd_ne (ne_of_none e1 ht)]; exact e1
    have e2' : upd H2 t (.tup [.int (i : Nat), .str row]) ra = some (.lst ns) := by rw [upd_ne (ne_of_none e2 ht)]; exact e2
    have e3' := (Same.new (o := .tup [.int (i : Nat), .str row]) ht) _ _ e3
    have e4' := (Same.new (o := .tup [.int (i : Nat), .str row]) ht) _ _ e4
    refine ⟨t, _, rfl, SqT.of upd_same, rfl, _, _, rfl, _, _, rfl, rfl, ?_⟩
    clear e1 e2 e3 e4 g2
    revert g3 e1' e2' e3' e4'
    generalize upd H2 t (HO.tup [V.int (i : Nat), V.str row]) = H3
    intro g3 e1 e2 e3 e4
    -- the row's words
    refine ⟨_, rfl, ⟨_, rfl⟩, _, _, rfl, rfl, rfl, Nat.le_trans (Nat.add_le_add_right sm1 2) (by decide), fun sa hsa => ?_⟩
    have g4 := g3.temp (o := .lst ((Txt.split row " ").map V.str)) hsa
    refine ⟨sa, rfl, ⟨_, SqL.of upd_same⟩, fun wa hwa => ?_⟩
    refine lc_list (K := K) (a := sa) (xs := (Txt.split row " ").map V.str) (fun j H' => Same (upd H3 sa (.lst ((Txt.split row " ").map V.str))) H' ∧ H' wa = some (.lst ((((Txt.split row " ").take j).filter fullWord).map V.str)))
      ⟨Same.new hwa, upd_same⟩ (fun j H' _ h => SqL.of (h.1 _ _ upd_same)) ?_ ?_
    · rintro j x H5 hj ⟨s5, f5⟩
      have hj : ((Txt.split row " ").map V.str)[j]? = some x := hj
      rw [List.getElem?_map] at hj
      obtain ⟨z, hz, rfl⟩ : ∃ z, (Txt.split row " ")[j]? = some z ∧ V.str z = x := by
        cases e : (Txt.split row " ")[j]? with
        | none => rw [e] at hj; cases hj
        | some z => rw [e] at hj; cases hj; exact ⟨z, rfl, rfl⟩
      refine ⟨rfl, ?_⟩
      refine ⟨_, rfl, rfl, _, rfl, ?_⟩
      rw [dstr, tl_emp]
      have eN : (((Txt.split row " ").take (j + 1)).filter fullWord) = (((Txt.split row " ").take j).filter fullWord) ++ (if fullWord z = true then [z] else []) := by
        rw [take_one hz, List.filter_append, List.filter_cons, List.filter_nil]
      refine ite2 (fun h0 => ?_) (fun h0 => ?_)
      · refine ⟨_, rfl, _, f5, ?_, fun c o e => ?_, ?_⟩
        · rw [List.length_map]
          have h1 := List.length_filter_le fullWord ((Txt.split row " ").take j)
          rw [List.length_take] at h1
          exact small1000 (by omega)
        · rw [upd_ne (ne_of_none e hwa)]
          exact s5 c o e
        · rw [upd_same, eN, if_pos (show fullWord z = true from h0), List.map_append] <;> rfl
      · refine ⟨s5, ?_⟩
        rw [f5, eN, if_neg (show ¬ fullWord z = true from h0), List.append_nil]
    · rintro H5 ⟨s5, f5⟩
      rw [List.length_map, List.take_length] at f5
      have f5 : H5 wa = some (.lst ((wordsOf row).map V.str)) := f5
      have hsaH : H sa = none := g3.hh.free hsa
      have hwa3 : H3 wa = none := (Same.new hsa).free hwa
      have hwaH : H wa = none := g3.hh.free hwa3
      have s35 : Same H3 H5 := (Same.new hsa).trans s5
      have g5 : Grow G H G2 H5 := g3.same s35
      have e1 := s35 _ _ e1
      have e2 := s35 _ _ e2
      have e3 := s35 _ _ e3
      have e4 := s35 _ _ e4
      refine ⟨_, rfl, Nat.zero_le _, fun ea hea => ?_⟩
      refine ⟨wa, ea, _, rfl, rfl, SqL.of (Same.new hea _ _ f5), SqL.of upd_same, _, rfl, ?_⟩
      have heaH : H ea = none := g5.hh.free hea
      have g6 : Grow G H G2 (upd H5 ea (.lst [])) := g5.temp hea
      have e1 := Same.new (o := .lst []) hea _ _ e1
      have e2 := Same.new (o := .lst []) hea _ _ e2
      have e3 := Same.new (o := .lst []) hea _ _ e3
      have e4 := Same.new (o := .lst []) hea _ _ e4
      have f6 := Same.new (o := .lst []) hea _ _ f5
      revert g6 e1 e2 e3 e4 f6
      generalize upd H5 ea (HO.lst []) = H6
      intro g6 e1 e2 e3 e4 f6
      cases hw : wordsOf row with
      | nil =>
        refine iteT ?_
        refine ⟨_, _, _, _, _, _, _, G2, us, ns, rfl, g6, p2, r2, d2, e1, e2, hl, ?_, e4, ?_⟩
        · rw [partsOf_take hrow, hw]
          show _ = some (HO.dK (dictOf _ (_ ++ [])))
          rw [List.append_nil]
          exact e3
        · rw [partsOf_take hrow, hw]
          show All2 _ _ (_ ++ [])
          rw [List.append_nil]
          exact hA
      | cons w0 wr =>
        refine iteF ?_
        obtain ⟨p, hp⟩ : ∃ p, partOf (wordsOf row) = some p := (hR.good row hmem).resolve_left (by rw [hw]; simp)
        have hnext : partsOf ((rowsOf text).take (i + 1)) = partsOf ((rowsOf text).take i) ++ [p] := by
          rw [partsOf_take hrow, hp]
        obtain ⟨rest, hrest⟩ := partsOf_pre (rowsOf text) (i + 1)
        rw [hR.eq, hnext] at hrest
        have hpm : p ∈ ps := by rw [hrest]; simp
        have hnew : p.name ∉ (partsOf ((rowsOf text).take i)).map Pd.name := by
          have := hwf.nd
          rw [hrest, List.map_append, List.map_append, List.append_assoc] at this
          intro hin
          exact (List.nodup_append.mp this).2.2 _ hin p.name (by simp) rfl
        have hfew : (partsOf ((rowsOf text).take i)).length < 60 := by
          have h1 := hwf.few
          rw [hrest, List.length_append, List.length_append, List.length_singleton] at h1
          omega
        have hwl : (wordsOf row).length ≤ 1000 := Nat.le_trans (List.length_filter_le _ _) sm2
        refine ⟨_, rfl, G2, wa, wordsOf row, rfl, g6.gh, SqL.of f6, Nat.le_trans hwl (by decide), fun z hz => sm3 z (List.mem_filter.mp hz).1, fun v G7 H7 g7 hv => ?_⟩
        rw [hp] at hv
        obtain ⟨a, dx, k, fl, fvs, rfl, hpi⟩ := hv
        have g8 := g6.trans g7
        have p3 := g7.sep _ _ e1 p2
        have r3 := g7.sep _ _ e2 r2
        have d3 := g7.sep _ _ e3 d2
        have e1 := g7.hh _ _ e1
        have e2 := g7.hh _ _ e2
        have e3 := g7.hh _ _ e3
        have e4 := g7.hh _ _ e4
        have hA0 := hA.1
        have hA := (hA.mono (fun x y z => PartAt.mono g7.gg z)).push ⟨a, dx, k, fl, fvs, rfl, hpi⟩
        rw [← hnext] at hA
        have hob := g7.gh _ _ hpi.ob
        refine ⟨_, rfl, rfl, false, congrArg V.bl (decide_eq_false (fun z => by cases z)), iteF ?_⟩
        refine ⟨_, rfl, a, _, dx, _, _, rfl, hob, T.c_Part, T.n_Part_called, rfl, _, rfl, da, _, rfl, DGet.k (k := Sum.inr p.name) e3, ?_⟩
        rw [val_dict_none hnew]
        refine ⟨false, rfl, iteF ?_⟩
        have hul : us.length < 60 := by rw [hA0]; exact hfew
        refine ⟨_, rfl, pa, _, rfl, .inl (SqL.of e1), rfl, false, congrArg V.bl (decide_eq_false (fun z => by have := V.int.inj z; omega)), iteF ?_⟩
        refine ⟨_, rfl, .inl ⟨rfl, _, SqL.of e1⟩, _, rfl, pa, us, _, rfl, rfl, e1, small1000 (by omega), ?_⟩
        have e2' : upd H7 pa (.lst (us ++ [.ref a])) ra = some (.lst ns) := by rw [upd_ne hrp]; exact e2
        refine ⟨_, rfl, .inl ⟨rfl, _, SqL.of e2'⟩, _, rfl, ra, ns, _, rfl, rfl, e2', small1000 (by omega), ?_⟩
        have g9 := (g8.mut (o := .lst (us ++ [.ref a])) hpaH p3).mut (o := .lst (ns ++ [.int (i : Nat)])) hraH r3
        have k1 : upd (upd H7 pa (.lst (us ++ [.ref a]))) ra (.lst (ns ++ [.int (i : Nat)])) pa = some (.lst (us ++ [.ref a])) := by rw [upd_ne hrp.symm, upd_same]
        have k2 : upd (upd H7 pa (.lst (us ++ [.ref a]))) ra (.lst (ns ++ [.int (i : Nat)])) ra = some (.lst (ns ++ [.int (i : Nat)])) := upd_same
        have k3 : upd (upd H7 pa (.lst (us ++ [.ref a]))) ra (.lst (ns ++ [.int (i : Nat)])) da = some (.dK (dictOf (fun p => V.str p.kd.word) (partsOf ((rowsOf text).take i)))) := by rw [upd_ne hdr, upd_ne hdp]; exact e3
        have k4 : upd (upd H7 pa (.lst (us ++ [.ref a]))) ra (.lst (ns ++ [.int (i : Nat)])) la = some (.lst ((Txt.split text "\n").map V.str)) := by rw [upd_ne hlr, upd_ne hlp]; exact e4
        revert g9 k1 k2 k3 k4
        generalize upd (upd H7 pa (.lst (us ++ [.ref a]))) ra (.lst (ns ++ [.int (i : Nat)])) = H9
        intro g9 k1 k2 k3 k4
        have hob := g9.gh _ _ hpi.ob
        have ⟨dk, hk⟩ := hpi.kd.mono g9.gh
        refine ⟨p.kd.c, _, rfl, a, _, dx, _, _, rfl, hob, T.c_Part, T.n_Part_craft, rfl, k, dk, _, rfl, hk, flds_no _ (by decide +kernel), k, p.kd, rfl, ⟨dk, hk⟩, rfl, hpi.ok, ?_⟩
        have hdl : (dictOf (fun p => V.str p.kd.word) (partsOf ((rowsOf text).take i))).length < sizeLine := by
          unfold dictOf
          rw [List.length_map]
          exact small1000 (by omega)
        refine ⟨_, rfl, _, rfl, a, _, dx, _, _, rfl, hob, T.c_Part, T.n_Part_called, rfl, da, _, rfl, DPut.k (k := Sum.inr p.name) k3 hdl, ?_⟩
        rw [dict_push (fun p => V.str p.kd.word) _ _ hnew, ← hnext]
        refine ⟨_, _, _, _, _, _, _, G7, _, _, rfl, g9.mut hdaH d3, p3, r3, d3, by rw [upd_ne hdp.symm]; exact k1, by rw [upd_ne hdr.symm]; exact k2, ?_, upd_same, by rw [upd_ne hld]; exact k4, hA⟩
        rw [List.length_append, List.length_append, hl] <;> rfl
  · rintro σ H2 ⟨v4, v5, v6, v7, v8, v9, v10, G2, us, ns, rfl, g2, p2, r2, d2, e1, e2, hl, e3, e4, hA⟩
    have etake : partsOf ((rowsOf text).take ((Txt.split text "\n").map V.str).length) = ps := by
      rw [List.length_map]
      show partsOf ((rowsOf text).take (rowsOf text).length) = ps
      rw [List.take_length, hR.eq]
    rw [etake] at e3 hA
    clear e4
    refine ⟨_, rfl, Nat.zero_le _, fun ea hea => ?_⟩
    have g3 : Grow G H G2 (upd H2 ea (.lst [])) := g2.temp hea
    refine ⟨pa, ea, _, rfl, rfl, SqL.of (Same.new hea _ _ e1), SqL.of upd_same, false, ?_, iteF ?_⟩
    · cases hus : us with
      | nil =>
        have := hA.1
        rw [hus] at this
        exact absurd (List.eq_nil_of_length_eq_zero this.symm) hR.ne
      | cons u r => rfl
    have e1 := Same.new (o := .lst []) hea _ _ e1
    have e2 := Same.new (o := .lst []) hea _ _ e2
    have e3 := Same.new (o := .lst []) hea _ _ e3
    revert g3 e1 e2 e3
    generalize upd H2 ea (HO.lst []) = H3
    intro g3 e1 e2 e3
    clear g2
    refine ⟨_, rfl, _, rfl, pa, ra, us, ns, rfl, SqL.of e1, SqL.of e2, ?_⟩
    refine for_it (walk_zip (K := K) (a := pa) (b := ra) (xs := us) (ys := ns) (n := us.length) (by omega)) (fun i σ H' => ∃ v4 v5 v6 v7 v8 v9 v10, σ = [some (.str text), some (.ref pa), some (.ref ra), some (.ref da), v4, v5, v6, v7, v8, v9, v10] ∧ Same H3 H')
      ⟨_, _, _, _, _, _, _, rfl, Same.refl _⟩ (fun i σ H' _ h => by obtain ⟨_, _, _, _, _, _, _, _, s⟩ := h; exact ⟨SqL.of (s _ _ e1), SqL.of (s _ _ e2)⟩) ?_ ?_
    · rintro i x σ H4 H5 hi ⟨v4, v5, v6, v7, v8, v9, v10, rfl, s4⟩ ⟨t, y, z, rfl, ht, rfl, hy, hz⟩
      obtain ⟨p, hpi, a, dx, k, fl, fvs, rfl, hp⟩ := hA.get hy
      have hpm : p ∈ ps := List.mem_of_getElem? hpi
      refine ⟨t, _, rfl, SqT.of upd_same, rfl, _, _, rfl, _, _, rfl, rfl, ?_⟩
      have s5 : Same H3 (upd H4 t (.tup [.ref a, z])) := s4.trans (Same.new ht)
      revert s5
      generalize upd H4 t (HO.tup [.ref a, z]) = H5
      intro s5
      have hob := s5 _ _ (g3.gh _ _ hp.ob)
      refine ⟨_, rfl, a, _, dx, _, _, rfl, hob, T.c_Part, T.n_Part_feeds, rfl, fl, rfl, ⟨_, SqL.of (s5 _ _ (g3.gh _ _ hp.ls))⟩, ?_⟩
      refine for_list (K := K) (a := fl) (xs := fvs) (fun j σ H' => ∃ v5 v6 v7 v9 v10, σ = [some (.str text), some (.ref pa), some (.ref ra), some (.ref da), some z, v5, v6, v7, some (.ref a), v9, v10] ∧ Same H5 H')
        ⟨_, _, _, _, _, rfl, Same.refl _⟩ (fun i σ H' _ h => by obtain ⟨_, _, _, _, _, _, s⟩ := h; exact SqL.of (s _ _ (s5 _ _ (g3.gh _ _ hp.ls)))) ?_ ?_
      · rintro j y σ H6 hj ⟨v5, v6, v7, v9, v10, rfl, s6⟩
        obtain ⟨f, hfj, ft, rfl, hft⟩ := hp.fs.get hj
        have hfm : f ∈ p.feeds := List.mem_of_getElem? hfj
        have hft6 := s6 _ _ (s5 _ _ (g3.gh _ _ hft))
        have e36 := s6 _ _ (s5 _ _ e3)
        obtain ⟨r, hrm, hrn, hrc⟩ := hR.fed p hpm f hfm
        refine ⟨_, rfl, da, rfl, .inl ⟨_, .inl e36⟩, _, rfl, ft, _, _, _, rfl, rfl, SqT.of hft6, at0 _ _, _, DGet.k (k := Sum.inr f.1) e36, ?_⟩
        rw [← hrn, val_dict hwf.nd hrm]
        refine ⟨rfl, false, ?_, iteF ⟨_, _, _, _, _, rfl, s6⟩⟩
        have : r.kd.word ≠ "out" := fun z => hrc ((isEnd_word r.kd).2.mp z)
        exact congrArg V.bl (decide_eq_false (fun z => this (V.str.inj z)))
      · rintro σ H6 ⟨v5, v6, v7, v9, v10, rfl, s6⟩
        exact ⟨_, _, _, _, _, _, _, rfl, s5.trans s6⟩
    · rintro σ H4 ⟨v4, v5, v6, v7, v8, v9, v10, rfl, s4⟩
      have g4 := g3.same s4
      have e1 := s4 _ _ e1
      refine ⟨_, rfl, ?_⟩
      intro x dx nx mx ex
      refine ⟨x, dx, _, rfl, upd_same, ⟨rfl, ?_⟩⟩
      rw [upd_upd]
      have g5 := g4.make (C := ga K "Works") (fs := [("parts", .ref pa)]) nx mx
      have s45 : Same H4 (upd (upd H4 dx (.own x)) x (.ins (ga K "Works") dx [("parts", .ref pa)])) := fun b o e => by rw [upd_ne (ne_of_none e nx), upd_ne (ne_of_none e mx)]; exact e
      have e1 := s45 _ _ e1
      have x5 : (upd (upd H4 dx (.own x)) x (.ins (ga K "Works") dx [("parts", .ref pa)])) x = some (.ins (ga K "Works") dx [("parts", .ref pa)]) := upd_same
      have hpx : pa ≠ x := ne_of_none (s4 _ _ (by assumption)) nx
      revert g5 e1 x5
      show Grow _ _ _ (upd (upd H4 dx (HO.own x)) x (HO.ins (ga K "Works") dx [("parts", .ref pa)])) → _ → _ → _
      generalize upd (upd H4 dx (HO.own x)) x (HO.ins (ga K "Works") dx [("parts", .ref pa)]) = H5
      intro g5 e1 x5
      have hxH : H x = none := g4.hh.free nx
      have hxG : G2 x = none := g4.gh.free nx
      have g6 := (g5.keep hpaH p2 e1).keep hxH (by rw [upd_ne hpx.symm]; exact hxG) x5
      have w6 : WorksAt K (upd (upd G2 pa (.lst us)) x (.ins (ga K "Works") dx [("parts", .ref pa)])) x ps :=
        ⟨dx, pa, us, upd_same, by rw [upd_ne hpx, upd_same], hA.mono fun _ _ z => z.mono ((Same.new p2).trans (Same.new (by rw [upd_ne hpx.symm]; exact hxG)))⟩
      refine ⟨_, rfl, _, x, ps, rfl, g6.gh, w6, hwf, fun qo us' os H6 s6 _ _ _ _ _ => ?_⟩
      exact ⟨_, rfl, q x _ _ (g6.same s6) hxH w6⟩
end
end SW


/-! ### the text of a works -/
namespace SW
open PySem PySem.Spec PyProof.Rows L2 He TL
def feedText (f : Str × Int) : Str := if f.2 = 0 then f.1 else (f.1 ++ ("/" : Str)) ++ Str.ofString (toString f.2)
def rowWords (p : Pd) : List Str := [p.name, p.kd.word, Str.ofString (toString p.time)] ++ p.feeds.map feedText
def shownRow (p : Pd) : Str := Txt.join " " (rowWords p)
def shownText (ps : List Pd) : Str := Txt.join "\n" (ps.map shownRow)
def Tell (ps : List Pd) : Prop := ∀ p ∈ ps, (0 ≤ p.time ∧ p.time < 10000) ∧ ∀ f ∈ p.feeds, 0 ≤ f.2 ∧ f.2 < 10000
def spShown (K : PySem.W.Frag) : Sp := fun vs H Q _ => ∃ (G : Hp) (a : Addr) (ps : List Pd), vs = [.ref a] ∧ Same G H ∧ WorksAt K G a ps ∧ Wf ps ∧ Tell ps ∧
  ∀ H', Same H H' → Q (.str (shownText ps)) H'
theorem joinL_len (S : List Nat) : ∀ ps : List (List Nat), (joinL S ps).length ≤ (ps.map List.length).sum + ps.length * S.length
  | [] => Nat.zero_le _
  | [p] => by
    show p.length ≤ _
    simp
  | p :: q :: r => by
    have ih := joinL_len S (q :: r)
    have e : joinL S (p :: q :: r) = p ++ (S ++ joinL S (q :: r)) := rfl
    rw [e, List.length_append, List.length_append, List.map_cons, List.sum_cons, List.length_cons (a := p), Nat.add_mul]
    omega
theorem join_len (y : Str) (parts : List Str) : (Txt.join y parts).length ≤ (parts.map (·.length)).sum + parts.length * y.length := by
  rw [join_eq, len_tl, tl_join]
  have := joinL_len (tl y) (parts.map tl)
  rw [List.map_map, List.length_map, ← len_tl] at this
  have e : (List.length ∘ tl) = fun x : Str => x.length := funext fun x => (len_tl x).symm
  rw [e] at this
  exact this
theorem sum_le {α : Type} (f : α → Nat) (m : Nat) : ∀ l : List α, (∀ x ∈ l, f x ≤ m) → (l.map f).sum ≤ l.length * m
  | [], _ => by simp
  | x :: l, h => by
    have h1 := sum_le f m l fun y hy => h y (List.mem_cons_of_mem _ hy)
    have h2 := h x (List.mem_cons_self ..)
    rw [List.map_cons, List.sum_cons, List.length_cons, Nat.add_mul]
    omega
theorem word_len {k : Kd} (h : k.ok) : k.word.length ≤ 10 := by
  obtain ⟨c, n⟩ := k
  cases c
  · show ("in" : Str).length ≤ 10; decide +kernel
  · show ("out" : Str).length ≤ 10; decide +kernel
  · show ("and" : Str).length ≤ 10; decide +kernel
  · show ("or" : Str).length ≤ 10; decide +kernel
  · show ("odd" : Str).length ≤ 10; decide +kernel
  · show ("plus" : Str).length ≤ 10; decide +kernel
  · show ("pick" : Str).length ≤ 10; decide +kernel
  · have h1 : 1 ≤ n ∧ n ≤ 63 := h rfl
    have h2 : (Str.ofString (toString n)).length ≤ 4 := num_len (by have := h1.1; omega) (by have := h1.2; omega)
    show (("up:" : Str) ++ Str.ofString (toString n)).length ≤ 10
    rw [len_tl, tl_append, List.length_append, ← len_tl, ← len_tl, up_len]
    omega
  · have h1 : 1 ≤ n ∧ n ≤ 63 := h rfl
    have h2 : (Str.ofString (toString n)).length ≤ 4 := num_len (by have := h1.1; omega) (by have := h1.2; omega)
    show (("down:" : Str) ++ Str.ofString (toString n)).length ≤ 10
    rw [len_tl, tl_append, List.length_append, ← len_tl, ← len_tl, down_len]
    omega
theorem name_len {z : Str} (h : goodName (tl z) = true) : z.length ≤ 8 := by
  unfold goodName at h
  rw [Bool.and_eq_true, Bool.and_eq_true, decide_eq_true_eq, decide_eq_true_eq] at h
  rw [len_tl]
  exact h.1.2
theorem slash_len : ("/" : Str).length = 1 := by decide +kernel
theorem feedText_len {f : Str × Int} (h : f.1.length ≤ 8) (h0 : 0 ≤ f.2) (h1 : f.2 < 10000) : (feedText f).length ≤ 20 := by
  unfold feedText
  split
  · omega
  · rw [len_tl, tl_append, tl_append, List.length_append, List.length_append, ← len_tl, ← len_tl, ← len_tl, slash_len]
    have := num_len h0 h1
    omega
theorem rowWords_le {p : Pd} {ps : List Pd} (hf : Wf ps) (ht : Tell ps) (ok : p.kd.ok) (hp : p ∈ ps) : (∀ z ∈ rowWords p, z.length ≤ 20) ∧ (rowWords p).length ≤ 6 := by
  refine ⟨fun z hz => ?_, ?_⟩
  · unfold rowWords at hz
    rcases List.mem_append.mp hz with h | h
    · simp only [List.mem_cons, List.not_mem_nil, or_false] at h
      rcases h with rfl | rfl | rfl
      · exact Nat.le_trans (name_len (hf.nn p hp)) (by decide)
      · exact Nat.le_trans (word_len ok) (by decide)
      · exact Nat.le_trans (num_len (ht p hp).1.1 (ht p hp).1.2) (by decide)
    · obtain ⟨f, hfm, rfl⟩ := List.mem_map.mp h
      exact feedText_len (name_len (hf.good hp hfm)) ((ht p hp).2 f hfm).1 ((ht p hp).2 f hfm).2
  · unfold rowWords
    rw [List.length_append, List.length_map, hf.ln p hp]
    have := lines_le p.kd.c
    show 3 + _ ≤ 6
    omega
theorem shownRow_le {p : Pd} {ps : List Pd} (hf : Wf ps) (ht : Tell ps) (ok : p.kd.ok) (hp : p ∈ ps) : (shownRow p).length ≤ 130 := by
  obtain ⟨h1, h2⟩ := rowWords_le hf ht ok hp
  have h3 := join_len " " (rowWords p)
  have h4 := sum_le (fun x : Str => x.length) 20 (rowWords p) h1
  have e : (" " : Str).length = 1 := by decide +kernel
  rw [e] at h3
  have h5 := Nat.mul_le_mul_right 20 h2
  unfold shownRow
  omega
end SW


/-! ### the laws' small helpers: a cell, how many lines, a name, a word -/
namespace SW
open PySem PySem.Spec PyProof.Rows L2 He TL
def cellAt (ns : List Int) (k : Nat) : Int := (ns[k]?).getD 0
def spCellAt (K : PySem.W.Frag) : Sp := fun vs H Q _ => ∃ (a : Addr) (ns : List Int) (k : Nat), vs = [.ref a, .int (k : Int)] ∧ SqL K H a (ns.map V.int) ∧ Q (.int (cellAt ns k)) H
def spAsks : Sp := fun vs H Q _ => ∃ (kd : Kd), vs = [.str kd.word] ∧ kd.ok ∧ Q (.int (kd.c.lines : Nat)) H
theorem tl_cut (z : Str) (n : Nat) : tl (cutS z none (some (n : Int))) = (tl z).take n := by
  have h := len_tl z
  show ((z.cps.toList.drop (HT.sIx z.length 0 none)).take (HT.sIx z.length z.length (some (n : Int)) - HT.sIx z.length 0 none)) = (z.cps.toList).take n
  rw [HT.sIx_none, HT.sIx_nat, List.drop_zero, Nat.sub_zero]
  by_cases hn : n ≤ z.length
  · rw [Nat.min_eq_left hn]
  · rw [Nat.min_eq_right (by omega), List.take_of_length_le, List.take_of_length_le]
    · show (tl z).length ≤ n; omega
    · show (tl z).length ≤ z.length; omega
theorem tl_up2 : tl ("up" : Str) = [117, 112] := by decide +kernel
theorem tl_down2 : tl ("down" : Str) = [100, 111, 119, 110] := by decide +kernel
theorem tl_pick2 : tl ("pick" : Str) = [112, 105, 99, 107] := by decide +kernel
/-- what the law asks of a word -/
theorem asks_word (kd : Kd) : (decide (tl kd.word = tl ("in" : Str)) = decide (kd.c = .src)) ∧ ((decide (tl kd.word = tl ("out" : Str)) || (decide ((tl kd.word).take 2 = tl ("up" : Str)) || decide ((tl kd.word).take 4 = tl ("down" : Str)))) = decide (kd.c = .snk ∨ kd.c = .up ∨ kd.c = .down)) ∧
    (decide (tl kd.word = tl ("pick" : Str)) = decide (kd.c = .pick)) := by
  obtain ⟨c, n⟩ := kd
  rw [tl_in, tl_out, tl_up2, tl_down2, tl_pick2]
  cases c
  · exact (by decide +kernel : (decide (tl ("in" : Str) = [105, 110]) = decide (Kc.src = .src)) ∧ ((decide (tl ("in" : Str) = [111, 117, 116]) || (decide ((tl ("in" : Str)).take 2 = [117, 112]) || decide ((tl ("in" : Str)).take 4 = [100, 111, 119, 110]))) = decide (Kc.src = .snk ∨ Kc.src = .up ∨ Kc.src = .down)) ∧ (decide (tl ("in" : Str) = [112, 105, 99, 107]) = decide (Kc.src = .pick)))
  · exact (by decide +kernel : (decide (tl ("out" : Str) = [105, 110]) = decide (Kc.snk = .src)) ∧ ((decide (tl ("out" : Str) = [111, 117, 116]) || (decide ((tl ("out" : Str)).take 2 = [117, 112]) || decide ((tl ("out" : Str)).take 4 = [100, 111, 119, 110]))) = decide (Kc.snk = .snk ∨ Kc.snk = .up ∨ Kc.snk = .down)) ∧ (decide (tl ("out" : Str) = [112, 105, 99, 107]) = decide (Kc.snk = .pick)))
  · exact (by decide +kernel : (decide (tl ("and" : Str) = [105, 110]) = decide (Kc.both = .src)) ∧ ((decide (tl ("and" : Str) = [111, 117, 116]) || (decide ((tl ("and" : Str)).take 2 = [117, 112]) || decide ((tl ("and" : Str)).take 4 = [100, 111, 119, 110]))) = decide (Kc.both = .snk ∨ Kc.both = .up ∨ Kc.both = .down)) ∧ (decide (tl ("and" : Str) = [112, 105, 99, 107]) = decide (Kc.both = .pick)))
  · exact (by decide +kernel : (decide (tl ("or" : Str) = [105, 110]) = decide (Kc.either = .src)) ∧ ((decide (tl ("or" : Str) = [111, 117, 116]) || (decide ((tl ("or" : Str)).take 2 = [117, 112]) || decide ((tl ("or" : Str)).take 4 = [100, 111, 119, 110]))) = decide (Kc.either = .snk ∨ Kc.either = .up ∨ Kc.either = .down)) ∧ (decide (tl ("or" : Str) = [112, 105, 99, 107]) = decide (Kc.either = .pick)))
  · exact (by decide +kernel : (decide (tl ("odd" : Str) = [105, 110]) = decide (Kc.odd = .src)) ∧ ((decide (tl ("odd" : Str) = [111, 117, 116]) || (decide ((tl ("odd" : Str)).take 2 = [117, 112]) || decide ((tl ("odd" : Str)).take 4 = [100, 111, 119, 110]))) = decide (Kc.odd = .snk ∨ Kc.odd = .up ∨ Kc.odd = .down)) ∧ (decide (tl ("odd" : Str) = [112, 105, 99, 107]) = decide (Kc.odd = .pick)))
  · exact (by decide +kernel : (decide (tl ("plus" : Str) = [105, 110]) = decide (Kc.plus = .src)) ∧ ((decide (tl ("plus" : Str) = [111, 117, 116]) || (decide ((tl ("plus" : Str)).take 2 = [117, 112]) || decide ((tl ("plus" : Str)).take 4 = [100, 111, 119, 110]))) = decide (Kc.plus = .snk ∨ Kc.plus = .up ∨ Kc.plus = .down)) ∧ (decide (tl ("plus" : Str) = [112, 105, 99, 107]) = decide (Kc.plus = .pick)))
  · exact (by decide +kernel : (decide (tl ("pick" : Str) = [105, 110]) = decide (Kc.pick = .src)) ∧ ((decide (tl ("pick" : Str) = [111, 117, 116]) || (decide ((tl ("pick" : Str)).take 2 = [117, 112]) || decide ((tl ("pick" : Str)).take 4 = [100, 111, 119, 110]))) = decide (Kc.pick = .snk ∨ Kc.pick = .up ∨ Kc.pick = .down)) ∧ (decide (tl ("pick" : Str) = [112, 105, 99, 107]) = decide (Kc.pick = .pick)))
  · have e : tl (Kd.word ⟨.up, n⟩) = [117, 112, 58] ++ tl (toString n : Str) := by rw [← tl_up]; exact tl_append _ _
    rw [e]
    refine ⟨?_, ?_, ?_⟩ <;> simp
  · have e : tl (Kd.word ⟨.down, n⟩) = [100, 111, 119, 110, 58] ++ tl (toString n : Str) := by rw [← tl_down]; exact tl_append _ _
    rw [e]
    refine ⟨?_, ?_, ?_⟩ <;> simp
def nameSignAt (i : Nat) : Nat := if i < 26 then 97 + i else 22 + i
def lawName (k : Nat) (m : Int) : Str := ((repS "q" (m % 4).toNat ++ (⟨#[nameSignAt (((k : Int) + m) % 36).toNat]⟩ : Str)) ++ (⟨#[48 + k / 36]⟩ : Str)) ++ repS "q" (m / 4 % 3).toNat
theorem sign_at {i : Nat} (h : i < 36) : (tl nameSigns)[i]? = some (nameSignAt i) := by
  rw [tl_signs]
  have : ∀ i < 36, ([97, 98, 99, 100, 101, 102, 103, 104, 105, 106, 107, 108, 109, 110, 111, 112, 113, 114, 115, 116, 117, 118, 119, 120, 121, 122, 48, 49, 50, 51, 52, 53, 54, 55, 56, 57] : List Nat)[i]? = some (nameSignAt i) := by decide
  exact this i h
theorem tl_q : tl ("q" : Str) = [113] := by decide +kernel
theorem tl_repq (n : Nat) : tl (repS "q" n) = List.replicate n 113 := by
  rw [rep_len, tl_q]
  induction n with
  | zero => rfl
  | succ n ih => rw [List.replicate_succ, List.flatten_cons, ih, List.replicate_succ] <;> rfl
theorem tl_name (k : Nat) (m : Int) : tl (lawName k m) = List.replicate (m % 4).toNat 113 ++ nameSignAt (((k : Int) + m) % 36).toNat :: (48 + k / 36) :: List.replicate (m / 4 % 3).toNat 113 := by
  unfold lawName
  rw [tl_append, tl_append, tl_append, tl_repq, tl_repq, List.append_assoc, List.append_assoc] <;> rfl
theorem name_good {k : Nat} (m : Int) (h : k < 72) : goodName (tl (lawName k m)) = true := by
  have h1 : 0 ≤ m % 4 ∧ m % 4 < 4 := ⟨Int.emod_nonneg _ (by decide), Int.emod_lt_of_pos _ (by decide)⟩
  have h2 : 0 ≤ m / 4 % 3 ∧ m / 4 % 3 < 3 := ⟨Int.emod_nonneg _ (by decide), Int.emod_lt_of_pos _ (by decide)⟩
  have h3 : 0 ≤ ((k : Int) + m) % 36 ∧ ((k : Int) + m) % 36 < 36 := ⟨Int.emod_nonneg _ (by decide), Int.emod_lt_of_pos _ (by decide)⟩
  unfold goodName
  rw [tl_name]
  rw [Bool.and_eq_true, Bool.and_eq_true, decide_eq_true_eq, decide_eq_true_eq, List.all_eq_true]
  refine ⟨⟨?_, ?_⟩, fun c hc => ?_⟩
  · simp
    omega
  · simp
    omega
  · have hq : nameSign 113 = true := by decide
    rcases List.mem_append.mp hc with hc | hc
    · rw [(List.mem_replicate.mp hc).2]
      exact hq
    · rcases List.mem_cons.mp hc with hc | hc
      · rw [hc]
        have : ∀ i < 36, nameSign (nameSignAt i) = true := by decide
        exact this _ (by omega)
      · rcases List.mem_cons.mp hc with hc | hc
        · rw [hc]
          have : ∀ i < 2, nameSign (48 + i) = true := by decide
          exact this _ (by omega)
        · rw [(List.mem_replicate.mp hc).2]
          exact hq
theorem name_inj {j k : Nat} {m : Int} (hj : j < 72) (hk : k < 72) (h : lawName j m = lawName k m) : j = k := by
  have h1 := congrArg tl h
  rw [tl_name, tl_name] at h1
  have h2 := List.append_cancel_left h1
  simp only [List.cons.injEq] at h2
  obtain ⟨e1, e2, _⟩ := h2
  have a1 : 0 ≤ ((j : Int) + m) % 36 ∧ ((j : Int) + m) % 36 < 36 := ⟨Int.emod_nonneg _ (by decide), Int.emod_lt_of_pos _ (by decide)⟩
  have a2 : 0 ≤ ((k : Int) + m) % 36 ∧ ((k : Int) + m) % 36 < 36 := ⟨Int.emod_nonneg _ (by decide), Int.emod_lt_of_pos _ (by decide)⟩
  unfold nameSignAt at e1
  split at e1 <;> split at e1 <;> omega
def spName : Sp := fun vs H Q _ => ∃ (k : Nat) (m : Int), vs = [.int (k : Int), .int m] ∧ k < 72 ∧ Q (.str (lawName k m)) H
/-- counted kinds within bounds, others without a count -/
def Kd.fit (k : Kd) : Prop := k.ok ∧ (k.c.cnt = false → k.n = 0)
def spWordL : Sp := fun vs H Q _ => ∃ (c : Int) (k : Nat), vs = [.int c, .int (k : Int)] ∧ k < 1000 ∧ ∀ (kd : Kd) (H' : Hp), kd.fit → Same H H' → Q (.str kd.word) H'
section
variable {P : Program} {w : World} {K : PySem.W.Frag} {mg : Str → Option Value} {base : Heap}
theorem ok_cell_at (T : Txt K mg) : Ok P w K mg base 1 (ga K "_law_cell_at") ["_law_script", "_law_k"] (spCellAt K) := by
  refine mkOk T.F_law_cell_at sc_law_cell_at (fun _ _ _ _ _ _ us hl => match us, hl with | [_, _], _ => rfl) (by rintro vs H Q E ⟨_, _, _, rfl, _⟩; rfl) (fun cdv A outer s H vs Q E hr h => ?_)
  obtain ⟨a, ns, k, rfl, hS, q⟩ := h
  refine ⟨_, (pss_cons (ps_if (pt_cmpR op_lt (pv 1) (pe_callB (lenQ (K := K)) (by rfl) T.f_len (by decide +kernel) (pa_cons (pv 0) pa_nil)) (nomark _)) (pss_one (ps_ret (pe_ix (ixL (K := K)) (pv 0) (pv 1) (fun _ _ => rfl)))) pss_nil)
      (pss_one (ps_ret pe_int))), ?_⟩
  refine ⟨_, rfl, _, rfl, a, _, rfl, .inl hS, _, _, rfl, rfl, _, rfl, ?_⟩
  rw [List.length_map]
  unfold cellAt at q
  refine ite2 (fun h1 => ?_) (fun h1 => ?_)
  · have h2 : k < ns.length := by have := of_decide_eq_true h1; omega
    refine ⟨_, rfl, _, rfl, a, _, _, V.int ns[k], rfl, rfl, hS, atI_nat (by rw [List.getElem?_map, List.getElem?_eq_getElem h2] <;> rfl), ?_⟩
    rw [List.getElem?_eq_getElem h2] at q
    exact q
  · have h2 : ¬ k < ns.length := fun z => h1 (decide_eq_true (by omega))
    rw [List.getElem?_eq_none (by omega)] at q
    exact q
theorem ok_asks (T : Txt K mg) : Ok P w K mg base 1 (ga K "_law_asks") ["_law_word_here"] spAsks := by
  refine mkOk T.F_law_asks sc_law_asks (fun _ _ _ _ _ _ us hl => match us, hl with | [_], _ => rfl) (by rintro vs H Q E ⟨_, rfl, _⟩; rfl) (fun cdv A outer s H vs Q E hr h => ?_)
  obtain ⟨kd, rfl, hok, q⟩ := h
  refine ⟨_, (pss_cons (ps_if (pt_cmpR op_eq (pv 0) pe_str (nomark _)) (pss_one (ps_ret pe_int)) pss_nil)
      (pss_cons (ps_if (PW.pt (pw_or (pt_cmpR op_eq (pv 0) pe_str (nomark _)) (pw_or (pt_cmpR op_eq (pe_slice sl_str (pv 0) po_none (po_some pe_int)) pe_str (nomark _)) (pw_or1 (pt_cmpR op_eq (pe_slice sl_str (pv 0) po_none (po_some pe_int)) pe_str (nomark _)))))) (pss_one (ps_ret pe_int)) pss_nil)
      (pss_cons (ps_if (pt_cmpR op_eq (pv 0) pe_str (nomark _)) (pss_one (ps_ret pe_int)) pss_nil)
      (pss_one (ps_ret pe_int))))), ?_⟩
  obtain ⟨a1, a2, a3⟩ := asks_word kd
  have hl : kd.word.length ≤ 100000 := Nat.le_trans (word_len hok) (by decide)
  refine ⟨_, rfl, rfl, _, rfl, ?_⟩
  rw [dstr, a1]
  refine ite2 (fun h1 => ?_) (fun h1 => ?_)
  · have hc : kd.c = .src := of_decide_eq_true h1
    rw [hc] at q
    exact q
  have hs : kd.c ≠ .src := fun z => h1 (decide_eq_true z)
  have yes : (kd.c = .snk ∨ kd.c = .up ∨ kd.c = .down) → Q (.int 1) H := fun z => by
    rcases z with z | z | z <;> rw [z] at q <;> exact q
  have no : ¬ (kd.c = .snk ∨ kd.c = .up ∨ kd.c = .down) → kd.c = .pick ∧ Q (.int 3) H ∨ kd.c ≠ .pick ∧ Q (.int 2) H := fun z => by
    revert hs z q
    cases kd.c <;> intro q hs z <;> first
      | exact absurd rfl hs
      | exact absurd (.inl rfl) z
      | exact absurd (.inr (.inl rfl)) z
      | exact absurd (.inr (.inr rfl)) z
      | exact .inl ⟨rfl, q⟩
      | exact .inr ⟨by decide, q⟩
  refine ⟨_, rfl, rfl, _, rfl, ?_⟩
  rw [dstr]
  refine ite2 (fun h2 => ?_) (fun h2 => ?_)
  · refine iteT (yes ?_)
    rw [h2] at a2
    exact of_decide_eq_true a2.symm
  rw [Bool.eq_false_iff.mpr h2, Bool.false_or] at a2
  refine ⟨_, rfl, _, rfl, kd.word, rfl, Nat.le_trans hl (by decide), rfl, _, rfl, ?_⟩
  rw [dstr, show tl (cutS kd.word none (some 2)) = (tl kd.word).take 2 from tl_cut _ 2]
  refine ite2 (fun h3 => ?_) (fun h3 => ?_)
  · refine iteT (yes ?_)
    rw [h3] at a2
    exact of_decide_eq_true a2.symm
  rw [Bool.eq_false_iff.mpr h3, Bool.false_or] at a2
  refine ⟨_, rfl, _, rfl, kd.word, rfl, Nat.le_trans hl (by decide), rfl, _, rfl, ?_⟩
  rw [dstr, show tl (cutS kd.word none (some 4)) = (tl kd.word).take 4 from tl_cut _ 4]
  refine ite2 (fun h4 => ?_) (fun h4 => ?_)
  · refine yes ?_
    rw [h4] at a2
    exact of_decide_eq_true a2.symm
  rw [Bool.eq_false_iff.mpr h4] at a2
  have hno : ¬ (kd.c = .snk ∨ kd.c = .up ∨ kd.c = .down) := of_decide_eq_false a2.symm
  refine ⟨_, rfl, rfl, _, rfl, ?_⟩
  rw [dstr, a3]
  rcases no hno with ⟨h, q⟩ | ⟨h, q⟩
  · rw [decide_eq_true h]
    exact iteT q
  · rw [decide_eq_false h]
    exact iteF q
theorem ok_name (T : Txt K mg) : Ok P w K mg base 1 (ga K "_law_name") ["_law_k", "_law_mark"] spName := by
  refine mkOk T.F_law_name sc_law_name (fun _ _ _ _ _ _ us hl => match us, hl with | [_, _], _ => rfl) (by rintro vs H Q E ⟨_, _, rfl, _⟩; rfl) (fun cdv A outer s H vs Q E hr h => ?_)
  obtain ⟨k, m, rfl, hk, q⟩ := h
  refine ⟨_, (pss_cons (ps_set (i := 2) sc_law_name.nd rfl (by first | exact Or.inl rfl | exact Or.inr rfl) (pe_ix ix_str pe_str (pe_op op_mod (pe_op op_add (pv 0) (pv 1)) pe_int) (fun _ _ => rfl)))
      (pss_one (ps_ret (pe_op op_add_str (pe_op op_add_str (pe_op op_add_str (pe_op op_mul_str pe_str (pe_op op_mod (pv 1) pe_int)) (pv 2)) (pe_ix ix_str pe_str (pe_op op_fdiv (pv 0) pe_int) (fun _ _ => rfl))) (pe_op op_mul_str pe_str (pe_op op_mod (pe_op op_fdiv (pv 1) pe_int) pe_int)))))), ?_⟩
  have h1 : 0 ≤ m % 4 ∧ m % 4 < 4 := ⟨Int.emod_nonneg _ (by decide), Int.emod_lt_of_pos _ (by decide)⟩
  have h2 : 0 ≤ m / 4 % 3 ∧ m / 4 % 3 < 3 := ⟨Int.emod_nonneg _ (by decide), Int.emod_lt_of_pos _ (by decide)⟩
  have h3 : 0 ≤ ((k : Int) + m) % 36 ∧ ((k : Int) + m) % 36 < 36 := ⟨Int.emod_nonneg _ (by decide), Int.emod_lt_of_pos _ (by decide)⟩
  have e1 : m % 4 = (((m % 4).toNat : Nat) : Int) := by omega
  have e2 : m / 4 % 3 = (((m / 4 % 3).toNat : Nat) : Int) := by omega
  have e3 : ((k : Int) + m) % 36 = (((((k : Int) + m) % 36).toNat : Nat) : Int) := by omega
  refine ⟨_, rfl, _, rfl, _, _, rfl, rfl, _, _, rfl, rfl, (by decide : (0 : Int) < 36), nameSigns, _, nameSignAt (((k : Int) + m) % 36).toNat, rfl, rfl, (by decide +kernel), ?_, ?_⟩
  · rw [e3]
    exact atI_nat (sign_at (by omega))
  have lq : ∀ n, (repS "q" n).length = n := fun n => by rw [len_tl, tl_repq, List.length_replicate]
  have l1 : ∀ c, (⟨#[c]⟩ : Str).length = 1 := fun c => rfl
  have la : ∀ a b : Str, (a ++ b).length = a.length + b.length := fun a b => by rw [len_tl, tl_append, List.length_append, ← len_tl, ← len_tl]
  have big : ∀ {n : Nat}, n ≤ 100 → n ≤ sizeLine := fun h => Nat.le_trans h (by decide)
  have eq1 : ("q" : Str).length ≤ 100 := by decide +kernel
  refine ⟨_, rfl, _, _, rfl, rfl, (by decide : (0 : Int) < 4), _, _, rfl, congrArg V.int e1, eq1, by omega, ?_⟩
  refine ⟨_, rfl, _, _, rfl, rfl, big (by rw [lq, l1]; omega), ?_⟩
  have e4 : (k : Int) / 36 = ((k / 36 : Nat) : Int) := rfl
  refine ⟨_, rfl, _, _, rfl, rfl, ⟨by decide, by decide⟩, ("01" : Str), _, 48 + k / 36, rfl, rfl, (by decide +kernel), ?_, ?_⟩
  · rw [e4]
    refine atI_nat ?_
    have t01 : ("01" : Str).cps.toList = [48, 49] := by decide +kernel
    rw [t01]
    have : ∀ i < 2, ([48, 49] : List Nat)[i]? = some (48 + i) := by decide
    exact this _ (by omega)
  refine ⟨_, _, rfl, rfl, big (by rw [la, lq, l1, l1]; omega), ?_⟩
  refine ⟨_, rfl, _, _, rfl, rfl, ⟨by decide, by decide⟩, _, _, rfl, rfl, (by decide : (0 : Int) < 3), _, _, rfl, congrArg V.int e2, eq1, by omega, ?_⟩
  refine ⟨_, _, rfl, rfl, big (by rw [la, la, lq, lq, l1, l1]; omega), q⟩
theorem ok_wordL (T : Txt K mg) : Ok P w K mg base 2 (ga K "_law_word") ["_law_cell", "_law_k"] spWordL := by
  have G_law_draw := ok_draw (P := P) (w := w) (base := base) T
  refine mkOk T.F_law_word sc_law_word (fun _ _ _ _ _ _ us hl => match us, hl with | [_, _], _ => rfl) (by rintro vs H Q E ⟨_, _, rfl, _⟩; rfl) (fun cdv A outer s H vs Q E hr h => ?_)
  obtain ⟨c, k, rfl, hk, q⟩ := h
  refine ⟨_, (pss_cons (ps_set (i := 2) sc_law_word.nd rfl (by first | exact Or.inl rfl | exact Or.inr rfl) (pe_callO G_law_draw (hr.mono (by decide)) T.g_law_draw (pa_cons (pv 0) (pa_cons pe_int (pa_cons pe_int pa_nil)))))
      (pss_cons (ps_set (i := 3) sc_law_word.nd rfl (by first | exact Or.inl rfl | exact Or.inr rfl) (pe_tup (pa_cons pe_str (pa_cons pe_str (pa_cons pe_str (pa_cons pe_str (pa_cons pe_str (pa_cons pe_str (pa_cons pe_str (pa_cons pe_str (pa_cons pe_str (pa_cons pe_str pa_nil))))))))))))
      (pss_cons (ps_if (pt_cmpR op_lt (pv 2) pe_int (nomark _)) (pss_one (ps_ret (pe_ix (ixT (K := K)) (pv 3) (pv 2) (fun _ _ => rfl)))) pss_nil)
      (pss_one (ps_ret (pe_op op_add_str (pe_ix (ixT (K := K)) (pe_tup (pa_cons pe_str (pa_cons pe_str pa_nil))) (pe_op op_sub (pv 2) pe_int) (fun _ _ => rfl)) (pe_callTy call_str_int (by rfl) T.f_str (by decide +kernel) (pa_cons (pe_op op_add pe_int (pe_op op_fdiv (pe_callO G_law_draw (hr.mono (by decide)) T.g_law_draw (pa_cons (pv 0) (pa_cons pe_int (pa_cons pe_int pa_nil)))) (pe_op op_add pe_int (pe_op op_mul pe_int (pe_callO G_law_draw (hr.mono (by decide)) T.g_law_draw (pa_cons (pv 0) (pa_cons pe_int (pa_cons pe_int pa_nil)))))))) pa_nil)))))))), ?_⟩
  have d0 := draw_lo c 0 (show (0 : Int) < 12 by decide)
  have d1 := draw_hi c 0 (show (0 : Int) < 12 by decide)
  refine ⟨_, rfl, c, 0, 12, rfl, by decide, by decide, fun H1 s1 => ?_⟩
  generalize draw c 0 12 = d at d0 d1
  refine ⟨(by show 10 ≤ sizeLine; decide), fun p1 hp1 => ?_⟩
  have s2 := s1.trans (Same.new (o := .tup [.str "and", .str "or", .str "odd", .str "plus", .str "pick", .str "plus", .str "odd", .str "out", .str "in", .str "pick"]) hp1)
  refine ⟨_, rfl, _, _, rfl, rfl, _, rfl, ?_⟩
  refine ite2 (fun h1 => ?_) (fun h1 => ?_)
  · have h1 := of_decide_eq_true h1
    obtain ⟨i, rfl⟩ := Int.eq_ofNat_of_zero_le d0
    have hi : i < 10 := by omega
    obtain ⟨c0, hc0⟩ : ∃ c0, ([.both, .either, .odd, .plus, .pick, .plus, .odd, .snk, .src, .pick] : List Kc)[i]? = some c0 := ⟨_, List.getElem?_eq_getElem hi⟩
    have hcn : ∀ c ∈ ([.both, .either, .odd, .plus, .pick, .plus, .odd, .snk, .src, .pick] : List Kc), c.cnt = false := by decide
    refine ⟨_, rfl, _, rfl, p1, ([.both, .either, .odd, .plus, .pick, .plus, .odd, .snk, .src, .pick] : List Kc).map fun c => V.str (Kd.word ⟨c, 0⟩), _, _, rfl, rfl, SqT.of upd_same, atI_nat (by rw [List.getElem?_map, hc0] <;> rfl), ?_⟩
    refine q ⟨c0, 0⟩ _ ⟨fun z => ?_, fun _ => rfl⟩ s2
    have := hcn c0 (List.mem_of_getElem? hc0)
    rw [show c0.cnt = true from z] at this
    cases this
  · have h2 : ¬ d < 10 := fun z => h1 (decide_eq_true z)
    obtain ⟨i, rfl⟩ := Int.eq_ofNat_of_zero_le d0
    obtain ⟨j, rfl⟩ : ∃ j, i = 10 + j := ⟨i - 10, by omega⟩
    have hj : j < 2 := by omega
    revert s2
    generalize upd H1 p1 _ = H2
    intro s2
    refine ⟨(by show 2 ≤ sizeLine; decide), fun p2 hp2 => ?_⟩
    have s3 := s2.trans (Same.new (o := .tup [.str "up:", .str "down:"]) hp2)
    have ej : ((10 + j : Nat) : Int) - 10 = (j : Int) := by omega
    obtain ⟨z, hz⟩ : ∃ z : Str, ([("up:" : Str), ("down:" : Str)])[j]? = some z := ⟨_, List.getElem?_eq_getElem hj⟩
    refine ⟨_, rfl, _, _, rfl, rfl, p2, [.str "up:", .str "down:"], _, .str z, rfl, rfl, SqT.of upd_same, ?_, ?_⟩
    · rw [ej]
      refine atI_nat ?_
      show ([("up:" : Str), ("down:" : Str)].map V.str)[j]? = _
      rw [List.getElem?_map, hz] <;> rfl
    revert s3
    generalize upd H2 p2 _ = H3
    intro s3
    have x0 := draw_lo c 1 (show (0 : Int) < 63 by decide)
    have x1 := draw_hi c 1 (show (0 : Int) < 63 by decide)
    have y0 := draw_lo c 2 (show (0 : Int) < 2 by decide)
    have y1 := draw_hi c 2 (show (0 : Int) < 2 by decide)
    refine ⟨_, rfl, c, 1, 63, rfl, by decide, by decide, fun H4 s4 => ?_⟩
    refine ⟨_, rfl, c, 2, 2, rfl, by decide, by decide, fun H5 s5 => ?_⟩
    generalize draw c 1 63 = x at x0 x1
    generalize draw c 2 2 = y at y0 y1
    have hd0 : 0 ≤ x / (1 + 20 * y) := Int.ediv_nonneg x0 (by omega)
    have hd1 : x / (1 + 20 * y) ≤ x := Int.ediv_le_self _ x0
    refine ⟨_, _, rfl, rfl, .inl ⟨by decide, by decide⟩, _, _, rfl, rfl, _, _, rfl, rfl, ⟨(by omega : 0 < 1 + 20 * y), (by omega : 1 + 20 * y < 1073741824)⟩, _, _, rfl, rfl, _, rfl, ?_⟩
    generalize x / (1 + 20 * y) = n at hd0 hd1
    have hl := num_len (n := 1 + n) (by omega) (by omega)
    have big : ∀ {n : Nat}, n ≤ 100 → n ≤ sizeLine := fun h => Nat.le_trans h (by decide)
    have hzl : z.length ≤ 5 := by
      have : ∀ z ∈ ([("up:" : Str), ("down:" : Str)]), z.length ≤ 5 := by decide +kernel
      exact this z (List.mem_of_getElem? hz)
    refine ⟨dgt _ (Nat.lt_of_lt_of_le (by omega : (1 + n).natAbs < 100) (by decide)), _, _, rfl, rfl, big (by omega), ?_⟩
    have s6 := (s3.trans s4).trans s5
    match j, hj, hz with
    | 0, _, hz => cases hz; exact q ⟨.up, 1 + n⟩ _ ⟨fun _ => ⟨by show 1 ≤ 1 + n; omega, by show 1 + n ≤ 63; omega⟩, fun z => by cases z⟩ s6
    | 1, _, hz => cases hz; exact q ⟨.down, 1 + n⟩ _ ⟨fun _ => ⟨by show 1 ≤ 1 + n; omega, by show 1 + n ≤ 63; omega⟩, fun z => by cases z⟩ s6
end
end SW


/-! ### the law's works -/
namespace SW
open PySem PySem.Spec PyProof.Rows L2 He TL
structure Lp where
  name : Str
  kd : Kd
  time : Int
  feeds : List (Nat × Int)
def FdOk (kds : List Kd) (k : Nat) (f : Nat × Int) : Prop := (∃ r, kds[f.1]? = some r ∧ r.c ≠ .snk) ∧ 0 ≤ f.2 ∧ f.2 ≤ 3 ∧ (k ≤ f.1 → 1 ≤ f.2)
structure LpOk (mark : Int) (kds : List Kd) (k : Nat) (p : Lp) : Prop where
  nm : p.name = lawName k mark
  kd : kds[k]? = some p.kd
  t0 : 0 ≤ p.time
  t1 : p.time ≤ 40
  te : p.kd.c = .src ∨ p.kd.c = .snk → p.time = 0
  fl : p.feeds.length = p.kd.c.lines
  fd : ∀ f ∈ p.feeds, FdOk kds k f
structure KdsOk (kds : List Kd) : Prop where
  first : ∃ r, kds[0]? = some r ∧ r.c = .src
  ok : ∀ kd ∈ kds, kd.fit
structure LawOk (most : Nat) (mark : Int) (ls : List Lp) : Prop where
  lo : 2 ≤ ls.length
  hi : ls.length ≤ most + 1
  kds : KdsOk (ls.map Lp.kd)
  each : ∀ j p, ls[j]? = some p → LpOk mark (ls.map Lp.kd) j p
def PairAt (G : Hp) (v : V) (f : Nat × Int) : Prop := ∃ t, v = .ref t ∧ G t = some (.tup [.int (f.1 : Int), .int f.2])
structure LpIn (G : Hp) (t : Addr) (p : Lp) (l : Addr) (vs : List V) : Prop where
  ob : G t = some (.tup [.str p.name, .str p.kd.word, .int p.time, .ref l])
  ls : G l = some (.lst vs)
  fs : All2 (PairAt G) vs p.feeds
def LpAt (G : Hp) (v : V) (p : Lp) : Prop := ∃ t l vs, v = .ref t ∧ LpIn G t p l vs
def LawAt (G : Hp) (q : Addr) (ls : List Lp) : Prop := ∃ vs, G q = some (.lst vs) ∧ All2 (LpAt G) vs ls
section
variable {G G' : Hp}
theorem PairAt.mono {v : V} {f : Nat × Int} (e : Same G G') (h : PairAt G v f) : PairAt G' v f := by
  obtain ⟨t, r, h⟩ := h
  exact ⟨t, r, e _ _ h⟩
theorem LpIn.mono {t : Addr} {p : Lp} {l : Addr} {vs : List V} (e : Same G G') (h : LpIn G t p l vs) : LpIn G' t p l vs := ⟨e _ _ h.ob, e _ _ h.ls, h.fs.mono fun _ _ z => z.mono e⟩
theorem LpAt.mono {v : V} {p : Lp} (e : Same G G') (h : LpAt G v p) : LpAt G' v p := by
  obtain ⟨t, l, vs, r, h⟩ := h
  exact ⟨t, l, vs, r, h.mono e⟩
theorem LawAt.mono {q : Addr} {ls : List Lp} (e : Same G G') (h : LawAt G q ls) : LawAt G' q ls := by
  obtain ⟨vs, h1, h2⟩ := h
  exact ⟨vs, e _ _ h1, h2.mono fun _ _ z => z.mono e⟩
end
def notSnk (kds : List Kd) (k : Nat) : Bool := match kds[k]? with | some r => !decide (r.c = .snk) | none => false
def fromsOf (kds : List Kd) (n : Nat) : List Nat := (List.range n).filter (notSnk kds)
theorem froms_ok {kds : List Kd} {n k : Nat} (h : k ∈ fromsOf kds n) : ∃ r, kds[k]? = some r ∧ r.c ≠ .snk := by
  have := (List.mem_filter.mp h).2
  unfold notSnk at this
  cases e : kds[k]? with
  | none => rw [e] at this; cases this
  | some r =>
    rw [e] at this
    exact ⟨r, rfl, by simpa using this⟩
theorem froms_pos {kds : List Kd} {n : Nat} (h : KdsOk kds) (hn : 0 < n) : 0 < (fromsOf kds n).length := by
  obtain ⟨r, h1, h2⟩ := h.first
  refine List.length_pos_of_mem (a := 0) (List.mem_filter.mpr ⟨List.mem_range.mpr hn, ?_⟩)
  unfold notSnk
  rw [h1]
  show (!decide (r.c = .snk)) = true
  rw [h2]
  rfl
theorem froms_succ (kds : List Kd) (n : Nat) : fromsOf kds (n + 1) = fromsOf kds n ++ (if notSnk kds n = true then [n] else []) := by
  unfold fromsOf
  rw [List.range_succ, List.filter_append, List.filter_cons, List.filter_nil]
theorem froms_le (kds : List Kd) (n : Nat) : (fromsOf kds n).length ≤ n := by
  have := List.length_filter_le (notSnk kds) (List.range n)
  rw [List.length_range] at this
  exact this
theorem vs2 {x : V} {i j : Int} (h : i = j) : [x, V.int i] = [x, V.int j] := by rw [h]
theorem vs1 {i j : Int} (h : i = j) : [V.int i] = [V.int j] := by rw [h]
theorem ixN_nat {n k : Nat} (h : k < n) : ixN n (k : Int) = some k := by
  unfold ixN
  rw [if_pos (by omega), if_pos (by omega)] <;> rfl
def spLawWorks (K : PySem.W.Frag) : Sp := fun vs H Q _ => ∃ (G : Hp) (a : Addr) (ns : List Int) (most : Nat), vs = [.ref a, .int (most : Int)] ∧ Same G H ∧ SqL K H a (ns.map V.int) ∧ 1 ≤ most ∧ most ≤ 59 ∧
  ∀ q mark ls G' H', Grow G H G' H' → H q = none → LawAt G' q ls → LawOk most mark ls → Q (.ref q) H'
section
variable {P : Program} {w : World} {K : PySem.W.Frag} {mg : Str → Option Value} {base : Heap}
theorem ok_law_works (T : Txt K mg) : Ok P w K mg base 3 (ga K "_law_works") ["_law_script", "_law_most"] (spLawWorks K) := by
  have G_law_cell_at := ok_cell_at (P := P) (w := w) (base := base) T
  have G_law_draw := ok_draw (P := P) (w := w) (base := base) T
  have G_law_word := ok_wordL (P := P) (w := w) (base := base) T
  have G_law_asks := ok_asks (P := P) (w := w) (base := base) T
  have G_law_name := ok_name (P := P) (w := w) (base := base) T
  refine mkOk T.F_law_works sc_law_works (fun _ _ _ _ _ _ us hl => match us, hl with | [_, _], _ => rfl) (by rintro vs H Q E ⟨_, _, _, _, rfl, _⟩; rfl) (fun cdv A outer s H vs Q E hr h => ?_)
  obtain ⟨G, a, ns, most, rfl, sg, hS, hm1, hm2, q⟩ := h
  refine ⟨_, (pss_cons (ps_set (i := 2) sc_law_works.nd rfl (by first | exact Or.inl rfl | exact Or.inr rfl) (pe_callO G_law_cell_at (hr.mono (by decide)) T.g_law_cell_at (pa_cons (pv 0) (pa_cons pe_int pa_nil))))
      (pss_cons (ps_set (i := 3) sc_law_works.nd rfl (by first | exact Or.inl rfl | exact Or.inr rfl) (pe_op op_add pe_int (pe_op op_mod (pe_callO G_law_cell_at (hr.mono (by decide)) T.g_law_cell_at (pa_cons (pv 0) (pa_cons pe_int pa_nil))) (pv 1))))
      (pss_cons (ps_set (i := 4) sc_law_works.nd rfl (by first | exact Or.inl rfl | exact Or.inr rfl) (pe_op op_cat (pe_lst (pa_cons pe_str pa_nil)) (pe_lc (own := [("_law_k", 5)]) rfl sc_law_works.nd (pi_range2 (by rfl) T.f_range (pa_cons pe_int (pa_cons (pv 3) pa_nil))) (blkOk_by (own := [("_law_k", 5)]) (N := ["_law_script", "_law_most", "_law_mark", "_law_many_here", "_law_words", "_law_k", "_law_froms", "_law_parts", "_law_feeds", "_law_j", "_law_cell", "_law_place", "_law_held", "_law_time"]) (sc := defScope s_law_works) (by decide +kernel)) (fun _ _ _ _ _ => (pg_name (i := 5) sc_law_works.nd rfl (by first | exact Or.inl rfl | exact Or.inr rfl))) (fun _ _ _ _ _ => pts_nil) (fun _ _ _ _ _ => (pe_callO G_law_word (hr.mono (by decide)) T.g_law_word (pa_cons (pe_op op_add (pe_callO G_law_cell_at (hr.mono (by decide)) T.g_law_cell_at (pa_cons (pv 0) (pa_cons (pe_op op_add pe_int (pv 5)) pa_nil))) (pe_op op_mul pe_int (pv 5))) (pa_cons (pv 5) pa_nil)))))))
      (Evl.pss_cut (ps_if (pt_cmpR op_gt (pe_op op_mod (pv 2) pe_int) pe_int (nomark _)) (pss_one (ps_asg pe_str (pg_sub (pv 4) (pe_op op_sub (pv 3) pe_int) set_list))) pss_nil)
      (pss_cons (ps_setLc (i := 6) (own := [("_law_k", 5)]) rfl sc_law_works.nd rfl rfl (sw_true rfl rfl rfl (by decide +kernel)) (pi_range1 (by rfl) T.f_range (pa_cons (pv 3) pa_nil)) (blkOk_by (own := [("_law_k", 5)]) (N := ["_law_script", "_law_most", "_law_mark", "_law_many_here", "_law_words", "_law_k", "_law_froms", "_law_parts", "_law_feeds", "_law_j", "_law_cell", "_law_place", "_law_held", "_law_time"]) (sc := defScope s_law_works) (by decide +kernel)) (fun _ _ _ _ _ => (pg_name (i := 5) sc_law_works.nd rfl (by first | exact Or.inl rfl | exact Or.inr rfl))) (fun _ _ _ _ _ => pts_one (pt_cmpR op_ne (pe_ix (ixL (K := K)) (pv 4) (pv 5) (fun _ _ => rfl)) pe_str (nomark _))) (fun _ _ _ _ _ => (pv 5)))
      (pss_cons (ps_set (i := 7) sc_law_works.nd rfl (by first | exact Or.inl rfl | exact Or.inr rfl) (pe_lst pa_nil))
      (pss_cons (ps_for PassesOwn.never rfl (pi_range1 (by rfl) T.f_range (pa_cons (pv 3) pa_nil)) (pg_name (i := 5) sc_law_works.nd rfl (by first | exact Or.inl rfl | exact Or.inr rfl))
      (pss_cons (ps_set (i := 8) sc_law_works.nd rfl (by first | exact Or.inl rfl | exact Or.inr rfl) (pe_lst pa_nil))
      (pss_cons (ps_for PassesOwn.never rfl (pi_range1 (by rfl) T.f_range (pa_cons (pe_callO G_law_asks (hr.mono (by decide)) T.g_law_asks (pa_cons (pe_ix (ixL (K := K)) (pv 4) (pv 5) (fun _ _ => rfl)) pa_nil)) pa_nil)) (pg_name (i := 9) sc_law_works.nd rfl (by first | exact Or.inl rfl | exact Or.inr rfl))
      (pss_cons (ps_set (i := 10) sc_law_works.nd rfl (by first | exact Or.inl rfl | exact Or.inr rfl) (pe_op op_add (pe_op op_add (pe_callO G_law_cell_at (hr.mono (by decide)) T.g_law_cell_at (pa_cons (pv 0) (pa_cons (pe_op op_add pe_int (pv 5)) pa_nil))) (pe_op op_mul pe_int (pv 5))) (pe_op op_mul pe_int (pv 9))))
      (pss_cons (ps_set (i := 11) sc_law_works.nd rfl (by first | exact Or.inl rfl | exact Or.inr rfl) (pe_ix (ixL (K := K)) (pv 6) (pe_callO G_law_draw (hr.mono (by decide)) T.g_law_draw (pa_cons (pv 10) (pa_cons pe_int (pa_cons (pe_callB (lenQ (K := K)) (by rfl) T.f_len (by decide +kernel) (pa_cons (pv 6) pa_nil)) pa_nil)))) (fun _ _ => rfl)))
      (Evl.pss_cut (ps_set (i := 12) sc_law_works.nd rfl (by first | exact Or.inl rfl | exact Or.inr rfl) (pe_ifExp (pt_cmpR op_lt (pv 11) (pv 5) (nomark _)) (pe_ix (ixT (K := K)) (pe_tup (pa_cons pe_int (pa_cons pe_int (pa_cons pe_int (pa_cons pe_int (pa_cons pe_int (pa_cons pe_int pa_nil))))))) (pe_callO G_law_draw (hr.mono (by decide)) T.g_law_draw (pa_cons (pv 10) (pa_cons pe_int (pa_cons pe_int pa_nil)))) (fun _ _ => rfl)) (pe_op op_add pe_int (pe_op op_fdiv (pe_callO G_law_draw (hr.mono (by decide)) T.g_law_draw (pa_cons (pv 10) (pa_cons pe_int (pa_cons pe_int pa_nil)))) pe_int))))
      (pss_one (ps_expr (pe_bm PySem.F.plainAttrs_list PySem.F.slot_list_append PySem.F.type_list_append mt_append (pv 8) (pa_cons (pe_tup (pa_cons (pv 11) (pa_cons (pv 12) pa_nil))) pa_nil))))))))
      (pss_cons (ps_set (i := 13) sc_law_works.nd rfl (by first | exact Or.inl rfl | exact Or.inr rfl) (pe_ix (ixT (K := K)) (pe_tup (pa_cons pe_int (pa_cons pe_int (pa_cons pe_int (pa_cons pe_int (pa_cons pe_int (pa_cons pe_int (pa_cons pe_int (pa_cons pe_int pa_nil))))))))) (pe_callO G_law_draw (hr.mono (by decide)) T.g_law_draw (pa_cons (pe_op op_add (pe_callO G_law_cell_at (hr.mono (by decide)) T.g_law_cell_at (pa_cons (pv 0) (pa_cons (pe_op op_add pe_int (pv 5)) pa_nil))) (pe_op op_mul pe_int (pv 5))) (pa_cons pe_int (pa_cons pe_int pa_nil)))) (fun _ _ => rfl)))
      (Evl.pss_cut (ps_if (PW.pt (pw_or (pt_cmpR op_eq (pe_ix (ixL (K := K)) (pv 4) (pv 5) (fun _ _ => rfl)) pe_str (nomark _)) (pw_or1 (pt_cmpR op_eq (pe_ix (ixL (K := K)) (pv 4) (pv 5) (fun _ _ => rfl)) pe_str (nomark _))))) (pss_one (ps_set (i := 13) sc_law_works.nd rfl (by first | exact Or.inl rfl | exact Or.inr rfl) pe_int)) pss_nil)
      (pss_one (ps_expr (pe_bm PySem.F.plainAttrs_list PySem.F.slot_list_append PySem.F.type_list_append mt_append (pv 7) (pa_cons (pe_tup (pa_cons (pe_callO G_law_name (hr.mono (by decide)) T.g_law_name (pa_cons (pv 5) (pa_cons (pv 2) pa_nil))) (pa_cons (pe_ix (ixL (K := K)) (pv 4) (pv 5) (fun _ _ => rfl)) (pa_cons (pv 13) (pa_cons (pv 8) pa_nil))))) pa_nil)))))))))
      (pss_one (ps_ret (pv 7)))))))))), ?_⟩
  have hSq : ∀ {H'}, Same H H' → SqL K H' a (ns.map V.int) := fun s => s.seq hS
  -- mark, many
  refine ⟨_, rfl, a, ns, 1, rfl, hS, ?_⟩
  generalize cellAt ns 1 = mark
  refine ⟨_, rfl, a, ns, 0, rfl, hS, ?_⟩
  generalize cellAt ns 0 = c0
  have hr0 : 0 ≤ c0 % (most : Int) ∧ c0 % (most : Int) < most := ⟨Int.emod_nonneg _ (by omega), Int.emod_lt_of_pos _ (by omega)⟩
  refine ⟨_, rfl, _, _, rfl, rfl, (by omega : (0 : Int) < most), _, _, rfl, rfl, ?_⟩
  obtain ⟨many, hmany, hn2, hn3⟩ : ∃ many : Nat, 2 + c0 % (most : Int) = (many : Int) ∧ 2 ≤ many ∧ many ≤ most + 1 := ⟨(2 + c0 % (most : Int)).toNat, by omega, by omega, by omega⟩
  dsimp only
  rw [hmany]
  -- words
  refine ⟨(by show 1 ≤ sizeLine; decide), fun p0 hp0 => ?_⟩
  have s1 := Same.new (o := .lst [.str "in"]) hp0
  have e1 : upd H p0 (.lst [.str "in"]) p0 = _ := upd_same
  revert s1 e1
  generalize upd H p0 (HO.lst [.str "in"]) = H1
  intro s1 e1
  refine ⟨_, rfl, 1, (many : Int), rfl, ⟨by decide, by decide, by omega, by omega⟩, fun D hD => ?_⟩
  have hDH : H D = none := s1.free hD
  have hmt : (((many : Nat) : Int) - 1).toNat = many - 1 := by omega
  rw [hmt]
  refine lc_range (lo := 1) (n := many - 1) (fun j H' => ∃ kds : List Kd, kds.length = j ∧ (∀ k ∈ kds, k.fit) ∧ H' D = some (.lst (kds.map fun k => V.str k.word)) ∧ Same H1 H')
    ⟨[], rfl, fun x h => (by cases h), upd_same, Same.new hD⟩ ?_ ?_
  · rintro j H' hj ⟨kds, k1, k2, k3, s2⟩
    have s02 := s1.trans s2
    refine ⟨rfl, iteT (B := True) ?_⟩
    refine ⟨_, rfl, _, rfl, _, _, rfl, rfl, a, ns, 3 + j, vs2 (by omega), hSq s02, ?_⟩
    generalize cellAt ns (3 + j) = c1
    refine ⟨_, rfl, _, _, rfl, rfl, .inl ⟨by decide, by decide⟩, _, _, rfl, rfl, _, rfl, _, 1 + j, vs2 (by omega), by omega, fun kd H2 hkd s3 => ?_⟩
    refine ⟨_, s3 _ _ k3, ?_, kds ++ [kd], ?_, fun k hk => ?_, ?_, fun b o e => ?_⟩
    · rw [List.length_map]
      exact small1000 (by omega)
    · rw [List.length_append, k1] <;> rfl
    · rcases List.mem_append.mp hk with h | h
      · exact k2 k h
      · rw [List.mem_singleton.mp h]
        exact hkd
    · rw [upd_same, List.map_append] <;> rfl
    · rw [upd_ne (ne_of_none e hD)]
      exact s3 _ _ (s2 b o e)
  rintro H2 ⟨kd1, k1, k2, k3, s2⟩
  refine ⟨p0, D, _, _, rfl, rfl, s2 _ _ e1, k3, ?_, fun wq hwq => ?_⟩
  · rw [List.length_map]
    show 1 + _ ≤ sizeLine
    exact Nat.le_trans (by omega : 1 + kd1.length ≤ 1000) (by decide)
  have s02 := s1.trans s2
  have hwqH : H wq = none := s02.free hwq
  obtain ⟨kds0, hk0, hk1, hk2, hk3⟩ : ∃ kds : List Kd, kds = ⟨.src, 0⟩ :: kd1 ∧ kds.length = many ∧ KdsOk kds ∧ True := ⟨_, rfl, by rw [List.length_cons]; omega, ⟨⟨_, rfl, rfl⟩, fun kd h => by
    rcases List.mem_cons.mp h with h | h
    · rw [h]
      exact ⟨fun z => by (cases z), fun _ => rfl⟩
    · exact k2 kd h⟩, trivial⟩
  have e2 : upd H2 wq (.lst ([V.str "in"] ++ kd1.map fun k => V.str k.word)) wq = some (.lst (kds0.map fun k => V.str k.word)) := by rw [upd_same, hk0] <;> rfl
  have s03 := s02.trans (Same.new (o := .lst ([V.str "in"] ++ kd1.map fun k => V.str k.word)) hwq)
  clear hk0 k1 k2 k3 s02 s2 e1 s1
  revert e2 s03
  generalize upd H2 wq _ = H3
  intro e2 s03
  -- the last one
  refine ⟨fun σ H' => ∃ kds : List Kd, kds.length = many ∧ KdsOk kds ∧ σ = [some (.ref a), some (.int (most : Int)), some (.int mark), some (.int (many : Int)), some (.ref wq), none, none, none, none, none, none, none, none, none] ∧ Same H H' ∧ H' wq = some (.lst (kds.map fun k => V.str k.word)), ?_, ?_⟩
  · refine ⟨_, rfl, _, _, rfl, rfl, (by decide : (0 : Int) < 6), _, _, rfl, rfl, _, rfl, ?_⟩
    refine ite2 (fun h1 => ?_) (fun h1 => ?_)
    · refine ⟨_, rfl, _, rfl, _, _, rfl, rfl, wq, _, _, many - 1, rfl, rfl, e2, ?_, ?_⟩
      · rw [List.length_map, hk1, show ((many : Int) - 1) = ((many - 1 : Nat) : Int) by omega]
        exact ixN_nat (by omega)
      · refine ⟨kds0.set (many - 1) ⟨.snk, 0⟩, by rw [List.length_set]; exact hk1, ⟨?_, fun kd h => ?_⟩, rfl, fun b o e => ?_, ?_⟩
        · obtain ⟨r, hr1, hr2⟩ := hk2.first
          exact ⟨r, by rw [List.getElem?_set_ne (by omega)]; exact hr1, hr2⟩
        · rcases List.mem_or_eq_of_mem_set h with h | h
          · exact hk2.ok kd h
          · rw [h]
            exact ⟨fun z => by (cases z), fun _ => rfl⟩
        · rw [upd_ne (ne_of_none e hwqH)]
          exact s03 b o e
        · rw [upd_same, List.map_set] <;> rfl
    · exact ⟨kds0, hk1, hk2, rfl, s03, e2⟩
  clear hk1 hk2 hk3 e2 s03 kds0
  rintro σ H4 ⟨kds, hk1, hk2, rfl, s04, e4⟩
  have kat : ∀ k, k < many → ∃ kd, kds[k]? = some kd ∧ kd.ok ∧ atI (kds.map fun k => V.str k.word) (k : Int) = some (.str kd.word) := fun k hk => by
    have h1 : kds[k]? = some kds[k] := List.getElem?_eq_getElem (by omega)
    exact ⟨_, h1, (hk2.ok _ (List.mem_of_getElem? h1)).1, atI_nat (by rw [List.getElem?_map, h1] <;> rfl)⟩
  -- whence lines come
  refine ⟨_, rfl, (many : Int), rfl, by omega, by omega, fun fq hfq => ?_⟩
  have hfqH : H fq = none := s04.free hfq
  have hnt : ((many : Nat) : Int).toNat = many := rfl
  rw [hnt]
  refine lc_range (lo := 0) (n := many) (fun j H' => H' fq = some (.lst ((fromsOf kds j).map fun (k : Nat) => V.int (k : Int))) ∧ Same H4 H')
    ⟨upd_same, Same.new hfq⟩ ?_ ?_
  · rintro j H' hj ⟨e5, s5⟩
    refine ⟨rfl, ?_⟩
    obtain ⟨kd, hkd, hok, hat⟩ := kat j hj
    have ej : (0 : Int) + (j : Int) = (j : Int) := by omega
    rw [ej]
    refine ⟨_, rfl, _, rfl, wq, _, _, _, rfl, rfl, SqL.of (s5 _ _ e4), hat, rfl, _, rfl, ?_⟩
    rw [dstr]
    have ew : decide (tl kd.word = tl ("out" : Str)) = decide (kd.c = .snk) := by
      refine decide_eq_decide.mpr ⟨fun h => (isEnd_word kd).2.mp (ext_tl h), fun h => by rw [(isEnd_word kd).2.mpr h]⟩
    rw [ew]
    have en : notSnk kds j = !decide (kd.c = .snk) := by unfold notSnk; rw [hkd]
    rw [← en, froms_succ]
    refine ite2 (fun h1 => ?_) (fun h1 => ?_)
    · refine ⟨_, rfl, _, e5, ?_, ?_, fun b o e => ?_⟩
      · rw [List.length_map]
        exact small1000 (by have := froms_le kds j; omega)
      · rw [upd_same, if_pos h1, List.map_append] <;> rfl
      · rw [upd_ne (ne_of_none e hfq)]
        exact s5 b o e
    · rw [if_neg h1, List.append_nil]
      exact ⟨e5, s5⟩
  rintro H5 ⟨e5, s5⟩
  have s05 := s04.trans s5
  have e4 := s5 _ _ e4
  -- the parts
  refine ⟨Nat.zero_le _, fun pq hpq => ?_⟩
  have hpqH : H pq = none := s05.free hpq
  have g6 := ((Grow.refl sg).same s05).temp (o := .lst []) hpq
  have hwp : wq ≠ pq := ne_of_none e4 hpq
  have hfp : fq ≠ pq := ne_of_none e5 hpq
  have e4 := Same.new (o := .lst []) hpq _ _ e4
  have e5 := Same.new (o := .lst []) hpq _ _ e5
  have e6 : upd H5 pq (.lst []) pq = _ := upd_same
  clear s04 s5 s05
  revert g6 e4 e5 e6
  generalize upd H5 pq (HO.lst []) = H6
  intro g6 e4 e5 e6
  refine ⟨_, rfl, (many : Int), rfl, by omega, by omega, ?_⟩
  rw [hnt]
  have hGp : G pq = none := sg.free hpqH
  refine for_range (lo := 0) (n := many) (fun k σ H' => ∃ v5 v8 v9 v10 v11 v12 v13 G' vs ls, σ = [some (.ref a), some (.int (most : Int)), some (.int mark), some (.int (many : Int)), some (.ref wq), v5, some (.ref fq), some (.ref pq), v8, v9, v10, v11, v12, v13] ∧ Grow G H G' H' ∧
      H' wq = some (.lst (kds.map fun k => V.str k.word)) ∧ H' fq = some (.lst ((fromsOf kds many).map fun (k : Nat) => V.int (k : Int))) ∧ H' pq = some (.lst vs) ∧ G' pq = none ∧ All2 (LpAt G') vs ls ∧ ls.length = k ∧ ∀ j p, ls[j]? = some p → LpOk mark kds j p)
    ⟨none, none, none, none, none, none, none, G, [], [], rfl, g6, e4, e5, e6, hGp, All2.nil, rfl, fun j p h => by simp at h⟩ ?_ ?_
  rotate_left
  · rintro σ H7 ⟨v5, v8, v9, v10, v11, v12, v13, G7, vs, ls, rfl, g7, w7, f7, e7, p7, hA, hl, hls⟩
    have g8 := g7.keep hpqH p7 e7
    have ekd : ls.map Lp.kd = kds := by
      refine List.ext_getElem? fun i => ?_
      rw [List.getElem?_map]
      cases e : ls[i]? with
      | none =>
        have : kds.length ≤ i := by rw [hk1, ← hl]; exact List.getElem?_eq_none_iff.mp e
        rw [List.getElem?_eq_none this]
        rfl
      | some p => exact (hls i p e).kd.symm
    exact ⟨_, rfl, q pq mark ls _ _ g8 hpqH ⟨vs, upd_same, hA.mono fun _ _ z => z.mono (Same.new p7)⟩ ⟨by omega, by omega, by rw [ekd]; exact hk2, fun j p h => by rw [ekd]; exact hls j p h⟩⟩
  rintro k σ H7 hk ⟨v5, v8, v9, v10, v11, v12, v13, G7, vs, ls, rfl, g7, w7, f7, e7, p7, hA, hl, hls⟩
  have ek : (0 : Int) + (k : Int) = (k : Int) := by omega
  rw [ek]
  obtain ⟨kd, hkd, hok, hat⟩ := kat k hk
  refine ⟨Nat.zero_le _, fun eq heq => ?_⟩
  have heqH : H eq = none := g7.hh.free heq
  have g8 := g7.temp (o := .lst []) heq
  have w8 := Same.new (o := .lst []) heq _ _ w7
  have f8 := Same.new (o := .lst []) heq _ _ f7
  have e8 := Same.new (o := .lst []) heq _ _ e7
  have q8 : upd H7 eq (.lst []) eq = _ := upd_same
  have z7 : G7 eq = none := g7.gh.free heq
  have hwe : wq ≠ eq := ne_of_none w7 heq
  have hfe : fq ≠ eq := ne_of_none f7 heq
  clear g7 w7 f7
  revert g8 w8 f8 e8 q8
  generalize upd H7 eq (HO.lst []) = H8
  intro g8 w8 f8 e8 q8
  have hep : eq ≠ pq := (ne_of_none e7 heq).symm
  clear heq e7
  refine ⟨_, rfl, _, rfl, wq, _, _, _, rfl, rfl, SqL.of w8, hat, kd, rfl, hok, _, rfl, by have := lines_le kd.c; omega, by have := lines_le kd.c; omega, ?_⟩
  have hlt : ((kd.c.lines : Nat) : Int).toNat = kd.c.lines := rfl
  rw [hlt]
  refine for_range (lo := 0) (n := kd.c.lines) (fun j σ H' => ∃ v9 v10 v11 v12 G' us fs, σ = [some (.ref a), some (.int (most : Int)), some (.int mark), some (.int (many : Int)), some (.ref wq), some (.int (k : Int)), some (.ref fq), some (.ref pq), some (.ref eq), v9, v10, v11, v12, v13] ∧ Grow G H G' H' ∧
      H' wq = some (.lst (kds.map fun k => V.str k.word)) ∧ H' fq = some (.lst ((fromsOf kds many).map fun (k : Nat) => V.int (k : Int))) ∧ H' pq = some (.lst vs) ∧ G' pq = none ∧ H' eq = some (.lst us) ∧ G' eq = none ∧ All2 (LpAt G') vs ls ∧ All2 (PairAt G') us fs ∧ fs.length = j ∧ ∀ f ∈ fs, FdOk kds k f)
    ⟨v9, v10, v11, v12, G7, [], [], rfl, g8, w8, f8, e8, p7, q8, z7, hA, All2.nil, rfl, fun f h => by cases h⟩ ?_ ?_
  · clear g8 w8 f8 e8 p7 q8 z7 hA v9 v10 v11 v12
    rintro j σ H9 hj ⟨v9, v10, v11, v12, G9, us, fs, rfl, g9, w9, f9, e9, p9, q9, z9, hA, hB, hfl, hfs⟩
    have ej : (0 : Int) + (j : Int) = (j : Int) := by omega
    rw [ej]
    have hj3 : j < 3 := Nat.lt_of_lt_of_le hj (lines_le kd.c)
    refine ⟨_, rfl, _, rfl, _, _, rfl, rfl, a, ns, 2 + k, vs2 (by omega), hSq g9.hh, ?_⟩
    generalize cellAt ns (2 + k) = c1
    refine ⟨_, rfl, _, _, rfl, rfl, .inl ⟨by decide, by decide⟩, _, _, rfl, rfl, _, rfl, _, _, rfl, rfl, .inl ⟨by decide, by decide⟩, _, _, rfl, rfl, ?_⟩
    dsimp only
    generalize c1 + 977 * (k : Int) + 7919 * (j : Int) = cell
    have hfp := froms_pos hk2 (show 0 < many by omega)
    refine ⟨_, rfl, _, rfl, _, rfl, fq, _, rfl, .inl (SqL.of f9), cell, 3, ((fromsOf kds many).length : Int), by rw [List.length_map] <;> rfl, by decide, by omega, fun H10 s10 => ?_⟩
    have x0 := draw_lo cell 3 (m := ((fromsOf kds many).length : Int)) (by omega)
    have x1 := draw_hi cell 3 (m := ((fromsOf kds many).length : Int)) (by omega)
    generalize draw cell 3 ((fromsOf kds many).length : Int) = x at x0 x1
    obtain ⟨i, rfl⟩ := Int.eq_ofNat_of_zero_le x0
    obtain ⟨place, hpl⟩ : ∃ place, (fromsOf kds many)[i]? = some place := ⟨_, List.getElem?_eq_getElem (by omega)⟩
    have hplr := froms_ok (List.mem_of_getElem? hpl)
    refine ⟨fq, _, _, V.int (place : Int), rfl, rfl, SqL.of (s10 _ _ f9), atI_nat (by rw [List.getElem?_map, hpl] <;> rfl), ?_⟩
    have g10 := g9.same s10
    have w10 := s10 _ _ w9
    have f10 := s10 _ _ f9
    have e10 := s10 _ _ e9
    have q10 := s10 _ _ q9
    clear g9 w9 f9 e9 q9 s10
    -- held
    refine ⟨fun σ H' => ∃ held : Int, FdOk kds k (place, held) ∧ σ = [some (.ref a), some (.int (most : Int)), some (.int mark), some (.int (many : Int)), some (.ref wq), some (.int (k : Int)), some (.ref fq), some (.ref pq), some (.ref eq), some (.int (j : Int)), some (.int cell), some (.int (place : Int)), some (.int held), v13] ∧ Same H10 H', ?_, ?_⟩
    · refine ⟨_, rfl, _, rfl, _, _, rfl, rfl, _, rfl, ?_⟩
      refine ite2 (fun h1 => ?_) (fun h1 => ?_)
      · have h1 := of_decide_eq_true h1
        refine ⟨(by show 6 ≤ sizeLine; decide), fun t ht => ?_⟩
        refine ⟨_, rfl, cell, 4, 6, rfl, by decide, by decide, fun H11 s11 => ?_⟩
        have y0 := draw_lo cell 4 (show (0 : Int) < 6 by decide)
        have y1 := draw_hi cell 4 (show (0 : Int) < 6 by decide)
        generalize draw cell 4 6 = y at y0 y1
        obtain ⟨m, rfl⟩ := Int.eq_ofNat_of_zero_le y0
        obtain ⟨held, hh, hh0, hh1⟩ : ∃ held : Int, ([0, 0, 0, 1, 1, 2] : List Int)[m]? = some held ∧ 0 ≤ held ∧ held ≤ 2 := by
          have : ∀ m < 6, ∃ held : Int, ([0, 0, 0, 1, 1, 2] : List Int)[m]? = some held ∧ 0 ≤ held ∧ held ≤ 2 := by
            intro m hm
            match m, hm with
            | 0, _ => exact ⟨0, rfl, by decide, by decide⟩
            | 1, _ => exact ⟨0, rfl, by decide, by decide⟩
            | 2, _ => exact ⟨0, rfl, by decide, by decide⟩
            | 3, _ => exact ⟨1, rfl, by decide, by decide⟩
            | 4, _ => exact ⟨1, rfl, by decide, by decide⟩
            | 5, _ => exact ⟨2, rfl, by decide, by decide⟩
          exact this m (by omega)
        refine ⟨t, ([0, 0, 0, 1, 1, 2] : List Int).map V.int, _, .int held, rfl, rfl, SqT.of (s11 _ _ upd_same), atI_nat (by rw [List.getElem?_map, hh] <;> rfl), ?_⟩
        exact ⟨held, ⟨hplr, hh0, by show held ≤ 3; omega, fun z => by omega⟩, rfl, (Same.new ht).trans s11⟩
      · refine ⟨_, rfl, cell, 5, 3, rfl, by decide, by decide, fun H11 s11 => ?_⟩
        have y0 := draw_lo cell 5 (show (0 : Int) < 3 by decide)
        have y1 := draw_hi cell 5 (show (0 : Int) < 3 by decide)
        generalize draw cell 5 3 = y at y0 y1
        refine ⟨_, _, rfl, rfl, ⟨by decide, by decide⟩, _, _, rfl, rfl, ?_⟩
        exact ⟨1 + y / 2, ⟨hplr, by show 0 ≤ 1 + y / 2; omega, by show 1 + y / 2 ≤ 3; omega, fun _ => by show 1 ≤ 1 + y / 2; omega⟩, rfl, s11⟩
    rintro σ H11 ⟨held, hfd, rfl, s11⟩
    have g11 := g10.same s11
    have w11 := s11 _ _ w10
    have f11 := s11 _ _ f10
    have e11 := s11 _ _ e10
    have q11 := s11 _ _ q10
    clear g10 w10 f10 e10 q10 s11
    refine ⟨_, rfl, .inl ⟨rfl, _, SqL.of q11⟩, _, rfl, _, rfl, (by show 2 ≤ sizeLine; decide), fun t ht => ?_⟩
    have het : eq ≠ t := ne_of_none q11 ht
    refine ⟨eq, us, _, rfl, rfl, by rw [upd_ne het]; exact q11, by rw [hB.1]; exact small1000 (by omega), ?_⟩
    have hpt : pq ≠ t := ne_of_none e11 ht
    refine ⟨_, _, _, _, upd G9 t (.tup [.int (place : Int), .int held]), _, fs ++ [(place, held)], rfl, (g11.new ht).mut heqH (by rw [upd_ne het]; exact z9), ?_, ?_, ?_, by rw [upd_ne hpt]; exact p9, upd_same, by rw [upd_ne het]; exact z9,
      hA.mono fun _ _ z => z.mono (Same.new (g11.gh.free ht)), (hB.mono fun _ _ z => z.mono (Same.new (g11.gh.free ht))).push ⟨t, rfl, upd_same⟩, by rw [List.length_append, hfl] <;> rfl, fun f hf => ?_⟩
    · rw [upd_ne hwe, upd_ne (ne_of_none w11 ht)]
      exact w11
    · rw [upd_ne hfe, upd_ne (ne_of_none f11 ht)]
      exact f11
    · rw [upd_ne hep.symm, upd_ne hpt]
      exact e11
    · rcases List.mem_append.mp hf with h | h
      · exact hfs f h
      · rw [List.mem_singleton.mp h]
        exact hfd
  · clear g8 w8 f8 e8 p7 q8 z7 hA v9 v10 v11 v12
    rintro σ H9 ⟨v9, v10, v11, v12, G9, us, fs, rfl, g9, w9, f9, e9, p9, q9, z9, hA, hB, hfl, hfs⟩
    refine ⟨(by show 8 ≤ sizeLine; decide), fun t ht => ?_⟩
    have s10 : Same H9 (upd H9 t (.tup (([0, 1, 2, 3, 5, 1, 7, 40] : List Int).map V.int))) := Same.new ht
    refine ⟨_, rfl, _, rfl, _, _, rfl, rfl, a, ns, 2 + k, vs2 (by omega), hSq (g9.hh.trans s10), ?_⟩
    generalize cellAt ns (2 + k) = c1
    refine ⟨_, rfl, _, _, rfl, rfl, .inl ⟨by decide, by decide⟩, _, _, rfl, rfl, c1 + 977 * (k : Int), 6, 8, rfl, by decide, by decide, fun H11 s11 => ?_⟩
    have y0 := draw_lo (c1 + 977 * (k : Int)) 6 (show (0 : Int) < 8 by decide)
    have y1 := draw_hi (c1 + 977 * (k : Int)) 6 (show (0 : Int) < 8 by decide)
    generalize draw (c1 + 977 * (k : Int)) 6 8 = y at y0 y1
    obtain ⟨m, rfl⟩ := Int.eq_ofNat_of_zero_le y0
    obtain ⟨time, hh, hh0, hh1⟩ : ∃ time : Int, ([0, 1, 2, 3, 5, 1, 7, 40] : List Int)[m]? = some time ∧ 0 ≤ time ∧ time ≤ 40 := by
      have : ∀ m < 8, ∃ time : Int, ([0, 1, 2, 3, 5, 1, 7, 40] : List Int)[m]? = some time ∧ 0 ≤ time ∧ time ≤ 40 := by
        intro m hm
        match m, hm with
        | 0, _ => exact ⟨0, rfl, by decide, by decide⟩
        | 1, _ => exact ⟨1, rfl, by decide, by decide⟩
        | 2, _ => exact ⟨2, rfl, by decide, by decide⟩
        | 3, _ => exact ⟨3, rfl, by decide, by decide⟩
        | 4, _ => exact ⟨5, rfl, by decide, by decide⟩
        | 5, _ => exact ⟨1, rfl, by decide, by decide⟩
        | 6, _ => exact ⟨7, rfl, by decide, by decide⟩
        | 7, _ => exact ⟨40, rfl, by decide, by decide⟩
      exact this m (by omega)
    refine ⟨t, ([0, 1, 2, 3, 5, 1, 7, 40] : List Int).map V.int, _, .int time, rfl, rfl, SqT.of (s11 _ _ upd_same), atI_nat (by rw [List.getElem?_map, hh] <;> rfl), ?_⟩
    have s9 := s10.trans s11
    have g10 := g9.same s9
    have w10 := s9 _ _ w9
    have f10 := s9 _ _ f9
    have e10 := s9 _ _ e9
    have q10 := s9 _ _ q9
    clear g9 w9 f9 e9 q9 s10 s11 s9
    have asIn : decide (tl kd.word = tl ("in" : Str)) = decide (kd.c = .src) := decide_eq_decide.mpr ⟨fun h => (isEnd_word kd).1.mp (ext_tl h), fun h => by rw [(isEnd_word kd).1.mpr h]⟩
    have asOut : decide (tl kd.word = tl ("out" : Str)) = decide (kd.c = .snk) := decide_eq_decide.mpr ⟨fun h => (isEnd_word kd).2.mp (ext_tl h), fun h => by rw [(isEnd_word kd).2.mpr h]⟩
    refine ⟨fun σ H' => ∃ time : Int, 0 ≤ time ∧ time ≤ 40 ∧ (kd.c = .src ∨ kd.c = .snk → time = 0) ∧ σ = [some (.ref a), some (.int (most : Int)), some (.int mark), some (.int (many : Int)), some (.ref wq), some (.int (k : Int)), some (.ref fq), some (.ref pq), some (.ref eq), v9, v10, v11, v12, some (.int time)] ∧ H' = H11, ?_, ?_⟩
    · refine ⟨_, rfl, _, rfl, wq, _, _, _, rfl, rfl, SqL.of w10, hat, rfl, _, rfl, ?_⟩
      rw [dstr, asIn]
      refine ite2 (fun h1 => ?_) (fun h1 => ?_)
      · exact iteT ⟨0, by decide, by decide, fun _ => rfl, rfl, rfl⟩
      · refine ⟨_, rfl, _, rfl, wq, _, _, _, rfl, rfl, SqL.of w10, hat, rfl, _, rfl, ?_⟩
        rw [dstr, asOut]
        refine ite2 (fun h2 => ?_) (fun h2 => ?_)
        · exact ⟨0, by decide, by decide, fun _ => rfl, rfl, rfl⟩
        · exact ⟨time, hh0, hh1, fun z => absurd z (by rintro (z | z); exact h1 (decide_eq_true z); exact h2 (decide_eq_true z)), rfl, rfl⟩
    rintro σ _ ⟨time, ht0, ht1, ht2, rfl, rfl⟩
    refine ⟨_, rfl, .inl ⟨rfl, _, SqL.of e10⟩, _, rfl, _, rfl, k, mark, rfl, by omega, _, rfl, _, rfl, wq, _, _, _, rfl, rfl, SqL.of w10, hat, _, rfl, _, rfl, (by show 4 ≤ sizeLine; decide), fun t ht => ?_⟩
    have hpt : pq ≠ t := ne_of_none e10 ht
    have het : eq ≠ t := ne_of_none q10 ht
    refine ⟨pq, vs, _, rfl, rfl, by rw [upd_ne hpt]; exact e10, by rw [hA.1, hl]; exact small1000 (by omega), ?_⟩
    have g11 := g10.keep heqH z9 q10
    have gs : Same G9 (upd (upd G9 eq (.lst us)) t (.tup [.str (lawName k mark), .str kd.word, .int time, .ref eq])) := (Same.new z9).trans (Same.new (g11.gh.free ht))
    have hgp : (upd (upd G9 eq (.lst us)) t (.tup [.str (lawName k mark), .str kd.word, .int time, .ref eq])) pq = none := by rw [upd_ne hpt, upd_ne hep.symm]; exact p9
    have hwp : wq ≠ pq := hwp
    have hfp : fq ≠ pq := hfp
    refine ⟨_, _, _, _, _, _, _, upd (upd G9 eq (.lst us)) t (.tup [.str (lawName k mark), .str kd.word, .int time, .ref eq]), _, ls ++ [⟨lawName k mark, kd, time, fs⟩], rfl, (g11.new ht).mut hpqH hgp, ?_, ?_, upd_same, hgp,
      (hA.mono fun _ _ z => z.mono gs).push ⟨t, eq, us, rfl, upd_same, by rw [upd_ne het, upd_same], hB.mono fun _ _ z => z.mono gs⟩, by rw [List.length_append, hl] <;> rfl, fun j p hj => ?_⟩
    · rw [upd_ne hwp, upd_ne (ne_of_none w10 ht)]
      exact w10
    · rw [upd_ne hfp, upd_ne (ne_of_none f10 ht)]
      exact f10
    · by_cases hjl : j < ls.length
      · rw [List.getElem?_append_left hjl] at hj
        exact hls j p hj
      · have hjk : j = k := by
          have := lt_of_get hj
          rw [List.length_append, List.length_singleton] at this
          omega
        subst hjk
        rw [List.getElem?_append_right (by omega), hl, Nat.sub_self] at hj
        cases hj
        exact ⟨rfl, hkd, ht0, ht1, ht2, hfl, hfs⟩
end
end SW


/-! ### rows: words joined and told again -/
namespace SW
open PySem PySem.Spec PyProof.Rows L2 He TL
theorem spl1_hit (s : Nat) (acc r : List Nat) : spl [s] 0 acc (s :: r) = acc :: spl [s] 0 [] r := spl_hit (pre_self [s] r)
theorem spl1_miss {s c : Nat} (acc r : List Nat) (h : c ≠ s) : spl [s] 0 acc (c :: r) = spl [s] 0 (acc ++ [c]) r := spl_miss (pre_of_head [] r h)
def fw (acc L : List Nat) : List (List Nat) := (spl [32] 0 acc L).filter fun p => !decide (p = [])
theorem fw_word : ∀ (w acc r : List Nat), 32 ∉ w → fw acc (w ++ r) = fw (acc ++ w) r
  | [], acc, r, _ => by rw [List.nil_append, List.append_nil]
  | c :: w, acc, r, h => by
    rw [List.mem_cons, not_or] at h
    unfold fw
    rw [List.cons_append, spl1_miss _ _ (Ne.symm h.1)]
    have := fw_word w (acc ++ [c]) r h.2
    unfold fw at this
    rw [this, List.append_assoc] <;> rfl
theorem fw_blank0 (r : List Nat) : fw [] (32 :: r) = fw [] r := by
  unfold fw
  rw [spl1_hit] <;> rfl
theorem fw_blank {acc : List Nat} (r : List Nat) (h : acc ≠ []) : fw acc (32 :: r) = acc :: fw [] r := by
  unfold fw
  rw [spl1_hit, List.filter_cons_of_pos (by simpa using h)]
theorem fw_blanks (n : Nat) (r : List Nat) : fw [] (List.replicate n 32 ++ r) = fw [] r := by
  induction n with
  | zero => rfl
  | succ n ih => rw [List.replicate_succ, List.cons_append, fw_blank0, ih]
theorem fw_nil : fw [] [] = [] := rfl
theorem fw_gap {acc : List Nat} (n : Nat) (r : List Nat) (h : acc ≠ []) : fw acc (List.replicate (n + 1) 32 ++ r) = acc :: fw [] r := by
  rw [List.replicate_succ, List.cons_append, fw_blank _ h, fw_blanks]
theorem fw_tail {acc : List Nat} (n : Nat) (h : acc ≠ []) : fw acc (List.replicate n 32) = [acc] := by
  cases n with
  | zero =>
    unfold fw
    rw [List.replicate_zero, spl_nil, List.filter_cons_of_pos (by simpa using h)] <;> rfl
  | succ n =>
    have := fw_gap n [] h
    rw [List.append_nil] at this
    rw [this]
    rfl
theorem fw_join (g t : Nat) : ∀ {ws : List (List Nat)}, ws ≠ [] → (∀ w ∈ ws, w ≠ [] ∧ 32 ∉ w) → fw [] (joinL (List.replicate (g + 1) 32) ws ++ List.replicate t 32) = ws
  | [], h, _ => absurd rfl h
  | [w], _, h => by
    obtain ⟨h1, h2⟩ := h w (List.mem_cons_self ..)
    show fw [] (w ++ _) = _
    rw [fw_word _ _ _ h2, List.nil_append, fw_tail _ h1]
  | p :: q :: r, _, h => by
    obtain ⟨h1, h2⟩ := h p (List.mem_cons_self ..)
    show fw [] ((p ++ (List.replicate (g + 1) 32 ++ joinL (List.replicate (g + 1) 32) (q :: r))) ++ _) = _
    rw [List.append_assoc, List.append_assoc, fw_word _ _ _ h2, List.nil_append, fw_gap _ _ h1, fw_join g t (by simp) fun w hw => h w (List.mem_cons_of_mem _ hw)]
theorem tl_blank : tl (" " : Str) = [32] := by decide +kernel
theorem tl_nl : tl ("\n" : Str) = [10] := by decide +kernel
theorem blank_kind : (" " : Str).cps.all (· < 256) = true := by decide +kernel
theorem nl_kind : ("\n" : Str).cps.all (· < 256) = true := by decide +kernel
theorem wordsOf_tl (row : Str) : (wordsOf row).map tl = fw [] (tl row) := by
  unfold wordsOf fw
  have h := split_spl row " " (by rw [tl_blank]; simp) (kind_ok blank_kind)
  rw [tl_blank] at h
  rw [← h, List.filter_map] <;> rfl
theorem words_of_row {row : Str} {a g t : Nat} {ws : List Str} (e : tl row = List.replicate a 32 ++ (joinL (List.replicate (g + 1) 32) (ws.map tl) ++ List.replicate t 32)) (hn : ws ≠ []) (h : ∀ w ∈ ws, tl w ≠ [] ∧ 32 ∉ tl w) : wordsOf row = ws := by
  refine map_tl_inj ?_
  rw [wordsOf_tl, e, fw_blanks, fw_join g t (fun z => hn (List.map_eq_nil_iff.mp z)) fun w hw => by
    obtain ⟨z, hz, rfl⟩ := List.mem_map.mp hw
    exact h z hz]
theorem words_blank {row : Str} {a : Nat} (e : tl row = List.replicate a 32) : wordsOf row = [] := by
  refine map_tl_inj ?_
  rw [wordsOf_tl, e]
  have := fw_blanks a []
  rw [List.append_nil] at this
  rw [this] <;> rfl
theorem spl1_len (s : Nat) : ∀ (L acc : List Nat), (spl [s] 0 acc L).length ≤ L.length + 1 ∧ ∀ p ∈ spl [s] 0 acc L, p.length ≤ acc.length + L.length
  | [], acc => by
    rw [spl_nil]
    exact ⟨Nat.le_refl _, fun p h => by rw [List.mem_singleton.mp h]; exact Nat.le_refl _⟩
  | c :: r, acc => by
    by_cases h : c = s
    · subst h
      obtain ⟨h1, h2⟩ := spl1_len c r []
      rw [spl1_hit]
      refine ⟨by rw [List.length_cons, List.length_cons]; omega, fun p hp => ?_⟩
      rcases List.mem_cons.mp hp with e | e
      · rw [e]
        omega
      · have := h2 p e
        rw [List.length_cons]
        simp only [List.length_nil] at this
        omega
    · obtain ⟨h1, h2⟩ := spl1_len s r (acc ++ [c])
      rw [spl1_miss _ _ h]
      refine ⟨by rw [List.length_cons]; omega, fun p hp => ?_⟩
      have := h2 p hp
      rw [List.length_append, List.length_singleton] at this
      rw [List.length_cons]
      omega
theorem split_small {row : Str} (h : row.length ≤ 600) : (Txt.split row " ").length ≤ 1000 ∧ ∀ z ∈ Txt.split row " ", z.length ≤ 100000 := by
  have e := split_spl row " " (by rw [tl_blank]; simp) (kind_ok blank_kind)
  rw [tl_blank] at e
  obtain ⟨h1, h2⟩ := spl1_len 32 (tl row) []
  rw [len_tl] at h
  refine ⟨?_, fun z hz => ?_⟩
  · have := congrArg List.length e
    rw [List.length_map] at this
    omega
  · have := h2 (tl z) (by rw [← e]; exact List.mem_map.mpr ⟨z, hz, rfl⟩)
    rw [← len_tl] at this
    simp only [List.length_nil] at this
    omega

/-! a part's words -/
theorem kindBy_plain : ∀ c ∈ ([.src, .snk, .both, .either, .odd, .plus, .pick] : List Kc), kindBy (Kd.word ⟨c, 0⟩) = some ⟨c, 0⟩ := by decide +kernel
theorem kindBy_counted : ∀ c ∈ ([.up, .down] : List Kc), ∀ ct < 64, 1 ≤ ct → kindBy (Kd.word ⟨c, ((ct : Nat) : Int)⟩) = some ⟨c, ((ct : Nat) : Int)⟩ := by decide +kernel
theorem kindBy_fit {k : Kd} (h : k.fit) : kindBy k.word = some k := by
  obtain ⟨c, n⟩ := k
  cases hc : c.cnt with
  | false =>
    have : n = 0 := h.2 hc
    subst this
    exact kindBy_plain c (by revert hc; cases c <;> decide)
  | true =>
    obtain ⟨h1, h2⟩ := h.1 hc
    obtain ⟨ct, rfl⟩ := Int.eq_ofNat_of_zero_le (show 0 ≤ n by have : 1 ≤ n := h1; omega)
    have h1 : (1 : Int) ≤ (ct : Int) := h1
    have h2 : (ct : Int) ≤ 63 := h2
    exact kindBy_counted c (by revert hc; cases c <;> decide) ct (by omega) (by omega)
theorem name_free {z : Str} (h : goodName (tl z) = true) {s : Nat} (hs : nameSign s = false) : s ∉ tl z := fun hm => by
  unfold goodName at h
  rw [Bool.and_eq_true] at h
  have := List.all_eq_true.mp h.2 s hm
  rw [hs] at this
  cases this
theorem name_ne {z : Str} (h : goodName (tl z) = true) : tl z ≠ [] := fun e => by
  unfold goodName at h
  rw [e] at h
  cases h
theorem feedOf_name {z : Str} (h : goodName (tl z) = true) : feedOf z = some (z, 0) := by
  have hp : Txt.partition z "/" = (z, Str.empty, Str.empty) := partition_none tl_slash (name_free h (by decide))
  unfold feedOf
  rw [hp]
  rw [if_neg (by rw [h]; simp), if_pos (show tl Str.empty = [] by decide +kernel)]
theorem feedOf_num {z f : Str} {n : Nat} (h : goodName (tl z) = true) (e : tl f = numL n) (hn : n ≤ 100) : feedOf ((z ++ ("/" : Str)) ++ f) = some (z, (n : Int)) := by
  have hp : Txt.partition ((z ++ ("/" : Str)) ++ f) "/" = (z, ("/" : Str), f) := partition_app tl_slash (name_free h (by decide))
  unfold feedOf
  rw [hp]
  dsimp only
  rw [if_neg (by rw [h]; simp), if_neg (by rw [tl_slash]; simp), e, numIn_num (by omega) (by omega), if_neg (by omega)]
theorem feedOf_text {f : Str × Int} (h : goodName (tl f.1) = true) (h0 : 0 ≤ f.2) (h1 : f.2 ≤ 100) : feedOf (feedText f) = some f := by
  obtain ⟨z, n⟩ := f
  unfold feedText
  split
  · rename_i e
    have e : n = 0 := e
    subst e
    exact feedOf_name h
  · obtain ⟨m, rfl⟩ := Int.eq_ofNat_of_zero_le (show 0 ≤ n from h0)
    have h1 : (m : Int) ≤ 100 := h1
    exact feedOf_num h (tl_num m) (by omega)
theorem filterMap_some {α : Type} : ∀ l : List α, (l.map some).filterMap id = l
  | [] => rfl
  | x :: l => by
    rw [List.map_cons, List.filterMap_cons]
    show x :: _ = _
    rw [filterMap_some l]
theorem partOf_words {p : Pd} {fs : List Str} (hn : goodName (tl p.name) = true) (hk : p.kd.fit) (h0 : 0 ≤ p.time) (h1 : p.time ≤ 1000) (hf : fs.map feedOf = p.feeds.map some) (hl : p.feeds.length = p.kd.c.lines)
    (he : p.kd.c = .src ∨ p.kd.c = .snk → p.time = 0) : partOf (p.name :: p.kd.word :: Str.ofString (toString p.time) :: fs) = some p := by
  obtain ⟨name, kd, time, feeds⟩ := p
  obtain ⟨m, rfl⟩ := Int.eq_ofNat_of_zero_le (show 0 ≤ time from h0)
  have h1 : (m : Int) ≤ 1000 := h1
  have hnum : numIn (tl (Str.ofString (toString (m : Int)))) 1000 = (m : Int) := by rw [tl_num]; exact numIn_num (by omega) (by omega)
  have hfl : fs.length = kd.c.lines := by
    have := congrArg List.length hf
    rw [List.length_map, List.length_map] at this
    exact this.trans hl
  unfold partOf
  dsimp only
  rw [if_neg (by rw [show goodName (tl name) = true from hn]; simp)]
  rw [kindBy_fit hk]
  dsimp only
  rw [hnum, hf, if_neg (by rintro (z | z); omega; exact z hfl), if_neg, filterMap_some]
  rintro (z | ⟨z, z2⟩)
  · obtain ⟨f, _, e⟩ := List.mem_map.mp z
    cases e
  · have : (m : Int) = 0 := he (by simpa using z)
    omega
end SW


/-! ### texts that tell a works -/
namespace SW
open PySem PySem.Spec PyProof.Rows L2 He TL
structure Good (ps : List Pd) : Prop where
  wf : Wf ps
  ne : ps ≠ []
  fit : ∀ p ∈ ps, p.kd.fit
  time : ∀ p ∈ ps, 0 ≤ p.time ∧ p.time ≤ 1000 ∧ (p.kd.c = .src ∨ p.kd.c = .snk → p.time = 0)
  held : ∀ p ∈ ps, ∀ f ∈ p.feeds, 0 ≤ f.2 ∧ f.2 ≤ 100
  fed : ∀ p ∈ ps, ∀ f ∈ p.feeds, ∃ r ∈ ps, r.name = f.1 ∧ r.kd.c ≠ .snk
theorem Good.tell {ps : List Pd} (h : Good ps) : Tell ps := fun p hp => ⟨⟨(h.time p hp).1, by have := (h.time p hp).2.1; omega⟩, fun f hf => ⟨(h.held p hp f hf).1, by have := (h.held p hp f hf).2; omega⟩⟩
structure Tells (rows : List Str) (ps : List Pd) : Prop where
  each : ∀ row ∈ rows, row.length ≤ 600 ∧ 10 ∉ tl row ∧ (wordsOf row = [] ∨ ∃ p, partOf (wordsOf row) = some p)
  eq : partsOf rows = ps
theorem partOf_nil : partOf [] = none := rfl
theorem Tells.nil : Tells [] [] := ⟨fun _ h => (by cases h), rfl⟩
theorem Tells.row {rows : List Str} {ps : List Pd} {row : Str} {p : Pd} (h : Tells rows ps) (h1 : row.length ≤ 600) (h2 : 10 ∉ tl row) (h3 : partOf (wordsOf row) = some p) : Tells (rows ++ [row]) (ps ++ [p]) := by
  refine ⟨fun r hr => ?_, ?_⟩
  · rcases List.mem_append.mp hr with e | e
    · exact h.each r e
    · rw [List.mem_singleton.mp e]
      exact ⟨h1, h2, .inr ⟨p, h3⟩⟩
  · have := h.eq
    unfold partsOf at this ⊢
    rw [List.filterMap_append, this, List.filterMap_cons, h3] <;> rfl
theorem Tells.blank {rows : List Str} {ps : List Pd} {row : Str} (h : Tells rows ps) (h1 : row.length ≤ 600) (h2 : 10 ∉ tl row) (h3 : wordsOf row = []) : Tells (rows ++ [row]) ps := by
  refine ⟨fun r hr => ?_, ?_⟩
  · rcases List.mem_append.mp hr with e | e
    · exact h.each r e
    · rw [List.mem_singleton.mp e]
      exact ⟨h1, h2, .inl h3⟩
  · have := h.eq
    unfold partsOf at this ⊢
    rw [List.filterMap_append, this, List.filterMap_cons, h3, partOf_nil, List.filterMap_nil, List.append_nil]
theorem rows_join {rows : List Str} (hn : rows ≠ []) (h : ∀ row ∈ rows, 10 ∉ tl row) : rowsOf (Txt.join "\n" rows) = rows := split_join tl_nl nl_kind hn h
theorem reads_join {rows : List Str} {ps : List Pd} (h : Tells rows ps) (hn : rows ≠ []) (hl : rows.length ≤ 150) (g : Good ps) : Reads (Txt.join "\n" rows) ps := by
  have e := rows_join hn fun row hr => (h.each row hr).2.1
  have hlen : (Txt.join "\n" rows).length ≤ 100000 := by
    have h1 := join_len "\n" rows
    have h2 := sum_le (fun x : Str => x.length) 600 rows fun x hx => (h.each x hx).1
    have h3 : ("\n" : Str).length = 1 := by decide +kernel
    have h4 := Nat.mul_le_mul_right 600 hl
    rw [h3] at h1
    omega
  refine ⟨hlen, by rw [e]; omega, fun row hr => ?_, fun row hr => ?_, by rw [e]; exact h.eq, g.wf, g.ne, g.fed⟩
  · rw [e] at hr
    have h1 := (h.each row hr).1
    exact ⟨by omega, split_small h1⟩
  · rw [e] at hr
    exact (h.each row hr).2.2
/-- no blank, no end of a row -/
def plainW (z : Str) : Prop := tl z ≠ [] ∧ ∀ c ∈ tl z, 33 ≤ c
theorem plainW.app {a b : Str} (h : plainW a) (h2 : ∀ c ∈ tl b, 33 ≤ c) : plainW (a ++ b) := by
  refine ⟨by rw [tl_append]; exact fun z => h.1 (List.append_eq_nil_iff.mp z).1, fun c hc => ?_⟩
  rw [tl_append] at hc
  rcases List.mem_append.mp hc with e | e
  · exact h.2 c e
  · exact h2 c e
theorem plain_num {n : Int} (h : 0 ≤ n) : plainW (Str.ofString (toString n)) := by
  obtain ⟨m, rfl⟩ := Int.eq_ofNat_of_zero_le h
  unfold plainW
  rw [show tl (Str.ofString (toString ((m : Nat) : Int))) = numL m from tl_num m]
  refine ⟨numL_ne m, fun c hc => ?_⟩
  have := numL_digits m c hc
  omega
theorem plain_name {z : Str} (h : goodName (tl z) = true) : plainW z := by
  refine ⟨name_ne h, fun c hc => ?_⟩
  unfold goodName at h
  rw [Bool.and_eq_true] at h
  have := List.all_eq_true.mp h.2 c hc
  unfold nameSign at this
  rw [Bool.or_eq_true, Bool.and_eq_true, decide_eq_true_eq, decide_eq_true_eq, isDig_iff] at this
  omega
theorem plain_slash : ∀ c ∈ tl ("/" : Str), 33 ≤ c := by rw [tl_slash]; decide
theorem plain_word {k : Kd} (h : k.fit) : plainW k.word := by
  obtain ⟨c, n⟩ := k
  have dec : ∀ z ∈ ([("in" : Str), ("out" : Str), ("and" : Str), ("or" : Str), ("odd" : Str), ("plus" : Str), ("pick" : Str), ("up:" : Str), ("down:" : Str)]), tl z ≠ [] ∧ ∀ c ∈ tl z, 33 ≤ c := by decide +kernel
  cases c
  · exact dec "in" (by simp)
  · exact dec "out" (by simp)
  · exact dec "and" (by simp)
  · exact dec "or" (by simp)
  · exact dec "odd" (by simp)
  · exact dec "plus" (by simp)
  · exact dec "pick" (by simp)
  · have h1 : 1 ≤ n ∧ n ≤ 63 := h.1 rfl
    exact plainW.app (a := "up:") (dec "up:" (by simp)) (plain_num (n := n) (by omega)).2
  · have h1 : 1 ≤ n ∧ n ≤ 63 := h.1 rfl
    exact plainW.app (a := "down:") (dec "down:" (by simp)) (plain_num (n := n) (by omega)).2
theorem plain_feed {f : Str × Int} (h : goodName (tl f.1) = true) (h0 : 0 ≤ f.2) : plainW (feedText f) := by
  unfold feedText
  split
  · exact plain_name h
  · exact ((plain_name h).app plain_slash).app (plain_num h0).2
theorem plainW.free {z : Str} (h : plainW z) {s : Nat} (hs : s < 33) : s ∉ tl z := fun hm => by have := h.2 s hm; omega
theorem Good.words {ps : List Pd} (g : Good ps) {p : Pd} (hp : p ∈ ps) : ∀ z ∈ rowWords p, plainW z := by
  intro z hz
  unfold rowWords at hz
  rcases List.mem_append.mp hz with h | h
  · simp only [List.mem_cons, List.not_mem_nil, or_false] at h
    rcases h with rfl | rfl | rfl
    · exact plain_name (g.wf.nn p hp)
    · exact plain_word (g.fit p hp)
    · exact plain_num (g.time p hp).1
  · obtain ⟨f, hf, rfl⟩ := List.mem_map.mp h
    exact plain_feed (g.wf.good hp hf) (g.held p hp f hf).1
theorem joinL_free {s : Nat} {S : List Nat} (hS : s ∉ S) : ∀ {ws : List (List Nat)}, (∀ w ∈ ws, s ∉ w) → s ∉ joinL S ws
  | [], _ => by simp [joinL]
  | [w], h => h w (List.mem_cons_self ..)
  | p :: q :: r, h => by
    show s ∉ p ++ (S ++ joinL S (q :: r))
    rw [List.mem_append, List.mem_append]
    rintro (z | z | z)
    · exact h p (List.mem_cons_self ..) z
    · exact hS z
    · exact joinL_free hS (fun w hw => h w (List.mem_cons_of_mem _ hw)) z
/-- the words of a part, in a part's row -/
theorem Good.part {ps : List Pd} (g : Good ps) {p : Pd} (hp : p ∈ ps) {fs : List Str} (hf : fs.map feedOf = p.feeds.map some) : partOf (p.name :: p.kd.word :: Str.ofString (toString p.time) :: fs) = some p :=
  partOf_words (g.wf.nn p hp) (g.fit p hp) (g.time p hp).1 (g.time p hp).2.1 hf (g.wf.ln p hp) (g.time p hp).2.2
theorem Good.feeds {ps : List Pd} (g : Good ps) {p : Pd} (hp : p ∈ ps) : (p.feeds.map feedText).map feedOf = p.feeds.map some := by
  rw [List.map_map]
  refine List.map_congr_left fun f hf => ?_
  exact feedOf_text (g.wf.good hp hf) (g.held p hp f hf).1 (g.held p hp f hf).2
theorem tl_join' (y : Str) (parts : List Str) : tl (Txt.join y parts) = joinL (tl y) (parts.map tl) := by rw [join_eq, tl_join]
theorem Good.row_words {ps : List Pd} (g : Good ps) {p : Pd} (hp : p ∈ ps) : wordsOf (shownRow p) = rowWords p := by
  refine words_of_row (a := 0) (g := 0) (t := 0) ?_ (by simp [rowWords]) fun w hw => ⟨(g.words hp w hw).1, (g.words hp w hw).free (by decide)⟩
  unfold shownRow
  rw [tl_join', tl_blank]
  simp
theorem Good.row_free {ps : List Pd} (g : Good ps) {p : Pd} (hp : p ∈ ps) : 10 ∉ tl (shownRow p) := by
  unfold shownRow
  rw [tl_join', tl_blank]
  refine joinL_free (by decide) fun w hw => ?_
  obtain ⟨z, hz, rfl⟩ := List.mem_map.mp hw
  exact (g.words hp z hz).free (by decide)
theorem Good.row_split {ps : List Pd} (g : Good ps) {p : Pd} (hp : p ∈ ps) : Txt.split (shownRow p) " " = rowWords p :=
  split_join tl_blank blank_kind (by simp [rowWords]) fun w hw => (g.words hp w hw).free (by decide)
theorem Good.row_len {ps : List Pd} (g : Good ps) {p : Pd} (hp : p ∈ ps) : (shownRow p).length ≤ 130 := shownRow_le g.wf g.tell (g.fit p hp).1 hp
theorem Good.tells {ps : List Pd} (g : Good ps) : ∀ n, Tells ((ps.take n).map shownRow) (ps.take n)
  | 0 => by rw [List.take_zero]; exact Tells.nil
  | n + 1 => by
    cases e : ps[n]? with
    | none =>
      have := List.getElem?_eq_none_iff.mp e
      have ih := g.tells n
      rw [List.take_of_length_le (by omega)] at ih ⊢
      exact ih
    | some p =>
      have hp : p ∈ ps := List.mem_of_getElem? e
      rw [take_one e, List.map_append]
      refine (g.tells n).row (by have := g.row_len hp; omega) (g.row_free hp) ?_
      rw [g.row_words hp]
      exact g.part hp (g.feeds hp)
theorem Good.rows {ps : List Pd} (g : Good ps) : rowsOf (shownText ps) = ps.map shownRow :=
  rows_join (fun z => g.ne (List.map_eq_nil_iff.mp z)) fun row hr => by
    obtain ⟨p, hp, rfl⟩ := List.mem_map.mp hr
    exact g.row_free hp
theorem Good.reads {ps : List Pd} (g : Good ps) : Reads (shownText ps) ps := by
  have h := g.tells ps.length
  rw [List.take_length] at h
  have := g.wf.few
  exact reads_join h (fun z => g.ne (List.map_eq_nil_iff.mp z)) (by rw [List.length_map]; omega) g
/-! the law's works, as parts -/
def nameAt (ls : List Lp) (j : Nat) : Str := ((ls[j]?).map Lp.name).getD ""
def pdOf (ls : List Lp) (p : Lp) : Pd := ⟨p.name, p.kd, p.time, p.feeds.map fun f => (nameAt ls f.1, f.2)⟩
def worksOf (ls : List Lp) : List Pd := ls.map (pdOf ls)
theorem nameAt_of {ls : List Lp} {j : Nat} {p : Lp} (h : ls[j]? = some p) : nameAt ls j = p.name := by unfold nameAt; rw [h]; rfl
theorem worksOf_names (ls : List Lp) : (worksOf ls).map Pd.name = ls.map Lp.name := by unfold worksOf; rw [List.map_map] <;> rfl
section
variable {most : Nat} {mark : Int} {ls : List Lp}
theorem LawOk.name (h : LawOk most mark ls) {j : Nat} (hj : j < ls.length) : nameAt ls j = lawName j mark := by
  have e := List.getElem?_eq_getElem hj
  rw [nameAt_of e, (h.each j _ e).nm]
theorem LawOk.inj (h : LawOk most mark ls) (hm : most ≤ 59) {i j : Nat} (hi : i < ls.length) (hj : j < ls.length) (e : nameAt ls i = nameAt ls j) : i = j := by
  rw [h.name hi, h.name hj] at e
  have := h.hi
  exact name_inj (by omega) (by omega) e
theorem LawOk.nodup (h : LawOk most mark ls) (hm : most ≤ 59) : (ls.map Lp.name).Nodup := by
  rw [List.Nodup, List.pairwise_iff_getElem]
  intro i j hi hj hij e
  rw [List.length_map] at hi hj
  rw [List.getElem_map, List.getElem_map] at e
  have : i = j := h.inj hm hi hj (by rw [nameAt_of (List.getElem?_eq_getElem hi), nameAt_of (List.getElem?_eq_getElem hj)]; exact e)
  omega
theorem LawOk.feed (h : LawOk most mark ls) {p : Lp} (hp : p ∈ ls) {f : Nat × Int} (hf : f ∈ p.feeds) : ∃ r, ls[f.1]? = some r ∧ r.kd.c ≠ .snk := by
  obtain ⟨j, hj⟩ := List.mem_iff_getElem?.mp hp
  obtain ⟨⟨r, h1, h2⟩, _⟩ := (h.each j p hj).fd f hf
  rw [List.getElem?_map] at h1
  cases e : ls[f.1]? with
  | none => rw [e] at h1; cases h1
  | some r' => rw [e] at h1; cases h1; exact ⟨r', rfl, h2⟩
theorem LawOk.good (h : LawOk most mark ls) (hm : most ≤ 59) : Good (worksOf ls) := by
  have hmem : ∀ p ∈ worksOf ls, ∃ j l, ls[j]? = some l ∧ p = pdOf ls l ∧ LpOk mark (ls.map Lp.kd) j l := fun p hp => by
    obtain ⟨l, hl, rfl⟩ := List.mem_map.mp hp
    obtain ⟨j, hj⟩ := List.mem_iff_getElem?.mp hl
    exact ⟨j, l, hj, rfl, h.each j l hj⟩
  have hfed : ∀ p ∈ worksOf ls, ∀ f ∈ p.feeds, ∃ r ∈ worksOf ls, r.name = f.1 ∧ r.kd.c ≠ .snk := fun p hp f hf => by
    obtain ⟨j, l, hj, rfl, hl⟩ := hmem p hp
    obtain ⟨f0, hf0, rfl⟩ := List.mem_map.mp hf
    obtain ⟨r, h1, h2⟩ := h.feed (List.mem_of_getElem? hj) hf0
    exact ⟨pdOf ls r, List.mem_map.mpr ⟨r, List.mem_of_getElem? h1, rfl⟩, (nameAt_of h1).symm, h2⟩
  refine ⟨⟨?_, ?_, ?_, ?_, ?_, ?_⟩, ?_, ?_, ?_, ?_, hfed⟩
  · unfold worksOf
    rw [List.length_map]
    have := h.hi
    omega
  · rw [worksOf_names]
    exact h.nodup hm
  · intro p hp
    obtain ⟨j, l, hj, rfl, hl⟩ := hmem p hp
    show goodName (tl l.name) = true
    rw [hl.nm]
    have := lt_of_get hj
    have := h.hi
    exact name_good _ (by omega)
  · intro p hp f hf
    obtain ⟨r, h1, h2, _⟩ := hfed p hp f hf
    exact ⟨r, h1, h2⟩
  · intro p hp
    obtain ⟨j, l, hj, rfl, hl⟩ := hmem p hp
    show (l.feeds.map _).length = _
    rw [List.length_map]
    exact hl.fl
  · classical
    refine ⟨fun n => if z : ∃ k, k < ls.length ∧ nameAt ls k = n then Classical.choose z else 0, ?_⟩
    have rk : ∀ k, k < ls.length → (if z : ∃ k', k' < ls.length ∧ nameAt ls k' = nameAt ls k then Classical.choose z else 0) = k := fun k hk => by
      have z : ∃ k', k' < ls.length ∧ nameAt ls k' = nameAt ls k := ⟨k, hk, rfl⟩
      rw [dif_pos z]
      exact h.inj hm (Classical.choose_spec z).1 hk (Classical.choose_spec z).2
    intro p hp f hf h0
    obtain ⟨j, l, hj, rfl, hl⟩ := hmem p hp
    obtain ⟨f0, hf0, rfl⟩ := List.mem_map.mp hf
    obtain ⟨r, h1, _⟩ := h.feed (List.mem_of_getElem? hj) hf0
    have e1 := rk f0.1 (lt_of_get h1)
    have e2 := rk j (lt_of_get hj)
    rw [nameAt_of hj] at e2
    have h0 : f0.2 = 0 := h0
    show (if z : ∃ k, k < ls.length ∧ nameAt ls k = nameAt ls f0.1 then Classical.choose z else 0) < (if z : ∃ k, k < ls.length ∧ nameAt ls k = l.name then Classical.choose z else 0)
    rw [e1, e2]
    refine Nat.lt_of_not_le fun z => ?_
    have := (hl.fd f0 hf0).2.2.2 z
    omega
  · intro z
    have := congrArg List.length z
    unfold worksOf at this
    rw [List.length_map, List.length_nil] at this
    have := h.lo
    omega
  · intro p hp
    obtain ⟨j, l, hj, rfl, hl⟩ := hmem p hp
    exact h.kds.ok l.kd (List.mem_map.mpr ⟨l, List.mem_of_getElem? hj, rfl⟩)
  · intro p hp
    obtain ⟨j, l, hj, rfl, hl⟩ := hmem p hp
    exact ⟨hl.t0, by have := hl.t1; show l.time ≤ 1000; omega, hl.te⟩
  · intro p hp f hf
    obtain ⟨j, l, hj, rfl, hl⟩ := hmem p hp
    obtain ⟨f0, hf0, rfl⟩ := List.mem_map.mp hf
    have := (hl.fd f0 hf0).2
    exact ⟨this.1, by have := this.2.1; show f0.2 ≤ 100; omega⟩
end
end SW


/-! ### the law's text and lines -/
namespace SW
open PySem PySem.Spec PyProof.Rows L2 He TL
theorem at3 {α : Type} (x y z u : α) (r : List α) : atI (x :: y :: z :: u :: r) 3 = some u := atI_nat (j := 3) rfl
def spLawText (K : PySem.W.Frag) : Sp := fun vs H Q _ => ∃ (G : Hp) (a : Addr) (most : Nat) (mark : Int) (ls : List Lp), vs = [.ref a] ∧ Same G H ∧ LawAt G a ls ∧ LawOk most mark ls ∧ most ≤ 59 ∧
  ∀ H', Same H H' → Q (.str (shownText (worksOf ls))) H'
theorem app_emp (z : Str) : z ++ ("" : Str) = z := ext_tl (by rw [tl_append, tl_emp, List.append_nil])
theorem app3 (a b c : Str) : a ++ (b ++ c) = (a ++ b) ++ c := ext_tl (by rw [tl_append, tl_append, tl_append, tl_append, List.append_assoc])
section
variable {P : Program} {w : World} {K : PySem.W.Frag} {mg : Str → Option Value} {base : Heap}
theorem ok_law_text (T : Txt K mg) : Ok P w K mg base 1 (ga K "_law_text") ["_law_parts"] (spLawText K) := by
  refine mkOk T.F_law_text sc_law_text (fun _ _ _ _ _ _ us hl => match us, hl with | [_], _ => rfl) (by rintro vs H Q E ⟨_, _, _, _, _, rfl, _⟩; rfl) (fun cdv A outer s H vs Q E hr h => ?_)
  obtain ⟨G, a, most, mark, ls, rfl, sg, hla, hok, hm, q⟩ := h
  have ⟨us, ha, hA⟩ := hla
  have gd := hok.good hm
  have hi := hok.hi
  refine ⟨_, (pss_cons (ps_set (i := 1) sc_law_text.nd rfl (by first | exact Or.inl rfl | exact Or.inr rfl) (pe_lst pa_nil))
      (pss_cons (ps_for PassesOwn.never rfl (piL (K := K) (pv 0)) (pg_name (i := 2) sc_law_text.nd rfl (by first | exact Or.inl rfl | exact Or.inr rfl))
      (pss_cons (ps_set (i := 3) sc_law_text.nd rfl (by first | exact Or.inl rfl | exact Or.inr rfl) (pe_lst (pa_cons (pe_ix (ixT (K := K)) (pv 2) pe_int (fun _ _ => rfl)) (pa_cons (pe_ix (ixT (K := K)) (pv 2) pe_int (fun _ _ => rfl)) (pa_cons (pe_callTy call_str_int (by rfl) T.f_str (by decide +kernel) (pa_cons (pe_ix (ixT (K := K)) (pv 2) pe_int (fun _ _ => rfl)) pa_nil)) pa_nil)))))
      (pss_cons (ps_for PassesOwn.never rfl (piL (K := K) (pe_ix (ixT (K := K)) (pv 2) pe_int (fun _ _ => rfl))) (pg_name (i := 4) sc_law_text.nd rfl (by first | exact Or.inl rfl | exact Or.inr rfl))
      (pss_one (ps_expr (pe_bm PySem.F.plainAttrs_list PySem.F.slot_list_append PySem.F.type_list_append mt_append (pv 3) (pa_cons (pe_op op_add_str (pe_ix (ixT (K := K)) (pe_ix (ixL (K := K)) (pv 0) (pe_ix (ixT (K := K)) (pv 4) pe_int (fun _ _ => rfl)) (fun _ _ => rfl)) pe_int (fun _ _ => rfl)) (pe_ifExp (pt_cmpR op_gt (pe_ix (ixT (K := K)) (pv 4) pe_int (fun _ _ => rfl)) pe_int (nomark _)) (pe_op op_add_str pe_str (pe_callTy call_str_int (by rfl) T.f_str (by decide +kernel) (pa_cons (pe_ix (ixT (K := K)) (pv 4) pe_int (fun _ _ => rfl)) pa_nil))) pe_str)) pa_nil)))))
      (pss_one (ps_expr (pe_bm PySem.F.plainAttrs_list PySem.F.slot_list_append PySem.F.type_list_append mt_append (pv 1) (pa_cons (pe_join pe_str (pv 3)) pa_nil)))))))
      (pss_one (ps_ret (pe_join pe_str (pv 1)))))), ?_⟩
  refine ⟨Nat.zero_le _, fun qo hq => ?_⟩
  refine ⟨_, rfl, a, rfl, ⟨_, SqL.of (Same.new hq _ _ (sg _ _ ha))⟩, ?_⟩
  refine for_list (K := K) (a := a) (xs := us) (fun i σ H' => ∃ v2 v3 v4, σ = [some (.ref a), some (.ref qo), v2, v3, v4] ∧ Same H H' ∧ H' qo = some (.lst ((((worksOf ls).take i).map shownRow).map V.str)))
    ⟨none, none, none, rfl, Same.new hq, upd_same⟩ (fun i σ H' _ h => by obtain ⟨_, _, _, _, s, _⟩ := h; exact SqL.of (s _ _ (sg _ _ ha))) ?_ ?_
  · rintro i x σ H1 hi' ⟨v2, v3, v4, rfl, s1, e1⟩
    obtain ⟨p, hpi, b, m, ws, rfl, hp⟩ := hA.get hi'
    have hlp := hok.each i p hpi
    have hpm : pdOf ls p ∈ worksOf ls := List.mem_map.mpr ⟨p, List.mem_of_getElem? hpi, rfl⟩
    have hpi' : (worksOf ls)[i]? = some (pdOf ls p) := by unfold worksOf; rw [List.getElem?_map, hpi] <;> rfl
    have hob : ∀ {H'}, Same H H' → H' b = _ := fun s => s _ _ (sg _ _ hp.ob)
    obtain ⟨rw1, rw2⟩ := rowWords_le gd.wf gd.tell (gd.fit _ hpm).1 hpm
    have tp := gd.tell _ hpm
    refine ⟨_, rfl, b, _, _, _, rfl, rfl, SqT.of (hob s1), at0 _ _, ?_⟩
    refine ⟨_, rfl, b, _, _, _, rfl, rfl, SqT.of (hob s1), at1 _ _ _, ?_⟩
    refine ⟨_, rfl, b, _, _, _, rfl, rfl, SqT.of (hob s1), at2 _ _ _ _, _, rfl, dgt _ (by have := tp.1; exact Nat.lt_of_lt_of_le (show p.time.natAbs < 10000 from by have h1 : 0 ≤ p.time := this.1; have h2 : p.time < 10000 := this.2; omega) (by decide)), ?_⟩
    refine ⟨(by show 3 ≤ sizeLine; decide), fun wo hwo => ?_⟩
    have hwoH : H wo = none := s1.free hwo
    have s2 := s1.trans (Same.new (o := .lst [.str p.name, .str p.kd.word, .str (Str.ofString (toString p.time))]) hwo)
    have e2 : upd H1 wo (.lst [.str p.name, .str p.kd.word, .str (Str.ofString (toString p.time))]) qo = _ := (Same.new hwo) _ _ e1
    refine ⟨_, rfl, b, _, _, _, rfl, rfl, SqT.of (hob s2), at3 _ _ _ _ _, m, rfl, ⟨_, SqL.of (s2 _ _ (sg _ _ hp.ls))⟩, ?_⟩
    have hqw : qo ≠ wo := ne_of_none e1 hwo
    refine for_list (K := K) (a := m) (xs := ws) (fun j σ H' => ∃ v4, σ = [some (.ref a), some (.ref qo), some (.ref b), some (.ref wo), v4] ∧ Same H H' ∧ H' qo = some (.lst ((((worksOf ls).take i).map shownRow).map V.str)) ∧ H' wo = some (.lst (([p.name, p.kd.word, Str.ofString (toString p.time)] ++ ((pdOf ls p).feeds.take j).map feedText).map V.str)))
      ⟨v4, rfl, s2, e2, upd_same⟩ (fun i σ H' _ h => by obtain ⟨_, _, s, _⟩ := h; exact SqL.of (s _ _ (sg _ _ hp.ls))) ?_ ?_
    · rintro j y σ H3 hj ⟨v4, rfl, s3, e3, f3⟩
      obtain ⟨f, hfj, t, rfl, htup⟩ := hp.fs.get hj
      have hfm : f ∈ p.feeds := List.mem_of_getElem? hfj
      have ht3 := s3 _ _ (sg _ _ htup)
      obtain ⟨r, hr1, hr2⟩ := hok.feed (List.mem_of_getElem? hpi) hfm
      obtain ⟨rv, hrv, rt, rl, rvs, rfl, hrp⟩ := hA.get' hr1
      have hrt := s3 _ _ (sg _ _ hrp.ob)
      have fd := hlp.fd f hfm
      have f0 := fd.2.1
      have f2 := fd.2.2.1
      have hfj' : (pdOf ls p).feeds[j]? = some (nameAt ls f.1, f.2) := by
        show (p.feeds.map _)[j]? = _
        rw [List.getElem?_map, hfj] <;> rfl
      have ename : nameAt ls f.1 = r.name := nameAt_of hr1
      rw [ename] at hfj'
      have nl : r.name.length ≤ 8 := name_len (gd.wf.nn (pdOf ls r) (List.mem_map.mpr ⟨r, List.mem_of_getElem? hr1, rfl⟩))
      refine ⟨_, rfl, .inl ⟨rfl, _, SqL.of f3⟩, ?_⟩
      have put : ∃ p_1 ys x, V.ref wo = V.ref p_1 ∧ [V.str (feedText (r.name, f.2))] = [x] ∧ H3 p_1 = some (.lst ys) ∧ ys.length < sizeLine ∧ ∃ v4, [some (V.ref a), some (V.ref qo), some (V.ref b), some (V.ref wo), some (.ref t)] = [some (V.ref a), some (V.ref qo), some (V.ref b), some (V.ref wo), v4] ∧ Same H (upd H3 p_1 (.lst (ys ++ [x]))) ∧ (upd H3 p_1 (.lst (ys ++ [x]))) qo = some (.lst ((((worksOf ls).take i).map shownRow).map V.str)) ∧ (upd H3 p_1 (.lst (ys ++ [x]))) wo = some (.lst (([p.name, p.kd.word, Str.ofString (toString p.time)] ++ ((pdOf ls p).feeds.take (j + 1)).map feedText).map V.str)) := by
        refine ⟨wo, _, _, rfl, rfl, f3, ?_, _, rfl, fun c o e => ?_, ?_, ?_⟩
        · rw [List.length_map, List.length_append, List.length_map, List.length_take]
          have h1 : (pdOf ls p).feeds.length = _ := gd.wf.ln _ hpm
          have h2 := lines_le (pdOf ls p).kd.c
          exact small1000 (by show 3 + _ ≤ 1000; omega)
        · rw [upd_ne (ne_of_none e hwoH)]
          exact s3 c o e
        · rw [upd_ne hqw]
          exact e3
        · rw [upd_same, take_one hfj']
          simp only [List.map_append, List.map_cons, List.map_nil, List.append_assoc]
      refine ⟨_, rfl, _, rfl, t, _, _, _, rfl, rfl, SqT.of ht3, at0 _ _, a, _, _, .ref rt, rfl, rfl, SqL.of (s3 _ _ (sg _ _ ha)), atI_nat hrv, rt, _, _, _, rfl, rfl, SqT.of hrt, at0 _ _, ?_⟩
      refine ⟨_, rfl, t, _, _, _, rfl, rfl, SqT.of ht3, at1 _ _ _, _, _, rfl, rfl, _, rfl, ?_⟩
      refine ite2 (fun h0 => ?_) (fun h0 => ?_)
      · have h0' : ¬ f.2 = 0 := by have := of_decide_eq_true h0; omega
        have ef : feedText (r.name, f.2) = r.name ++ (("/" : Str) ++ Str.ofString (toString f.2)) := by unfold feedText; rw [if_neg h0', app3]
        have l2 := num_len f0 (by omega)
        have l1 : (("/" : Str) ++ Str.ofString (toString f.2)).length = 1 + (Str.ofString (toString f.2)).length := by rw [len_tl, tl_append, List.length_append, ← len_tl, ← len_tl, slash_len]
        refine ⟨_, rfl, t, _, _, _, rfl, rfl, SqT.of ht3, at1 _ _ _, _, rfl, dgt _ (Nat.lt_of_lt_of_le (by omega : f.2.natAbs < 10000) (by decide)), _, _, rfl, rfl, Nat.le_trans (show ("/" : Str).length + (Str.ofString (toString f.2)).length ≤ 100 by rw [slash_len]; omega) (by decide), ?_⟩
        refine ⟨_, _, rfl, rfl, Nat.le_trans (show r.name.length + (("/" : Str) ++ Str.ofString (toString f.2)).length ≤ 100 by omega) (by decide), ?_⟩
        rw [ef] at put
        exact put
      · have h0' : f.2 = 0 := by
          have : ¬ (f.2 > 0) := fun z => h0 (decide_eq_true z)
          omega
        have ef : feedText (r.name, f.2) = r.name ++ ("" : Str) := by unfold feedText; rw [if_pos h0', app_emp]
        refine ⟨_, _, rfl, rfl, Nat.le_trans (show r.name.length + ("" : Str).length ≤ 100 by rw [show ("" : Str).length = 0 by decide +kernel]; omega) (by decide), ?_⟩
        rw [ef] at put
        exact put
    · rintro σ H3 ⟨v4, rfl, s3, e3, f3⟩
      have hfl : ws.length = (pdOf ls p).feeds.length := by rw [hp.fs.1]; exact (List.length_map ..).symm
      rw [hfl, List.take_length] at f3
      refine ⟨_, rfl, .inl ⟨rfl, _, SqL.of e3⟩, ?_⟩
      have hsum : ((rowWords (pdOf ls p)).map (·.length)).sum + (rowWords (pdOf ls p)).length * (" " : Str).length ≤ 16777216 := by
        have h4 := sum_le (fun x : Str => x.length) 20 (rowWords (pdOf ls p)) rw1
        have e : (" " : Str).length = 1 := by decide +kernel
        have h5 := Nat.mul_le_mul_right 20 rw2
        rw [e]
        omega
      refine ⟨⟨_, rfl⟩, _, rfl, _, wo, rowWords (pdOf ls p), rfl, rfl, .inl (SqL.of f3), hsum, ?_⟩
      refine ⟨qo, _, _, rfl, rfl, e3, ?_, _, _, _, rfl, fun c o e => ?_, ?_⟩
      · rw [List.length_map, List.length_map, List.length_take]
        have h1 := gd.wf.few
        exact small1000 (by omega)
      · rw [upd_ne (ne_of_none e hq)]
        exact s3 c o e
      · rw [upd_same, take_one hpi']
        simp only [List.map_append, List.map_cons, List.map_nil]
        rfl
  · rintro σ H1 ⟨v2, v3, v4, rfl, s1, e1⟩
    have hwl : us.length = (worksOf ls).length := by rw [hA.1]; exact (List.length_map ..).symm
    rw [hwl, List.take_length] at e1
    have hsum : (((worksOf ls).map shownRow).map (·.length)).sum + ((worksOf ls).map shownRow).length * ("\n" : Str).length ≤ 16777216 := by
      have h4 := sum_le (fun x : Str => x.length) 130 ((worksOf ls).map shownRow) fun z hz => by
        obtain ⟨p, hpm, rfl⟩ := List.mem_map.mp hz
        exact gd.row_len hpm
      have e : ("\n" : Str).length = 1 := by decide +kernel
      rw [List.length_map] at h4 ⊢
      have h5 := Nat.mul_le_mul_right 130 gd.wf.few
      rw [e]
      omega
    refine ⟨⟨_, rfl⟩, _, rfl, _, qo, (worksOf ls).map shownRow, rfl, rfl, .inl (SqL.of e1), hsum, ?_⟩
    exact q _ s1
end
end SW


/-! ### settled, with its refusal -/
namespace SW
open PySem PySem.Spec PyProof.Rows L2 He TL
/-- a works, whether lines without stores go round or not -/
structure Wf0 (ps : List Pd) : Prop where
  few : ps.length ≤ 60
  nd : (ps.map Pd.name).Nodup
  nn : ∀ p ∈ ps, goodName (tl p.name) = true
  cl : ∀ p ∈ ps, ∀ f ∈ p.feeds, ∃ r ∈ ps, r.name = f.1
  ln : ∀ p ∈ ps, p.feeds.length = p.kd.c.lines
def NoRing (ps : List Pd) : Prop := ∃ rank : Str → Nat, ∀ p ∈ ps, ∀ f ∈ p.feeds, f.2 = 0 → rank f.1 < rank p.name
theorem Wf0.wf {ps : List Pd} (h : Wf0 ps) (a : NoRing ps) : Wf ps := ⟨h.few, h.nd, h.nn, h.cl, h.ln, a⟩
theorem Wf.w0 {ps : List Pd} (h : Wf ps) : Wf0 ps := ⟨h.few, h.nd, h.nn, h.cl, h.ln⟩
/-- no part is ready -/
def Stuck (ps : List Pd) : Prop := ∃ os, Ord ps os ∧ os.length < ps.length ∧ ∀ p ∈ ps, p.name ∈ os.map Pd.name ∨ ∃ f ∈ p.feeds, f.2 = 0 ∧ f.1 ∉ os.map Pd.name
theorem Stuck.ring {ps : List Pd} (h : Stuck ps) (hf : Wf0 ps) : ¬ NoRing ps := fun a => by
  obtain ⟨os, hO, hl, hno⟩ := h
  obtain ⟨p, hp, h1, h2⟩ := some_ready (hf.wf a) hO hl
  rcases hno p hp with h | ⟨f, hf1, h0, hf2⟩
  · exact h1 h
  · exact hf2 (h2 f hf1 h0)
theorem idx_le : ∀ {l : List Str} {j : Nat} {x : Str}, l[j]? = some x → l.idxOf x ≤ j
  | [], j, x, h => by cases h
  | y :: l, 0, x, h => by
    have h : some y = some x := h
    cases h
    rw [List.idxOf_cons_self] <;> exact Nat.le_refl _
  | y :: l, j + 1, x, h => by
    have h : l[j]? = some x := h
    have ih := idx_le h
    rw [List.idxOf_cons]
    cases (y == x) with
    | true => exact Nat.zero_le _
    | false => exact Nat.succ_le_succ ih
theorem ord_noring {ps os : List Pd} (hf : Wf0 ps) (hO : Ord ps os) (hl : os.length = ps.length) : NoRing ps := by
  have hall : ∀ p ∈ ps, p.name ∈ os.map Pd.name := fun p hp => sub_full hO.nd (fun x hx => by
    obtain ⟨r, hr, rfl⟩ := List.mem_map.mp hx
    exact List.mem_map.mpr ⟨r, hO.sub r hr, rfl⟩) (by rw [List.length_map, List.length_map, hl]; exact Nat.le_refl _) _ (List.mem_map.mpr ⟨p, hp, rfl⟩)
  have uniq : ∀ {p r : Pd}, p ∈ ps → r ∈ ps → p.name = r.name → p = r := fun {p r} hp hr e => by
    obtain ⟨i, hi⟩ := List.mem_iff_getElem?.mp hp
    obtain ⟨j, hj⟩ := List.mem_iff_getElem?.mp hr
    obtain ⟨h1, rfl⟩ := List.getElem?_eq_some_iff.mp hi
    obtain ⟨h2, rfl⟩ := List.getElem?_eq_some_iff.mp hj
    rcases Nat.lt_trichotomy i j with h | h | h
    · have := List.pairwise_iff_getElem.mp hf.nd i j (by rw [List.length_map]; exact h1) (by rw [List.length_map]; exact h2) h
      rw [List.getElem_map, List.getElem_map] at this
      exact absurd e this
    · subst h
      rfl
    · have := List.pairwise_iff_getElem.mp hf.nd j i (by rw [List.length_map]; exact h2) (by rw [List.length_map]; exact h1) h
      rw [List.getElem_map, List.getElem_map] at this
      exact absurd e.symm this
  refine ⟨fun n => (os.map Pd.name).idxOf n, fun p hp f hfm h0 => ?_⟩
  obtain ⟨r, hr, e⟩ := List.mem_map.mp (hall p hp)
  have er : r = p := uniq (hO.sub r hr) hp e
  subst er
  have hil : (os.map Pd.name).idxOf r.name < (os.map Pd.name).length := List.idxOf_lt_length_iff.mpr (hall r hp)
  have hil2 : (os.map Pd.name).idxOf r.name < os.length := by rw [List.length_map] at hil; exact hil
  have hget : os[(os.map Pd.name).idxOf r.name]? = some r := by
    have h1 : (os.map Pd.name)[(os.map Pd.name).idxOf r.name] = r.name := List.getElem_idxOf hil
    rw [List.getElem_map] at h1
    rw [List.getElem?_eq_getElem hil2]
    congr 1
    exact uniq (hO.sub _ (List.getElem_mem hil2)) hp h1
  have h1 := hO.topo _ r hget f hfm h0
  rw [List.map_take] at h1
  obtain ⟨j, hj⟩ := List.mem_iff_getElem?.mp h1
  rw [List.getElem?_take] at hj
  split at hj
  · rename_i hlt
    exact Nat.lt_of_le_of_lt (idx_le hj) hlt
  · cases hj
def spSettledX (K : PySem.W.Frag) : Sp := fun vs H Q E => ∃ (G : Hp) (a : Addr) (ps : List Pd), vs = [.ref a] ∧ Same G H ∧ WorksAt K G a ps ∧ Wf0 ps ∧
  (∀ (q : Addr) (us : List V) (os : List Pd) (H' : Hp), Same H H' → H q = none → H' q = some (.lst us) → All2 (PartAt K G) us os → Ord ps os → os.length = ps.length → Q (.ref q) H') ∧
  ∀ H', Same H H' → Stuck ps → E (.ref (ga K "Ring")) none H'
section
variable {P : Program} {w : World} {K : PySem.W.Frag} {mg : Str → Option Value} {base : Heap}
theorem ok_settledX (T : Txt K mg) : OkX P w K mg base 1 (ga K "settled") ["works"] (spSettledX K) := by
  refine mkOkX T.F_settled sc_settled (fun _ _ _ _ _ _ us hl => match us, hl with | [_], _ => rfl) (by rintro vs H Q E ⟨_, _, _, rfl, _⟩; rfl) (fun cdv A outer s H vs Q E hr h => ?_)
  obtain ⟨G, a, ps, rfl, sg, hwa, hf, q, qE⟩ := h
  have ⟨dx, l, us, hw⟩ := hwa
  have hu := hu_of hr
  refine ⟨_, (pss_cons (ps_set (i := 1) sc_settled.nd rfl (by first | exact Or.inl rfl | exact Or.inr rfl) (pe_lst pa_nil))
      (pss_cons (ps_set (i := 2) sc_settled.nd rfl (by first | exact Or.inl rfl | exact Or.inr rfl) pe_dnewK)
      (pss_cons (ps_while (passes_of rfl) (pt_cmpR op_lt (pe_callB (lenQ (K := K)) (by rfl) T.f_len (by decide +kernel) (pa_cons (pv 1) pa_nil)) (pe_callB (lenQ (K := K)) (by rfl) T.f_len (by decide +kernel) (pa_cons (pe_fldK (K := K) (pv 0) rfl) pa_nil)) (nomark _)) (pss_cons (ps_set (i := 3) sc_settled.nd rfl (by first | exact Or.inl rfl | exact Or.inr rfl) pe_bl)
      (pss_cons (ps_for (passes_of rfl) rfl (piL (K := K) (pe_fldK (K := K) (pv 0) rfl)) (pg_name (i := 4) sc_settled.nd rfl (by first | exact Or.inl rfl | exact Or.inr rfl))
      (pss_cons (ps_setLc (i := 5) (own := [("feed", 6)]) rfl sc_settled.nd rfl rfl (sw_true rfl rfl rfl (by decide +kernel)) (piL (K := K) (pe_fldK (K := K) (pv 4) rfl)) (blkOk_by (own := [("feed", 6)]) (N := ["works", "order", "done", "found", "part", "ready", "feed"]) (sc := defScope s_settled) (by decide +kernel)) (fun _ _ _ _ _ => (pg_name (i := 6) sc_settled.nd rfl (by first | exact Or.inl rfl | exact Or.inr rfl))) (fun _ _ _ _ _ => pts_one (PW.pt (pw_and (pt_cmpR op_eq (pe_ix (ixT (K := K)) (pv 6) pe_int (fun _ _ => rfl)) pe_int (nomark _)) (pw_and1 (pt_cmp (pc_dnotin hu (pe_ix (ixT (K := K)) (pv 6) pe_int (fun _ _ => rfl)) (pv 2))))))) (fun _ _ _ _ _ => (pv 6)))
      (pss_one (ps_if (PW.pt (pw_and (pt_cmpR (eqEmpK (K := K) (hu0_of hr)) (pv 5) (pe_lst pa_nil) (nomark _)) (pw_and1 (pt_cmp (pc_dnotin hu (pe_fldK (K := K) (pv 4) rfl) (pv 2)))))) (pss_cons (ps_dput hu (pv 2) (pe_fldK (K := K) (pv 4) rfl) pe_bl rfl)
      (pss_cons (ps_expr (pe_bm PySem.F.plainAttrs_list PySem.F.slot_list_append PySem.F.type_list_append mt_append (pv 1) (pa_cons (pv 4) pa_nil)))
      (pss_one (ps_set (i := 3) sc_settled.nd rfl (by first | exact Or.inl rfl | exact Or.inr rfl) pe_bl)))) pss_nil))))
      (pss_one (ps_if (pt_not (pt_val (pv 3))) (pss_one (ps_raiseF T.xf_Ring rfl (takes_of rfl rfl rfl rfl) T.g_Ring)) pss_nil)))))
      (pss_one (ps_ret (pv 1)))))), ?_⟩
  refine ⟨Nat.zero_le _, fun qo hq => ?_⟩
  intro d hd
  have hqd : qo ≠ d := fun z => by rw [z] at hd; rw [upd_same] at hd; cases hd
  have hdH : H d = none := by rw [upd_ne hqd.symm] at hd; exact hd
  have fewl := hf.few
  refine ⟨fun m σ H' => ∃ os us' v3 v4 v5 v6, m = ps.length - os.length ∧ σ = [some (.ref a), some (.ref qo), some (.ref d), v3, v4, v5, v6] ∧ Same H H' ∧ H' qo = some (.lst us') ∧ H' d = some (.dK (doneK os)) ∧ All2 (PartAt K G) us' os ∧ Ord ps os,
    ⟨_, [], [], none, none, none, none, rfl, rfl, (Same.new hq).trans (Same.new hd), by rw [upd_ne hqd, upd_same], upd_same, All2.nil, ⟨List.nodup_nil, fun p h => (by cases h), Topo.nil⟩⟩, ?_⟩
  rintro m σ H1 ⟨os, us', v3, v4, v5, v6, rfl, rfl, s1, o1, d1, hA, hO⟩
  have hall := s1
  refine ⟨_, rfl, qo, _, rfl, .inl (SqL.of o1), _, rfl, a, _, dx, _, _, rfl, s1 _ _ (sg _ _ hw.ob), T.c_Works, T.n_Works_parts, rfl, l, _, rfl, .inl (SqL.of (s1 _ _ (sg _ _ hw.ls))), _, _, rfl, rfl, _, rfl, ?_⟩
  have hsub : os.length ≤ ps.length := by
    have := nodup_len hO.nd (ys := ps.map Pd.name) fun x hx => by
      obtain ⟨p, hp, rfl⟩ := List.mem_map.mp hx
      exact List.mem_map.mpr ⟨p, hO.sub p hp, rfl⟩
    rw [List.length_map, List.length_map] at this
    exact this
  refine ite2 (fun hlt => ?_) (fun hlt => ?_)
  rotate_left
  · have : os.length = ps.length := by
      have h1 : ¬ ((us'.length : Int) < (us.length : Int)) := fun z => hlt (decide_eq_true z)
      rw [hA.1, hw.ps.1] at h1
      omega
    exact ⟨_, rfl, q qo us' os H1 s1 hq o1 hA hO this⟩
  have hlt' : os.length < ps.length := by
    have := of_decide_eq_true hlt
    rw [hA.1, hw.ps.1] at this
    omega
  refine ⟨fun σ H' => ∃ os' us' v3 v4 v5 v6, os.length < os'.length ∧ σ = [some (.ref a), some (.ref qo), some (.ref d), v3, v4, v5, v6] ∧ Same H H' ∧ H' qo = some (.lst us') ∧ H' d = some (.dK (doneK os')) ∧ All2 (PartAt K G) us' os' ∧ Ord ps os',
    fun σ H' ⟨os', us', v3, v4, v5, v6, h1, h2, h3⟩ => ⟨ps.length - os'.length, by omega, os', us', v3, v4, v5, v6, rfl, h2, h3⟩, ?_⟩
  -- one round
  refine ⟨_, rfl, a, _, dx, _, _, rfl, s1 _ _ (sg _ _ hw.ob), T.c_Works, T.n_Works_parts, rfl, l, rfl, ⟨_, SqL.of (s1 _ _ (sg _ _ hw.ls))⟩, ?_⟩
  let Pv : Nat → L2.St → Hp → Prop := fun i σ H' => ∃ os' us' b v4 v5 v6, σ = [some (.ref a), some (.ref qo), some (.ref d), some (.bl b), v4, v5, v6] ∧ Same H H' ∧ H' qo = some (.lst us') ∧ H' d = some (.dK (doneK os')) ∧ All2 (PartAt K G) us' os' ∧ Ord ps os' ∧
      (b = true → os.length < os'.length) ∧ (b = false → os' = os ∧ ∀ p ∈ ps.take i, p.name ∈ os.map Pd.name ∨ ∃ f ∈ p.feeds, f.2 = 0 ∧ f.1 ∉ os.map Pd.name)
  refine for_list (K := K) (a := l) (xs := us) Pv
    ⟨os, us', false, v4, v5, v6, rfl, s1, o1, d1, hA, hO, (fun z => by cases z), fun _ => ⟨rfl, fun p h => by rw [List.take_zero] at h; cases h⟩⟩ (fun i σ H' _ h => by obtain ⟨_, _, _, _, _, _, _, s, _⟩ := h; exact SqL.of (s _ _ (sg _ _ hw.ls))) ?_ ?_
  rotate_left
  · -- found?
    rintro σ H2 ⟨os', us2, b, v4, v5, v6, rfl, s2, o2, d2, hA2, hO2, hb1, hb2⟩
    cases b with
    | true => exact ⟨_, rfl, true, rfl, iteF ⟨os', us2, _, _, _, _, hb1 rfl, rfl, s2, o2, d2, hA2, hO2⟩⟩
    | false =>
      obtain ⟨_, hno⟩ := hb2 rfl
      rw [hw.ps.1, List.take_length] at hno
      exact ⟨_, rfl, false, rfl, iteT (qE H2 s2 ⟨os, hO, hlt', hno⟩)⟩
  rintro i x σ H2 hi ⟨os', us2, b, v4, v5, v6, rfl, s2, o2, d2, hA2, hO2, hb1, hb2⟩
  obtain ⟨p, hpi, pa, dp, k, fl, ws, rfl, hp⟩ := hw.ps.get hi
  have hpm : p ∈ ps := List.mem_of_getElem? hpi
  have hpob : ∀ {H'}, Same H H' → H' pa = _ := fun s => s _ _ (sg _ _ hp.ob)
  -- ready
  refine ⟨_, rfl, pa, _, dp, _, _, rfl, hpob s2, T.c_Part, T.n_Part_feeds, rfl, fl, rfl, ⟨_, SqL.of (s2 _ _ (sg _ _ hp.ls))⟩, fun D hD => ?_⟩
  have hDH : H D = none := s2.free hD
  refine lc_list (K := K) (a := fl) (xs := ws) (fun j H' => ∃ acc, Same H2 H' ∧ H' D = some (.lst acc) ∧ All2 (FeedAt G) acc ((p.feeds.take j).filter (notDone os')))
    ⟨[], Same.new hD, upd_same, All2.nil⟩ (fun j H' _ h => by obtain ⟨_, s, _⟩ := h; exact SqL.of (s _ _ (s2 _ _ (sg _ _ hp.ls)))) ?_ ?_
  · rintro j y H3 hj ⟨acc, s3, e3, hAc⟩
    obtain ⟨f, hfj, t, rfl, ht⟩ := hp.fs.get hj
    have ht3 := s3 _ _ (s2 _ _ (sg _ _ ht))
    refine ⟨rfl, ?_⟩
    refine ⟨_, rfl, t, _, _, _, rfl, rfl, SqT.of ht3, at1 _ _ _, rfl, _, rfl, ?_⟩
    have put : notDone os' f = true → ∃ acc', H3 D = some (.lst acc') ∧ acc'.length < sizeLine ∧ ∃ acc2, Same H2 (upd H3 D (.lst (acc' ++ [.ref t]))) ∧ (upd H3 D (.lst (acc' ++ [.ref t]))) D = some (.lst acc2) ∧ All2 (FeedAt G) acc2 ((p.feeds.take (j + 1)).filter (notDone os')) := fun hn => by
      refine ⟨acc, e3, ?_, acc ++ [.ref t], fun c o e => by rw [upd_ne (ne_of_none e hD)]; exact s3 c o e, upd_same, ?_⟩
      · rw [hAc.1]
        have h1 := List.length_filter_le (notDone os') (p.feeds.take j)
        rw [List.length_take] at h1
        have h2 := hf.ln p hpm
        have h3 := lines_le p.kd.c
        exact small1000 (by omega)
      · rw [take_one hfj, List.filter_append, List.filter_cons, hn]
        exact hAc.push ⟨t, rfl, ht⟩
    have skip : notDone os' f = false → ∃ acc2, Same H2 H3 ∧ H3 D = some (.lst acc2) ∧ All2 (FeedAt G) acc2 ((p.feeds.take (j + 1)).filter (notDone os')) := fun hn => by
      refine ⟨acc, s3, e3, ?_⟩
      rw [take_one hfj, List.filter_append, List.filter_cons, hn]
      simp only [Bool.false_eq_true, if_false, List.filter_nil, List.append_nil]
      exact hAc
    refine ite2 (fun h0 => ?_) (fun h0 => ?_)
    · have h0' : f.2 = 0 := V.int.inj (of_decide_eq_true h0)
      refine ⟨_, rfl, t, _, _, _, rfl, rfl, SqT.of ht3, at0 _ _, _, rfl, d, _, rfl, DGet.k (k := Sum.inr f.1) (s3 _ _ d2), _, rfl, ?_⟩
      rw [val_done]
      by_cases hm : f.1 ∈ os'.map Pd.name
      · rw [decide_eq_true hm]
        exact iteF (skip (by unfold notDone; rw [decide_eq_true hm]; simp))
      · rw [decide_eq_false hm]
        exact iteT ⟨_, rfl, put (by unfold notDone; rw [decide_eq_false hm, decide_eq_true h0']; rfl)⟩
    · exact iteF (skip (by unfold notDone; rw [decide_eq_false (fun z => h0 (decide_eq_true (by rw [z])))]; rfl))
  rintro H3 ⟨acc, s3, e3, hAc⟩
  rw [hp.fs.1, List.take_length] at hAc
  have s03 := s2.trans s3
  -- if ready == [] and part.called not in done
  have eem : acc.isEmpty = (p.feeds.filter (notDone os')).isEmpty := by
    have := hAc.1
    cases acc <;> cases e : p.feeds.filter (notDone os') <;> rw [e] at this <;> first | rfl | simp at this
  refine ⟨_, rfl, Nat.zero_le _, fun z hz => ?_⟩
  have s3z : Same H3 (upd H3 z (.lst [])) := Same.new hz
  refine ⟨D, z, acc, rfl, rfl, SqL.of (s3z _ _ e3), SqL.of upd_same, _, rfl, ?_⟩
  rw [eem]
  have s04 := s03.trans s3z
  have o4 := s3z _ _ (s3 _ _ o2)
  have d4 := s3z _ _ (s3 _ _ d2)
  revert s04 o4 d4
  generalize upd H3 z (HO.lst []) = H4
  intro s04 o4 d4
  have stay : ∀ v6, (∃ f ∈ p.feeds, f.2 = 0 ∧ f.1 ∉ os'.map Pd.name) ∨ p.name ∈ os'.map Pd.name → Pv (i + 1) [some (.ref a), some (.ref qo), some (.ref d), some (.bl b), some (.ref pa), some (.ref D), v6] H4 := fun v6 hst => by
    refine ⟨os', us2, b, _, _, v6, rfl, s04, o4, d4, hA2, hO2, hb1, fun hb => ?_⟩
    obtain ⟨e, hno⟩ := hb2 hb
    refine ⟨e, fun r hr' => ?_⟩
    rw [take_one hpi] at hr'
    rcases List.mem_append.mp hr' with h | h
    · exact hno r h
    · rw [List.mem_singleton.mp h, ← e]
      exact hst.symm
  cases hem : (p.feeds.filter (notDone os')).isEmpty with
  | false =>
    refine iteF ?_
    have : ∃ f ∈ p.feeds, f.2 = 0 ∧ f.1 ∉ os'.map Pd.name := by
      cases e : p.feeds.filter (notDone os') with
      | nil => rw [e] at hem; cases hem
      | cons f r =>
        have hm : f ∈ p.feeds.filter (notDone os') := by rw [e]; exact List.mem_cons_self ..
        obtain ⟨h1, h2⟩ := List.mem_filter.mp hm
        unfold notDone at h2
        simp only [Bool.and_eq_true, decide_eq_true_eq, Bool.not_eq_true', decide_eq_false_iff_not] at h2
        exact ⟨f, h1, h2⟩
    exact stay _ (.inl this)
  | true =>
    refine iteT ?_
    have hnone : ∀ f ∈ p.feeds, f.2 = 0 → f.1 ∈ os'.map Pd.name := fun f hf1 h0 => by
      refine Classical.byContradiction fun hn => ?_
      have hm : f ∈ p.feeds.filter (notDone os') := List.mem_filter.mpr ⟨hf1, by unfold notDone; rw [decide_eq_true h0, decide_eq_false hn]; rfl⟩
      rw [List.isEmpty_iff.mp hem] at hm
      cases hm
    refine ⟨_, rfl, pa, _, dp, _, _, rfl, hpob s04, T.c_Part, T.n_Part_called, rfl, _, rfl, d, _, rfl, DGet.k (k := Sum.inr p.name) d4, _, rfl, ?_⟩
    rw [val_done]
    by_cases hm : p.name ∈ os'.map Pd.name
    · rw [decide_eq_true hm]
      exact iteF (stay _ (.inr hm))
    · rw [decide_eq_false hm]
      refine iteT ?_
      have hol : os'.length ≤ 60 := by
        have := nodup_len hO2.nd (ys := ps.map Pd.name) fun x hx => by
          obtain ⟨p, hp, rfl⟩ := List.mem_map.mp hx
          exact List.mem_map.mpr ⟨p, hO2.sub p hp, rfl⟩
        rw [List.length_map, List.length_map] at this
        omega
      have hdl : (doneK os').length < sizeLine := by
        unfold doneK
        rw [List.length_map]
        exact small1000 (by omega)
      refine ⟨_, rfl, _, rfl, pa, _, dp, _, _, rfl, hpob s04, T.c_Part, T.n_Part_called, rfl, d, _, rfl, DPut.k (k := Sum.inr p.name) d4 hdl, ?_⟩
      have ed : putK (doneK os') (Sum.inr p.name : Key) (V.bl true) = doneK (os' ++ [p]) := by
        rw [putK_new _ (val_done_none hm)]
        unfold doneK
        rw [List.map_append] <;> rfl
      rw [ed]
      refine ⟨_, rfl, .inl ⟨rfl, _, SqL.of (by rw [upd_ne hqd]; exact o4)⟩, _, rfl, qo, us2, _, rfl, rfl, by rw [upd_ne hqd]; exact o4, by rw [hA2.1]; exact small1000 (by omega), ?_⟩
      refine ⟨os' ++ [p], us2 ++ [.ref pa], true, some (.ref pa), some (.ref D), v6, rfl, fun c o e => ?_, upd_same, ?_, ?_, ?_, fun _ => ?_, fun z => by cases z⟩
      · rw [upd_ne (ne_of_none e hq), upd_ne (ne_of_none e hdH)]
        exact s04 c o e
      · rw [upd_ne hqd.symm, upd_same]
      · exact hA2.push ⟨pa, dp, k, fl, ws, rfl, hp⟩
      · refine ⟨?_, fun r hr' => ?_, hO2.topo.push hnone⟩
        · rw [List.map_append]
          exact List.nodup_append.mpr ⟨hO2.nd, by simp, fun x hx y hy => by
            rw [List.map_cons, List.map_nil, List.mem_singleton] at hy
            rw [hy]
            exact fun e => hm (e ▸ hx)⟩
        · rcases List.mem_append.mp hr' with h | h
          · exact hO2.sub r h
          · rw [List.mem_singleton.mp h]
            exact hpm
      · rw [List.length_append, List.length_singleton]
        cases b with
        | true => have := hb1 rfl; omega
        | false => have := (hb2 rfl).1; rw [this]; omega
end
end SW


/-! ### what a text is refused for: plain Lean -/
namespace SW
open PySem PySem.Spec PyProof.Rows L2 He TL
inductive Out where
  | bad (i : Nat) | many | part (i : Nat) | ring | fine
  deriving DecidableEq
/-- rows from place i on; the parts so far, with their places -/
def scan : List Str → Nat → List (Nat × Pd) → Sum Out (List (Nat × Pd))
  | [], _, acc => .inr acc
  | row :: rest, i, acc =>
    if wordsOf row = [] then scan rest (i + 1) acc
    else match partOf (wordsOf row) with
      | none => .inl (.bad i)
      | some p => if p.name ∈ acc.map (fun q => q.2.name) then .inl (.bad i) else if acc.length = 60 then .inl .many else scan rest (i + 1) (acc ++ [(i, p)])
def unfed (ps : List Pd) (f : Str × Int) : Bool := !(ps.any fun r => decide (r.name = f.1) && !decide (r.kd.c = .snk))
def starved (ps : List Pd) (q : Nat × Pd) : Bool := q.2.feeds.any (unfed ps)
def Verd (text : Str) (o : Out) : Prop := match scan (rowsOf text) 0 [] with
  | .inl o' => o = o'
  | .inr acc => if acc = [] then o = .many else match acc.find? (starved (acc.map Prod.snd)) with
    | some q => o = .part q.1
    | none => (NoRing (acc.map Prod.snd) → o = .fine) ∧ (¬ NoRing (acc.map Prod.snd) → o = .ring)
structure SmallT (text : Str) : Prop where
  len : text.length ≤ 100000
  many : (rowsOf text).length ≤ 1000
  small : ∀ row ∈ rowsOf text, row.length ≤ 100000 ∧ (Txt.split row " ").length ≤ 1000 ∧ ∀ z ∈ Txt.split row " ", z.length ≤ 100000
theorem unfed_iff {ps : List Pd} {f : Str × Int} : unfed ps f = false ↔ ∃ r ∈ ps, r.name = f.1 ∧ r.kd.c ≠ .snk := by
  unfold unfed
  rw [Bool.not_eq_false', List.any_eq_true]
  constructor
  · rintro ⟨r, hr, h⟩
    obtain ⟨h1, h2⟩ := Bool.and_eq_true_iff.mp h
    refine ⟨r, hr, of_decide_eq_true h1, fun z => ?_⟩
    rw [decide_eq_true z] at h2
    cases h2
  · rintro ⟨r, hr, h1, h2⟩
    exact ⟨r, hr, by rw [decide_eq_true h1, decide_eq_false h2] <;> rfl⟩
theorem starved_iff {ps : List Pd} {q : Nat × Pd} : starved ps q = false ↔ ∀ f ∈ q.2.feeds, unfed ps f = false := by
  unfold starved
  rw [List.any_eq_false]
  exact ⟨fun h f hf => by have := h f hf; simpa using this, fun h f hf => by have := h f hf; simp [this]⟩
theorem find_at {ps : List Pd} {acc : List (Nat × Pd)} {i : Nat} {q : Nat × Pd} (hq : acc[i]? = some q) (hb : ∀ r ∈ acc.take i, starved ps r = false) (hs : starved ps q = true) : acc.find? (starved ps) = some q := by
  have e : acc = acc.take i ++ q :: acc.drop (i + 1) := by
    obtain ⟨h1, h2⟩ := List.getElem?_eq_some_iff.mp hq
    rw [← h2, ← List.drop_eq_getElem_cons h1, List.take_append_drop]
  rw [e, List.find?_append, List.find?_eq_none.mpr fun r hr => by rw [hb r hr]; simp, List.find?_cons, hs] <;> rfl
theorem find_none {ps : List Pd} {acc : List (Nat × Pd)} (hb : ∀ r ∈ acc, starved ps r = false) : acc.find? (starved ps) = none := List.find?_eq_none.mpr fun r hr => by rw [hb r hr]; simp
/-- what the scanned parts keep -/
structure Scanned (acc : List (Nat × Pd)) : Prop where
  nd : (acc.map fun q => q.2.name).Nodup
  few : acc.length ≤ 60
  nn : ∀ q ∈ acc, goodName (tl q.2.name) = true
  ln : ∀ q ∈ acc, q.2.feeds.length = q.2.kd.c.lines
theorem partOf_keeps {ws : List Str} {p : Pd} (h : partOf ws = some p) : goodName (tl p.name) = true ∧ p.feeds.length = p.kd.c.lines := by
  match ws, h with
  | n :: kw :: tw :: fw, h =>
    have h : (if goodName (tl n) = false then none
      else match kindBy kw with
        | none => none
        | some k =>
          if numIn (tl tw) 1000 < 0 ∨ fw.length ≠ k.c.lines then none
          else if none ∈ fw.map feedOf ∨ ((decide (k.c = .src) || decide (k.c = .snk)) = true ∧ 0 < numIn (tl tw) 1000) then none
          else some (⟨n, k, numIn (tl tw) 1000, (fw.map feedOf).filterMap id⟩ : Pd)) = some p := h
    by_cases hn : goodName (tl n) = false
    · rw [if_pos hn] at h
      cases h
    rw [if_neg hn] at h
    cases hk : kindBy kw with
    | none =>
      rw [hk] at h
      cases h
    | some k =>
      rw [hk] at h
      dsimp only at h
      by_cases h1 : numIn (tl tw) 1000 < 0 ∨ fw.length ≠ k.c.lines
      · rw [if_pos h1] at h
        cases h
      rw [if_neg h1] at h
      by_cases h2 : none ∈ fw.map feedOf ∨ ((decide (k.c = .src) || decide (k.c = .snk)) = true ∧ 0 < numIn (tl tw) 1000)
      · rw [if_pos h2] at h
        cases h
      rw [if_neg h2] at h
      cases h
      refine ⟨by simpa using hn, ?_⟩
      have h3 : none ∉ fw.map feedOf := fun z => h2 (.inl z)
      have h4 : fw.length = k.c.lines := Classical.byContradiction fun z => h1 (.inr z)
      show ((fw.map feedOf).filterMap id).length = k.c.lines
      have : ∀ l : List (Option (Str × Int)), none ∉ l → (l.filterMap id).length = l.length := by
        intro l
        induction l with
        | nil => intro _; rfl
        | cons x l ih =>
          intro hx
          cases x with
          | none => exact absurd (List.mem_cons_self ..) hx
          | some y =>
            show (y :: l.filterMap id).length = _
            rw [List.length_cons, List.length_cons, ih fun z => hx (List.mem_cons_of_mem _ z)]
      rw [this _ h3, List.length_map, h4]
theorem Scanned.push {acc : List (Nat × Pd)} {ws : List Str} {p : Pd} {i : Nat} (h : Scanned acc) (hp : partOf ws = some p) (hn : p.name ∉ acc.map (fun q => q.2.name)) (hl : acc.length ≠ 60) : Scanned (acc ++ [(i, p)]) := by
  obtain ⟨h1, h2⟩ := partOf_keeps hp
  have := h.few
  refine ⟨?_, by rw [List.length_append, List.length_singleton]; omega, fun q hq => ?_, fun q hq => ?_⟩
  · rw [List.map_append]
    exact List.nodup_append.mpr ⟨h.nd, List.nodup_cons.mpr ⟨List.not_mem_nil, List.nodup_nil⟩, fun x hx y hy => by
      rw [List.map_cons, List.map_nil, List.mem_singleton] at hy
      rw [hy]
      exact fun e => hn (e ▸ hx)⟩
  · rcases List.mem_append.mp hq with z | z
    · exact h.nn q z
    · rw [List.mem_singleton.mp z]
      exact h1
  · rcases List.mem_append.mp hq with z | z
    · exact h.ln q z
    · rw [List.mem_singleton.mp z]
      exact h2
theorem Scanned.nil : Scanned [] := ⟨List.nodup_nil, Nat.zero_le _, fun q h => (by cases h), fun q h => (by cases h)⟩
theorem Scanned.wf0 {acc : List (Nat × Pd)} (h : Scanned acc) (hfed : ∀ q ∈ acc, starved (acc.map Prod.snd) q = false) : Wf0 (acc.map Prod.snd) := by
  refine ⟨by rw [List.length_map]; exact h.few, by rw [List.map_map]; exact h.nd, fun p hp => ?_, fun p hp f hf => ?_, fun p hp => ?_⟩
  · obtain ⟨q, hq, rfl⟩ := List.mem_map.mp hp
    exact h.nn q hq
  · obtain ⟨q, hq, rfl⟩ := List.mem_map.mp hp
    obtain ⟨r, hr, e, _⟩ := unfed_iff.mp (starved_iff.mp (hfed q hq) f hf)
    exact ⟨r, hr, e⟩
  · obtain ⟨q, hq, rfl⟩ := List.mem_map.mp hp
    exact h.ln q hq
end SW


/-! ### read, with its refusals -/
namespace SW
open PySem PySem.Spec PyProof.Rows L2 He TL
def spExcInit (K : PySem.W.Frag) (C : Addr) : Sp := fun vs H Q _ => ∃ (a : Addr) (n : Int), vs = [.ref a, .int n] ∧ H a = some (exo a C none) ∧ OexC K C ∧ PySem.W.findIn K (.ref C) "row" = some none ∧ 0 ≤ n ∧ n < 10000 ∧
  ∀ d H', H d = none → H' a = some (exo a C (some d)) → H' d = some (exd d [("row", .int n)]) → (∀ b o, b ≠ a → H b = some o → H' b = some o) → Q .non H'
def spReadX (K : PySem.W.Frag) : Sp := fun vs H Q E => ∃ (text : Str) (o : Out), vs = [.str text] ∧ SmallT text ∧ Verd text o ∧
  (o = .fine → ∀ v H', Same H H' → Q v H') ∧ (o = .many → ∀ H', Same H H' → E (.ref (ga K "TooMany")) none H') ∧ (o = .ring → ∀ H', Same H H' → E (.ref (ga K "Ring")) none H') ∧
  (∀ i, o = .bad i → ∀ d H', Same H H' → H' d = some (.xd [("row", .int (i : Nat))]) → E (.ref (ga K "BadRow")) (some d) H') ∧ (∀ i, o = .part i → ∀ d H', Same H H' → H' d = some (.xd [("row", .int (i : Nat))]) → E (.ref (ga K "NoPart")) (some d) H')
theorem val_kinds {acc : List (Nat × Pd)} (hnd : (acc.map fun q => q.2.name).Nodup) (n : Str) : (valV (dictOf (fun p => V.str p.kd.word) (acc.map Prod.snd)) (Sum.inr n : Key) = none ∧ n ∉ acc.map fun q => q.2.name) ∨ ∃ q ∈ acc, q.2.name = n ∧ valV (dictOf (fun p => V.str p.kd.word) (acc.map Prod.snd)) (Sum.inr n : Key) = some (.str q.2.kd.word) := by
  have em : (acc.map Prod.snd).map Pd.name = acc.map fun q => q.2.name := by rw [List.map_map] <;> rfl
  by_cases h : n ∈ acc.map fun q => q.2.name
  · obtain ⟨q, hq, rfl⟩ := List.mem_map.mp h
    exact .inr ⟨q, hq, rfl, val_dict (by rw [em]; exact hnd) (List.mem_map.mpr ⟨q, hq, rfl⟩)⟩
  · exact .inl ⟨val_dict_none (by rw [em]; exact h), h⟩
theorem scan_step {rows : List Str} {i : Nat} {row : Str} {acc : List (Nat × Pd)} (h : rows[i]? = some row) : scan (rows.drop i) i acc = (if wordsOf row = [] then scan (rows.drop (i + 1)) (i + 1) acc
    else match partOf (wordsOf row) with
      | none => .inl (.bad i)
      | some p => if p.name ∈ acc.map (fun q => q.2.name) then .inl (.bad i) else if acc.length = 60 then .inl .many else scan (rows.drop (i + 1)) (i + 1) (acc ++ [(i, p)])) := by
  obtain ⟨h1, h2⟩ := List.getElem?_eq_some_iff.mp h
  rw [List.drop_eq_getElem_cons h1, h2]
  rfl
theorem scan_inj : ∀ {acc : List (Nat × Pd)} {p r : Nat × Pd}, (acc.map fun q => q.2.name).Nodup → p ∈ acc → r ∈ acc → p.2.name = r.2.name → p = r
  | x :: acc, p, r, hn, hp, hr, e => by
    rw [List.map_cons, List.nodup_cons] at hn
    rcases List.mem_cons.mp hp with rfl | hp'
    · rcases List.mem_cons.mp hr with rfl | hr'
      · rfl
      · exact absurd (List.mem_map.mpr ⟨r, hr', e.symm⟩) hn.1
    · rcases List.mem_cons.mp hr with rfl | hr'
      · exact absurd (List.mem_map.mpr ⟨p, hp', e⟩) hn.1
      · exact scan_inj hn.2 hp' hr' e
theorem raise_row {K : PySem.W.Frag} {C : Addr} {n : Nat} {H H1 : Hp} {Q' : XK} {E' : XK} (hC : OexC K C) (hno : PySem.W.findIn K (.ref C) "row" = some none) (hn : n < 1000) (s : Same H H1)
    (q : ∀ d H', Same H H' → H' d = some (.xd [("row", .int (n : Nat))]) → Q' (.ref C) (some d) H') (a : Addr) (ha : H1 a = none) :
    spExcInit K C (.ref a :: ([V.int (n : Nat)] ++ [])) (upd H1 a (exo a C none)) (fun v H2 => v = .non ∧ ∃ (d : Addr) (fs : List (Str × V)), H2 a = some (exo a C (some d)) ∧ H2 d = some (exd d fs) ∧ H1 d = none ∧ Q' (.ref C) (some d) (upd (del H2 a) d (.xd fs))) E' := by
  refine ⟨a, (n : Nat), rfl, upd_same, hC, hno, Int.natCast_nonneg _, by omega, fun d H' hd h1 h2 h3 => ?_⟩
  have hda : d ≠ a := fun z => by rw [z, upd_same] at hd; cases hd
  have hd1 : H1 d = none := by rw [upd_ne hda] at hd; exact hd
  refine ⟨rfl, d, _, h1, h2, hd1, q d _ (s.trans fun b o hb => ?_) upd_same⟩
  have hba : b ≠ a := ne_of_none hb ha
  rw [upd_ne (ne_of_none hb hd1), del_ne hba]
  exact h3 b o hba (by rw [upd_ne hba]; exact hb)
section
variable {P : Program} {w : World} {K : PySem.W.Frag} {mg : Str → Option Value} {base : Heap}
theorem ok_BadRow_init (T : Txt K mg) : Ok P w K mg base 1 (ma K (ga K "BadRow") "__init__") ["self", "row"] (spExcInit K (ga K "BadRow")) := by
  refine mkOk T.F_BadRow_init sc_BadRow_init (fun _ _ _ _ _ _ us hl => match us, hl with | [_, _], _ => rfl) (by rintro vs H Q E ⟨_, _, rfl, _⟩; rfl) (fun cdv A outer s H vs Q E hr h => ?_)
  obtain ⟨a, n, rfl, ha, hC, hno, hn0, hn, q⟩ := h
  refine ⟨_, (pss_cons (ps_expr (pe_clsinit T.ci_WorksError rfl T.g_WorksError (pa_cons (pv 0) (pa_cons (pe_op op_add_str (pe_op op_add_str pe_str (pe_callTy call_str_int (by rfl) T.f_str (by decide +kernel) (pa_cons (pv 1) pa_nil))) pe_str) pa_nil))))
      (pss_one (ps_ost (pv 0) (pv 1)))), ?_⟩
  have hl : (Str.ofString (toString n)).length ≤ 4 := num_len hn0 hn
  have l1 : ("row " : Str).length = 4 := by decide +kernel
  have l2 : (" is not of its form" : Str).length ≤ 100 := by decide +kernel
  have l3 : ∀ x y : Str, (x ++ y).length = x.length + y.length := fun x y => by rw [len_tl, tl_append, List.length_append, ← len_tl, ← len_tl]
  refine ⟨_, rfl, _, rfl, _, rfl, dgt _ (Nat.lt_of_lt_of_le (by omega : n.natAbs < 10000) (by decide)), _, _, rfl, rfl, line_le (by omega), _, _, rfl, rfl, line_le (by rw [l3]; omega), a, ga K "BadRow", _, rfl, (by show 1 ≤ 1000; decide), hC, ha, ?_⟩
  refine ⟨_, rfl, _, rfl, a, ga K "BadRow", rfl, hC, hno, .inl ⟨ha, fun dx hdx hne => ?_⟩⟩
  exact q dx _ hdx upd_same (by rw [upd_ne hne, upd_same]) fun b o hb e => by rw [upd_ne hb, upd_ne (ne_of_none e hdx)]; exact e
theorem ok_NoPart_init (T : Txt K mg) : Ok P w K mg base 1 (ma K (ga K "NoPart") "__init__") ["self", "row"] (spExcInit K (ga K "NoPart")) := by
  refine mkOk T.F_NoPart_init sc_NoPart_init (fun _ _ _ _ _ _ us hl => match us, hl with | [_, _], _ => rfl) (by rintro vs H Q E ⟨_, _, rfl, _⟩; rfl) (fun cdv A outer s H vs Q E hr h => ?_)
  obtain ⟨a, n, rfl, ha, hC, hno, hn0, hn, q⟩ := h
  refine ⟨_, (pss_cons (ps_expr (pe_clsinit T.ci_WorksError rfl T.g_WorksError (pa_cons (pv 0) (pa_cons (pe_op op_add_str (pe_op op_add_str pe_str (pe_callTy call_str_int (by rfl) T.f_str (by decide +kernel) (pa_cons (pv 1) pa_nil))) pe_str) pa_nil))))
      (pss_one (ps_ost (pv 0) (pv 1)))), ?_⟩
  have hl : (Str.ofString (toString n)).length ≤ 4 := num_len hn0 hn
  have l1 : ("row " : Str).length = 4 := by decide +kernel
  have l2 : (" has a line from no part" : Str).length ≤ 100 := by decide +kernel
  have l3 : ∀ x y : Str, (x ++ y).length = x.length + y.length := fun x y => by rw [len_tl, tl_append, List.length_append, ← len_tl, ← len_tl]
  refine ⟨_, rfl, _, rfl, _, rfl, dgt _ (Nat.lt_of_lt_of_le (by omega : n.natAbs < 10000) (by decide)), _, _, rfl, rfl, line_le (by omega), _, _, rfl, rfl, line_le (by rw [l3]; omega), a, ga K "NoPart", _, rfl, (by show 1 ≤ 1000; decide), hC, ha, ?_⟩
  refine ⟨_, rfl, _, rfl, a, ga K "NoPart", rfl, hC, hno, .inl ⟨ha, fun dx hdx hne => ?_⟩⟩
  exact q dx _ hdx upd_same (by rw [upd_ne hne, upd_same]) fun b o hb e => by rw [upd_ne hb, upd_ne (ne_of_none e hdx)]; exact e
theorem ok_readX (T : Txt K mg) : OkX P w K mg base 5 (ga K "read") ["text"] (spReadX K) := by
  have G_part_of := ok_part_of (P := P) (w := w) (base := base) T
  have G_kind_word := ok_kind_word (P := P) (w := w) (base := base) T
  have G_Works_init := ok_Works_init (P := P) (w := w) (base := base) T
  have G_settled := ok_settledX (P := P) (w := w) (base := base) T
  have G_BadRow_init := ok_BadRow_init (P := P) (w := w) (base := base) T
  have G_NoPart_init := ok_NoPart_init (P := P) (w := w) (base := base) T
  obtain ⟨tM, hM⟩ := T.g_MOST
  refine mkOkX T.F_read sc_read (fun _ _ _ _ _ _ us hl => match us, hl with | [_], _ => rfl) (by rintro vs H Q E ⟨_, _, rfl, _⟩; rfl) (fun cdv A outer s H vs Q E hr h => ?_)
  obtain ⟨text, o, rfl, hT, hV, qF, qM, qR, qB, qN⟩ := h
  have sg : Same H H := Same.refl _
  have hu := hu_of hr
  refine ⟨_, (pss_cons (ps_set (i := 1) sc_read.nd rfl (by first | exact Or.inl rfl | exact Or.inr rfl) (pe_lst pa_nil))
      (pss_cons (ps_set (i := 2) sc_read.nd rfl (by first | exact Or.inl rfl | exact Or.inr rfl) (pe_lst pa_nil))
      (pss_cons (ps_set (i := 3) sc_read.nd rfl (by first | exact Or.inl rfl | exact Or.inr rfl) pe_dnewK)
      (pss_cons (ps_for (passes_of rfl) rfl (pi_enum (by rfl) T.f_enumerate (pa_cons (pe_split (pv 0) pe_str) pa_nil)) (pg_tup rfl (pgs_cons (pg_name (i := 4) sc_read.nd rfl (by first | exact Or.inl rfl | exact Or.inr rfl)) (pgs_cons (pg_name (i := 5) sc_read.nd rfl (by first | exact Or.inl rfl | exact Or.inr rfl)) pgs_nil)))
      (pss_cons (ps_setLc (i := 6) (own := [("word", 7)]) rfl sc_read.nd rfl rfl (sw_true rfl rfl rfl (by decide +kernel)) (piL (K := K) (pe_split (pv 5) pe_str)) (blkOk_by (own := [("word", 7)]) (N := ["text", "parts", "rows", "kinds", "place", "row", "words", "word", "part", "feed", "works"]) (sc := defScope s_read) (by decide +kernel)) (fun _ _ _ _ _ => (pg_name (i := 7) sc_read.nd rfl (by first | exact Or.inl rfl | exact Or.inr rfl))) (fun _ _ _ _ _ => pts_one (pt_cmpR op_ne (pv 7) pe_str (nomark _))) (fun _ _ _ _ _ => (pv 7)))
      (pss_cons (ps_if (pt_cmpR (eqEmpK (K := K) (hu0_of hr)) (pv 6) (pe_lst pa_nil) (nomark _)) (pss_one ps_continue) pss_nil)
      (pss_cons (ps_set (i := 8) sc_read.nd rfl (by first | exact Or.inl rfl | exact Or.inr rfl) (pe_callO G_part_of (hr.mono (by decide)) T.g_part_of (pa_cons (pv 6) pa_nil)))
      (pss_cons (ps_if (PW.pt (pw_or (pt_cmpR op_isN (pv 8) pe_non (nomark _)) (pw_or1 (pt_cmp (pc_din hu (pe_fldK (K := K) (pv 8) rfl) (pv 3)))))) (pss_one (ps_raise rfl (takes_of rfl rfl rfl rfl) (G_BadRow_init.use fun fd F b => pmk_oex T.ox_BadRow T.oi_BadRow T.ot_BadRow F (hr.mono (by decide)) b .nil pass0 rfl T.g_BadRow (pa_cons (pv 4) pa_nil)))) pss_nil)
      (pss_cons (ps_if (pt_cmpR op_eq (pe_callB (lenQ (K := K)) (by rfl) T.f_len (by decide +kernel) (pa_cons (pv 1) pa_nil)) (pe_glob (v := .int 60) rfl hM ⟨_, rfl⟩) (nomark _)) (pss_one (ps_raiseF T.xf_TooMany rfl (takes_of rfl rfl rfl rfl) T.g_TooMany)) pss_nil)
      (pss_cons (ps_expr (pe_bm PySem.F.plainAttrs_list PySem.F.slot_list_append PySem.F.type_list_append mt_append (pv 1) (pa_cons (pv 8) pa_nil)))
      (pss_cons (ps_expr (pe_bm PySem.F.plainAttrs_list PySem.F.slot_list_append PySem.F.type_list_append mt_append (pv 2) (pa_cons (pv 4) pa_nil)))
      (pss_one (ps_dput hu (pv 3) (pe_fldK (K := K) (pv 8) rfl) (pe_ex fun c => (G_kind_word c).use fun fd F b => pe_meth0 (pe_fldK (K := K) (pv 8) rfl) (T.ck c) (T.mk_word_ c) F (hr.mono (by decide)) b .nil pass0) rfl))))))))))
      (pss_cons (ps_if (pt_cmpR (eqEmpK (K := K) (hu0_of hr)) (pv 1) (pe_lst pa_nil) (nomark _)) (pss_one (ps_raiseF T.xf_TooMany rfl (takes_of rfl rfl rfl rfl) T.g_TooMany)) pss_nil)
      (pss_cons (ps_for (passes_of rfl) rfl (pi_zip (by rfl) T.f_zip (pa_cons (pv 1) (pa_cons (pv 2) pa_nil))) (pg_tup rfl (pgs_cons (pg_name (i := 8) sc_read.nd rfl (by first | exact Or.inl rfl | exact Or.inr rfl)) (pgs_cons (pg_name (i := 4) sc_read.nd rfl (by first | exact Or.inl rfl | exact Or.inr rfl)) pgs_nil)))
      (pss_one (ps_for (passes_of rfl) rfl (piL (K := K) (pe_fldK (K := K) (pv 8) rfl)) (pg_name (i := 9) sc_read.nd rfl (by first | exact Or.inl rfl | exact Or.inr rfl))
      (pss_one (ps_if (pt_cmpR op_eq (pe_dget2 hu (pv 3) (pe_ix (ixT (K := K)) (pv 9) pe_int (fun _ _ => rfl)) pe_str ⟨rfl, rfl, rfl, rfl⟩) pe_str (nomark _)) (pss_one (ps_raise rfl (takes_of rfl rfl rfl rfl) (G_NoPart_init.use fun fd F b => pmk_oex T.ox_NoPart T.oi_NoPart T.ot_NoPart F (hr.mono (by decide)) b .nil pass0 rfl T.g_NoPart (pa_cons (pv 4) pa_nil)))) pss_nil)))))
      (pss_cons (ps_set (i := 10) sc_read.nd rfl (by first | exact Or.inl rfl | exact Or.inr rfl) (pe_makeO T.mk_Works G_Works_init (hr.mono (by decide)) T.g_Works (pa_cons (pv 1) pa_nil)))
      (pss_cons (ps_expr (pe_callX G_settled (hr.mono (by decide)) T.g_settled (fun σ => passAt (takes_of rfl rfl rfl rfl) σ) (pa_cons (pv 10) pa_nil)))
      (pss_one (ps_ret (pv 10))))))))))), ?_⟩
  refine ⟨Nat.zero_le _, fun pa hpa => ⟨Nat.zero_le _, fun ra hra => fun da hda => ?_⟩⟩
  have hrp : ra ≠ pa := fun z => by rw [z, upd_same] at hra; cases hra
  have hdr : da ≠ ra := fun z => by rw [z, upd_same] at hda; cases hda
  have hdp : da ≠ pa := fun z => by rw [z, upd_ne hrp.symm, upd_same] at hda; cases hda
  have hraH : H ra = none := by rw [upd_ne hrp] at hra; exact hra
  have hdaH : H da = none := by rw [upd_ne hdr, upd_ne hdp] at hda; exact hda
  have g1 := (((Grow.refl sg).temp (o := .lst []) hpa).temp (o := .lst []) hra).temp (o := .dK []) hda
  have e1 : (upd (upd (upd H pa (.lst [])) ra (.lst [])) da (.dK [])) pa = some (.lst []) := by rw [upd_ne hdp.symm, upd_ne hrp.symm, upd_same]
  have e2 : (upd (upd (upd H pa (.lst [])) ra (.lst [])) da (.dK [])) ra = some (.lst []) := by rw [upd_ne hdr.symm, upd_same]
  have e3 : (upd (upd (upd H pa (.lst [])) ra (.lst [])) da (.dK [])) da = some (.dK []) := upd_same
  revert g1 e1 e2 e3
  generalize upd (upd (upd H pa (HO.lst [])) ra (HO.lst [])) da (HO.dK []) = H1
  intro g1 e1 e2 e3
  refine ⟨_, rfl, ⟨_, rfl⟩, _, _, rfl, rfl, rfl, Nat.le_trans (Nat.add_le_add_right hT.len 2) (by decide), fun la hla => ?_⟩
  have hlaH : H la = none := g1.hh.free hla
  refine ⟨la, _, rfl, SqL.of upd_same, ?_⟩
  have hpaH := hpa
  have hne : ∀ {H' : Hp}, Same H1 H' → True := fun _ => trivial
  have hlp : la ≠ pa := fun z => by rw [z, e1] at hla; cases hla
  have hlr : la ≠ ra := fun z => by rw [z, e2] at hla; cases hla
  have hld : la ≠ da := fun z => by rw [z, e3] at hla; cases hla
  have hGp : H pa = none := hpa
  have hGr : H ra = none := hraH
  have hGd : H da = none := hdaH
  refine for_it (walk_enum (K := K) (a := la) (xs := (Txt.split text "\n").map V.str)) (fun i σ H' => ∃ v4 v5 v6 v7 v8 v9 v10 G' us acc, σ = [some (.str text), some (.ref pa), some (.ref ra), some (.ref da), v4, v5, v6, v7, v8, v9, v10] ∧ Grow H H G' H' ∧ G' pa = none ∧ G' ra = none ∧ G' da = none ∧
      H' pa = some (.lst us) ∧ H' ra = some (.lst (acc.map fun q => V.int (q.1 : Nat))) ∧ H' da = some (.dK (dictOf (fun p => V.str p.kd.word) (acc.map Prod.snd))) ∧ H' la = some (.lst ((Txt.split text "\n").map V.str)) ∧ All2 (PartAt K G') us (acc.map Prod.snd) ∧ Scanned acc ∧ (∀ q ∈ acc, q.1 < 1000) ∧ scan (rowsOf text) 0 [] = scan ((rowsOf text).drop i) i acc)
    ⟨none, none, none, none, none, none, none, H, [], [], rfl, g1.temp hla, hGp, hGr, hGd, by rw [upd_ne hlp.symm]; exact e1, by rw [upd_ne hlr.symm]; exact e2, by rw [upd_ne hld.symm]; exact e3, upd_same, All2.nil, Scanned.nil, (fun q h => by cases h), rfl⟩
    (fun i σ H' _ h => by obtain ⟨_, _, _, _, _, _, _, _, _, _, _, _, _, _, _, _, _, _, e, _⟩ := h; exact SqL.of e) ?_ ?_
  · rintro i x σ H2 H3 hi ⟨v4, v5, v6, v7, v8, v9, v10, G2, us, acc, rfl, g2, p2, r2, d2, e1, e2, e3, e4, hA, hS, hP, hE⟩ ⟨t, y, z, rfl, ht, rfl, hy, hz⟩
    cases hy
    have hz : ((Txt.split text "\n").map V.str)[i]? = some z := hz
    rw [List.getElem?_map] at hz
    obtain ⟨row, hrow, rfl⟩ : ∃ row, (rowsOf text)[i]? = some row ∧ V.str row = z := by
      cases e : (Txt.split text "\n")[i]? with
      | none => rw [e] at hz; cases hz
      | some row => rw [e] at hz; cases hz; exact ⟨row, e, rfl⟩
    have hmem : row ∈ rowsOf text := List.mem_of_getElem? hrow
    obtain ⟨sm1, sm2, sm3⟩ := hT.small row hmem
    have htH : H t = none := g2.hh.free ht
    have g3 := g2.temp (o := .tup [.int (i : Nat), .str row]) ht
    have e1' : upd H2 t (.tup [.int (i : Nat), .str row]) pa = some (.lst us) := by rw [upd_ne (ne_of_none e1 ht)]; exact e1
    have e2' : upd H2 t (.tup [.int (i : Nat), .str row]) ra = some (.lst (acc.map fun q => V.int (q.1 : Nat))) := by rw [upd_ne (ne_of_none e2 ht)]; exact e2
    have e3' := (Same.new (o := .tup [.int (i : Nat), .str row]) ht) _ _ e3
    have e4' := (Same.new (o := .tup [.int (i : Nat), .str row]) ht) _ _ e4
    refine ⟨t, _, rfl, SqT.of upd_same, rfl, _, _, rfl, _, _, rfl, rfl, ?_⟩
    clear e1 e2 e3 e4 g2
    revert g3 e1' e2' e3' e4'
    generalize upd H2 t (HO.tup [V.int (i : Nat), V.str row]) = H3
    intro g3 e1 e2 e3 e4
    -- the row's words
    refine ⟨_, rfl, ⟨_, rfl⟩, _, _, rfl, rfl, rfl, Nat.le_trans (Nat.add_le_add_right sm1 2) (by decide), fun sa hsa => ?_⟩
    have g4 := g3.temp (o := .lst ((Txt.split row " ").map V.str)) hsa
    refine ⟨sa, rfl, ⟨_, SqL.of upd_same⟩, fun wa hwa => ?_⟩
    refine lc_list (K := K) (a := sa) (xs := (Txt.split row " ").map V.str) (fun j H' => Same (upd H3 sa (.lst ((Txt.split row " ").map V.str))) H' ∧ H' wa = some (.lst ((((Txt.split row " ").take j).filter fullWord).map V.str)))
      ⟨Same.new hwa, upd_same⟩ (fun j H' _ h => SqL.of (h.1 _ _ upd_same)) ?_ ?_
    · rintro j x H5 hj ⟨s5, f5⟩
      have hj : ((Txt.split row " ").map V.str)[j]? = some x := hj
      rw [List.getElem?_map] at hj
      obtain ⟨z, hz, rfl⟩ : ∃ z, (Txt.split row " ")[j]? = some z ∧ V.str z = x := by
        cases e : (Txt.split row " ")[j]? with
        | none => rw [e] at hj; cases hj
        | some z => rw [e] at hj; cases hj; exact ⟨z, rfl, rfl⟩
      refine ⟨rfl, ?_⟩
      refine ⟨_, rfl, rfl, _, rfl, ?_⟩
      rw [dstr, tl_emp]
      have eN : (((Txt.split row " ").take (j + 1)).filter fullWord) = (((Txt.split row " ").take j).filter fullWord) ++ (if fullWord z = true then [z] else []) := by
        rw [take_one hz, List.filter_append, List.filter_cons, List.filter_nil]
      refine ite2 (fun h0 => ?_) (fun h0 => ?_)
      · refine ⟨_, rfl, _, f5, ?_, fun c o e => ?_, ?_⟩
        · rw [List.length_map]
          have h1 := List.length_filter_le fullWord ((Txt.split row " ").take j)
          rw [List.length_take] at h1
          exact small1000 (by omega)
        · rw [upd_ne (ne_of_none e hwa)]
          exact s5 c o e
        · rw [upd_same, eN, if_pos (show fullWord z = true from h0), List.map_append] <;> rfl
      · refine ⟨s5, ?_⟩
        rw [f5, eN, if_neg (show ¬ fullWord z = true from h0), List.append_nil]
    · rintro H5 ⟨s5, f5⟩
      rw [List.length_map, List.take_length] at f5
      have f5 : H5 wa = some (.lst ((wordsOf row).map V.str)) := f5
      have hsaH : H sa = none := g3.hh.free hsa
      have hwa3 : H3 wa = none := (Same.new hsa).free hwa
      have hwaH : H wa = none := g3.hh.free hwa3
      have s35 : Same H3 H5 := (Same.new hsa).trans s5
      have g5 : Grow H H G2 H5 := g3.same s35
      have e1 := s35 _ _ e1
      have e2 := s35 _ _ e2
      have e3 := s35 _ _ e3
      have e4 := s35 _ _ e4
      refine ⟨_, rfl, Nat.zero_le _, fun ea hea => ?_⟩
      refine ⟨wa, ea, _, rfl, rfl, SqL.of (Same.new hea _ _ f5), SqL.of upd_same, _, rfl, ?_⟩
      have heaH : H ea = none := g5.hh.free hea
      have g6 : Grow H H G2 (upd H5 ea (.lst [])) := g5.temp hea
      have e1 := Same.new (o := .lst []) hea _ _ e1
      have e2 := Same.new (o := .lst []) hea _ _ e2
      have e3 := Same.new (o := .lst []) hea _ _ e3
      have e4 := Same.new (o := .lst []) hea _ _ e4
      have f6 := Same.new (o := .lst []) hea _ _ f5
      revert g6 e1 e2 e3 e4 f6
      generalize upd H5 ea (HO.lst []) = H6
      intro g6 e1 e2 e3 e4 f6
      cases hw : wordsOf row with
      | nil =>
        refine iteT ?_
        exact ⟨_, _, _, _, _, _, _, G2, us, acc, rfl, g6, p2, r2, d2, e1, e2, e3, e4, hA, hS, hP, by rw [hE, scan_step hrow, if_pos hw]⟩
      | cons w0 wr =>
        refine iteF ?_
        have hw0 : wordsOf row ≠ [] := by rw [hw]; exact List.cons_ne_nil _ _
        have hil : i < 1000 := by
          obtain ⟨h1, _⟩ := List.getElem?_eq_some_iff.mp hrow
          exact Nat.lt_of_lt_of_le h1 hT.many
        have hbad : scan (rowsOf text) 0 [] = .inl (.bad i) → o = .bad i := fun z => by
          unfold Verd at hV
          rw [z] at hV
          exact hV
        have hwl : (wordsOf row).length ≤ 1000 := Nat.le_trans (List.length_filter_le _ _) sm2
        refine ⟨_, rfl, G2, wa, wordsOf row, rfl, g6.gh, SqL.of f6, Nat.le_trans hwl (by decide), fun z hz => sm3 z (List.mem_filter.mp hz).1, fun v G7 H7 g7 hv => ?_⟩
        cases hp : partOf (wordsOf row) with
        | none =>
          rw [hp] at hv
          cases hv
          have ho := hbad (by rw [hE, scan_step hrow, if_neg hw0, hp])
          clear hbad
          refine ⟨_, rfl, rfl, true, rfl, iteT (iteT ?_)⟩
          exact ⟨_, rfl, (by show 1 ≤ 1000; decide), raise_row T.ox_BadRow T.no_BadRow hil (g6.hh.trans g7.hh) fun d H' s' e' => qB i ho d H' s' e'⟩
        | some p =>
        rw [hp] at hv
        obtain ⟨a, dx, k, fl, fvs, rfl, hpi⟩ := hv
        have g8 := g6.trans g7
        have p3 := g7.sep _ _ e1 p2
        have r3 := g7.sep _ _ e2 r2
        have d3 := g7.sep _ _ e3 d2
        have e1 := g7.hh _ _ e1
        have e2 := g7.hh _ _ e2
        have e3 := g7.hh _ _ e3
        have e4 := g7.hh _ _ e4
        have hA0 := hA.1
        rw [List.length_map] at hA0
        have hA1 := hA.mono (fun x y z => PartAt.mono g7.gg z)
        have hob := g7.gh _ _ hpi.ob
        refine ⟨_, rfl, rfl, false, congrArg V.bl (decide_eq_false (fun z => by cases z)), iteF ?_⟩
        refine ⟨_, rfl, a, _, dx, _, _, rfl, hob, T.c_Part, T.n_Part_called, rfl, _, rfl, da, _, rfl, DGet.k (k := Sum.inr p.name) e3, ?_⟩
        have hfew := hS.few
        rcases val_kinds hS.nd p.name with ⟨hv0, hnew⟩ | ⟨q0, hq0, hqn, hv0⟩
        rotate_left
        · rw [hv0]
          have hin : p.name ∈ acc.map fun q => q.2.name := hqn ▸ List.mem_map.mpr ⟨q0, hq0, rfl⟩
          have ho := hbad (by rw [hE, scan_step hrow, if_neg hw0, hp]; exact if_pos hin)
          refine ⟨true, rfl, iteT ?_⟩
          exact ⟨_, rfl, (by show 1 ≤ 1000; decide), raise_row T.ox_BadRow T.no_BadRow hil g8.hh fun d H' s' e' => qB i ho d H' s' e'⟩
        rw [hv0]
        refine ⟨false, rfl, iteF ?_⟩
        by_cases h60 : acc.length = 60
        · have ho : o = .many := by
            unfold Verd at hV
            rw [hE, scan_step hrow, if_neg hw0, hp] at hV
            dsimp only at hV
            rw [if_neg hnew, if_pos h60] at hV
            exact hV
          refine ⟨_, rfl, pa, _, rfl, .inl (SqL.of e1), rfl, true, congrArg V.bl (decide_eq_true (by rw [hA0, h60] <;> rfl)), iteT ?_⟩
          exact qM ho _ g8.hh
        have hul : us.length < 60 := by omega
        have hE' : scan (rowsOf text) 0 [] = scan ((rowsOf text).drop (i + 1)) (i + 1) (acc ++ [(i, p)]) := by
          rw [hE, scan_step hrow, if_neg hw0, hp]
          dsimp only
          rw [if_neg hnew, if_neg h60]
        have hS' := hS.push (i := i) hp hnew h60
        have em : (acc ++ [(i, p)]).map Prod.snd = acc.map Prod.snd ++ [p] := by rw [List.map_append] <;> rfl
        have hA2 := hA1.push ⟨a, dx, k, fl, fvs, rfl, hpi⟩
        rw [← em] at hA2
        have hnew' : p.name ∉ (acc.map Prod.snd).map Pd.name := by rw [List.map_map]; exact hnew
        refine ⟨_, rfl, pa, _, rfl, .inl (SqL.of e1), rfl, false, congrArg V.bl (decide_eq_false (fun z => by have := V.int.inj z; omega)), iteF ?_⟩
        refine ⟨_, rfl, .inl ⟨rfl, _, SqL.of e1⟩, _, rfl, pa, us, _, rfl, rfl, e1, small1000 (by omega), ?_⟩
        have e2' : upd H7 pa (.lst (us ++ [.ref a])) ra = some (.lst (acc.map fun q => V.int (q.1 : Nat))) := by rw [upd_ne hrp]; exact e2
        refine ⟨_, rfl, .inl ⟨rfl, _, SqL.of e2'⟩, _, rfl, ra, _, _, rfl, rfl, e2', small1000 (by rw [List.length_map]; omega), ?_⟩
        have g9 := (g8.mut (o := .lst (us ++ [.ref a])) hpaH p3).mut (o := .lst (acc.map (fun q => V.int (q.1 : Nat)) ++ [.int (i : Nat)])) hraH r3
        have k1 : upd (upd H7 pa (.lst (us ++ [.ref a]))) ra (.lst (acc.map (fun q => V.int (q.1 : Nat)) ++ [.int (i : Nat)])) pa = some (.lst (us ++ [.ref a])) := by rw [upd_ne hrp.symm, upd_same]
        have k2 : upd (upd H7 pa (.lst (us ++ [.ref a]))) ra (.lst (acc.map (fun q => V.int (q.1 : Nat)) ++ [.int (i : Nat)])) ra = some (.lst (acc.map (fun q => V.int (q.1 : Nat)) ++ [.int (i : Nat)])) := upd_same
        have k3 : upd (upd H7 pa (.lst (us ++ [.ref a]))) ra (.lst (acc.map (fun q => V.int (q.1 : Nat)) ++ [.int (i : Nat)])) da = some (.dK (dictOf (fun p => V.str p.kd.word) (acc.map Prod.snd))) := by rw [upd_ne hdr, upd_ne hdp]; exact e3
        have k4 : upd (upd H7 pa (.lst (us ++ [.ref a]))) ra (.lst (acc.map (fun q => V.int (q.1 : Nat)) ++ [.int (i : Nat)])) la = some (.lst ((Txt.split text "\n").map V.str)) := by rw [upd_ne hlr, upd_ne hlp]; exact e4
        revert g9 k1 k2 k3 k4
        generalize upd (upd H7 pa (.lst (us ++ [.ref a]))) ra (.lst (acc.map (fun q => V.int (q.1 : Nat)) ++ [.int (i : Nat)])) = H9
        intro g9 k1 k2 k3 k4
        have hob := g9.gh _ _ hpi.ob
        have ⟨dk, hk⟩ := hpi.kd.mono g9.gh
        refine ⟨p.kd.c, _, rfl, a, _, dx, _, _, rfl, hob, T.c_Part, T.n_Part_craft, rfl, k, dk, _, rfl, hk, flds_no _ (by decide +kernel), k, p.kd, rfl, ⟨dk, hk⟩, rfl, hpi.ok, ?_⟩
        have hdl : (dictOf (fun p => V.str p.kd.word) (acc.map Prod.snd)).length < sizeLine := by
          unfold dictOf
          rw [List.length_map, List.length_map]
          exact small1000 (by omega)
        refine ⟨_, rfl, _, rfl, a, _, dx, _, _, rfl, hob, T.c_Part, T.n_Part_called, rfl, da, _, rfl, DPut.k (k := Sum.inr p.name) k3 hdl, ?_⟩
        rw [dict_push (fun p => V.str p.kd.word) _ _ hnew', ← em]
        exact ⟨_, _, _, _, _, _, _, G7, _, _, rfl, g9.mut hdaH d3, p3, r3, d3, by rw [upd_ne hdp.symm]; exact k1, by rw [upd_ne hdr.symm, List.map_append]; exact k2, upd_same, by rw [upd_ne hld]; exact k4, hA2, hS', (fun q hq => by
          rcases List.mem_append.mp hq with z | z
          · exact hP q z
          · rw [List.mem_singleton.mp z]; exact hil), hE'⟩
  · rintro σ H2 ⟨v4, v5, v6, v7, v8, v9, v10, G2, us, acc, rfl, g2, p2, r2, d2, e1, e2, e3, e4, hA, hS, hP, hE⟩
    have hE' : scan (rowsOf text) 0 [] = .inr acc := by
      rw [hE, List.length_map]
      show scan ((rowsOf text).drop (rowsOf text).length) _ acc = _
      rw [List.drop_length] <;> rfl
    have hA0 := hA.1
    rw [List.length_map] at hA0
    unfold Verd at hV
    rw [hE'] at hV
    dsimp only at hV
    clear e4 hE
    refine ⟨_, rfl, Nat.zero_le _, fun ea hea => ?_⟩
    have g3 : Grow H H G2 (upd H2 ea (.lst [])) := g2.temp hea
    have e1 := Same.new (o := .lst []) hea _ _ e1
    have e2 := Same.new (o := .lst []) hea _ _ e2
    have e3 := Same.new (o := .lst []) hea _ _ e3
    have ee : upd H2 ea (.lst []) ea = some (.lst []) := upd_same
    revert g3 e1 e2 e3 ee
    generalize upd H2 ea (HO.lst []) = H3
    intro g3 e1 e2 e3 ee
    clear g2
    by_cases h0 : acc = []
    · rw [if_pos h0] at hV
      refine ⟨pa, ea, _, rfl, rfl, SqL.of e1, SqL.of ee, true, ?_, iteT ?_⟩
      · cases hus : us with
        | nil => rfl
        | cons u r => rw [hus, h0] at hA0; cases hA0
      · exact qM hV _ g3.hh
    rw [if_neg h0] at hV
    refine ⟨pa, ea, _, rfl, rfl, SqL.of e1, SqL.of ee, false, ?_, iteF ?_⟩
    · cases hus : us with
      | nil =>
        rw [hus] at hA0
        exact absurd (List.eq_nil_of_length_eq_zero hA0.symm) h0
      | cons u r => rfl
    refine ⟨_, rfl, _, rfl, pa, ra, us, _, rfl, SqL.of e1, SqL.of e2, ?_⟩
    refine for_it (walk_zip (K := K) (a := pa) (b := ra) (xs := us) (ys := acc.map fun q => V.int (q.1 : Nat)) (n := us.length) (by rw [List.length_map]; omega)) (fun i σ H' => ∃ v4 v5 v6 v7 v8 v9 v10, σ = [some (.str text), some (.ref pa), some (.ref ra), some (.ref da), v4, v5, v6, v7, v8, v9, v10] ∧ Same H3 H' ∧ ∀ r ∈ acc.take i, starved (acc.map Prod.snd) r = false)
      ⟨_, _, _, _, _, _, _, rfl, Same.refl _, fun r h => by rw [List.take_zero] at h; cases h⟩ (fun i σ H' _ h => by obtain ⟨_, _, _, _, _, _, _, _, s, _⟩ := h; exact ⟨SqL.of (s _ _ e1), SqL.of (s _ _ e2)⟩) ?_ ?_
    · rintro i x σ H4 H5 hi ⟨v4, v5, v6, v7, v8, v9, v10, rfl, s4, hb⟩ ⟨t, y, z, rfl, ht, rfl, hy, hz⟩
      obtain ⟨p, hpi, a, dx, k, fl, fvs, rfl, hp⟩ := hA.get hy
      have hz : (acc.map fun q => V.int (q.1 : Nat))[i]? = some z := hz
      rw [List.getElem?_map] at hpi hz
      obtain ⟨q, hq, rfl⟩ : ∃ q, acc[i]? = some q ∧ q.2 = p := by
        cases e : acc[i]? with
        | none => rw [e] at hpi; cases hpi
        | some q => rw [e] at hpi; cases hpi; exact ⟨q, rfl, rfl⟩
      rw [hq] at hz
      cases hz
      have hqm : q ∈ acc := List.mem_of_getElem? hq
      refine ⟨t, _, rfl, SqT.of upd_same, rfl, _, _, rfl, _, _, rfl, rfl, ?_⟩
      have s5 : Same H3 (upd H4 t (.tup [.ref a, .int (q.1 : Nat)])) := s4.trans (Same.new ht)
      revert s5
      generalize upd H4 t (HO.tup [.ref a, .int (q.1 : Nat)]) = H5
      intro s5
      have hob := s5 _ _ (g3.gh _ _ hp.ob)
      refine ⟨_, rfl, a, _, dx, _, _, rfl, hob, T.c_Part, T.n_Part_feeds, rfl, fl, rfl, ⟨_, SqL.of (s5 _ _ (g3.gh _ _ hp.ls))⟩, ?_⟩
      refine for_list (K := K) (a := fl) (xs := fvs) (fun j σ H' => ∃ v5 v6 v7 v9 v10, σ = [some (.str text), some (.ref pa), some (.ref ra), some (.ref da), some (.int (q.1 : Nat)), v5, v6, v7, some (.ref a), v9, v10] ∧ Same H5 H' ∧ ∀ f ∈ q.2.feeds.take j, unfed (acc.map Prod.snd) f = false)
        ⟨_, _, _, _, _, rfl, Same.refl _, fun r h => by rw [List.take_zero] at h; cases h⟩ (fun i σ H' _ h => by obtain ⟨_, _, _, _, _, _, s, _⟩ := h; exact SqL.of (s _ _ (s5 _ _ (g3.gh _ _ hp.ls)))) ?_ ?_
      · rintro j y σ H6 hj ⟨v5, v6, v7, v9, v10, rfl, s6, hb2⟩
        obtain ⟨f, hfj, ft, rfl, hft⟩ := hp.fs.get hj
        have hft6 := s6 _ _ (s5 _ _ (g3.gh _ _ hft))
        have e36 := s6 _ _ (s5 _ _ e3)
        have hstop : unfed (acc.map Prod.snd) f = true → o = .part q.1 := fun hu => by
          have hs : starved (acc.map Prod.snd) q = true := List.any_eq_true.mpr ⟨f, List.mem_of_getElem? hfj, hu⟩
          rw [find_at hq hb hs] at hV
          exact hV
        refine ⟨_, rfl, da, rfl, .inl ⟨_, .inl e36⟩, _, rfl, ft, _, _, _, rfl, rfl, SqT.of hft6, at0 _ _, _, DGet.k (k := Sum.inr f.1) e36, ?_⟩
        rcases val_kinds hS.nd f.1 with ⟨hv0, hno⟩ | ⟨r, hr, hrn, hv0⟩
        · rw [hv0]
          have ho := hstop (by
            cases hu : unfed (acc.map Prod.snd) f with
            | true => rfl
            | false =>
              obtain ⟨r, hr, e, _⟩ := unfed_iff.mp hu
              obtain ⟨q', hq', rfl⟩ := List.mem_map.mp hr
              exact absurd (e ▸ List.mem_map.mpr ⟨q', hq', rfl⟩) hno)
          refine ⟨rfl, true, rfl, iteT ?_⟩
          exact ⟨_, rfl, (by show 1 ≤ 1000; decide), raise_row T.ox_NoPart T.no_NoPart (hP q hqm) (g3.hh.trans (s5.trans s6)) fun d H' s' e' => qN q.1 ho d H' s' e'⟩
        · rw [hv0]
          by_cases hw : r.2.kd.word = "out"
          · have ho := hstop (by
              cases hu : unfed (acc.map Prod.snd) f with
              | true => rfl
              | false =>
                obtain ⟨r', hr', e', hc⟩ := unfed_iff.mp hu
                obtain ⟨q', hq', rfl⟩ := List.mem_map.mp hr'
                have : q' = r := scan_inj hS.nd hq' hr (e'.trans hrn.symm)
                rw [this] at hc
                exact absurd ((isEnd_word r.2.kd).2.mp hw) hc)
            refine ⟨rfl, true, congrArg V.bl (decide_eq_true (congrArg V.str hw)), iteT ?_⟩
            exact ⟨_, rfl, (by show 1 ≤ 1000; decide), raise_row T.ox_NoPart T.no_NoPart (hP q hqm) (g3.hh.trans (s5.trans s6)) fun d H' s' e' => qN q.1 ho d H' s' e'⟩
          · refine ⟨rfl, false, congrArg V.bl (decide_eq_false (fun z => hw (V.str.inj z))), iteF ⟨_, _, _, _, _, rfl, s6, fun g hg => ?_⟩⟩
            rw [take_one hfj] at hg
            rcases List.mem_append.mp hg with z | z
            · exact hb2 g z
            · rw [List.mem_singleton.mp z]
              exact unfed_iff.mpr ⟨r.2, List.mem_map.mpr ⟨r, hr, rfl⟩, hrn, fun z => hw ((isEnd_word r.2.kd).2.mpr z)⟩
      · rintro σ H6 ⟨v5, v6, v7, v9, v10, rfl, s6, hb2⟩
        refine ⟨_, _, _, _, _, _, _, rfl, s5.trans s6, fun r hr => ?_⟩
        rw [take_one hq] at hr
        rcases List.mem_append.mp hr with z | z
        · exact hb r z
        · rw [List.mem_singleton.mp z]
          refine starved_iff.mpr fun f hf => hb2 f ?_
          have hl : fvs.length = q.2.feeds.length := hp.fs.1
          rw [hl, List.take_length]
          exact hf
    · rintro σ H4 ⟨v4, v5, v6, v7, v8, v9, v10, rfl, s4, hb⟩
      have hb : ∀ r ∈ acc, starved (acc.map Prod.snd) r = false := fun r hr => hb r (by rw [hA0, List.take_length]; exact hr)
      rw [find_none hb] at hV
      have hwf := hS.wf0 hb
      have g4 := g3.same s4
      have e1 := s4 _ _ e1
      refine ⟨_, rfl, ?_⟩
      intro x dx nx mx ex
      refine ⟨x, dx, _, rfl, upd_same, ⟨rfl, ?_⟩⟩
      rw [upd_upd]
      have g5 := g4.make (C := ga K "Works") (fs := [("parts", .ref pa)]) nx mx
      have s45 : Same H4 (upd (upd H4 dx (.own x)) x (.ins (ga K "Works") dx [("parts", .ref pa)])) := fun b o e => by rw [upd_ne (ne_of_none e nx), upd_ne (ne_of_none e mx)]; exact e
      have e1 := s45 _ _ e1
      have x5 : (upd (upd H4 dx (.own x)) x (.ins (ga K "Works") dx [("parts", .ref pa)])) x = some (.ins (ga K "Works") dx [("parts", .ref pa)]) := upd_same
      have hpx : pa ≠ x := ne_of_none (s4 _ _ (by assumption)) nx
      revert g5 e1 x5
      show Grow _ _ _ (upd (upd H4 dx (HO.own x)) x (HO.ins (ga K "Works") dx [("parts", .ref pa)])) → _ → _ → _
      generalize upd (upd H4 dx (HO.own x)) x (HO.ins (ga K "Works") dx [("parts", .ref pa)]) = H5
      intro g5 e1 x5
      have hxH : H x = none := g4.hh.free nx
      have hxG : G2 x = none := g4.gh.free nx
      have g6 := (g5.keep hpaH p2 e1).keep hxH (by rw [upd_ne hpx.symm]; exact hxG) x5
      have w6 : WorksAt K (upd (upd G2 pa (.lst us)) x (.ins (ga K "Works") dx [("parts", .ref pa)])) x (acc.map Prod.snd) :=
        ⟨dx, pa, us, upd_same, by rw [upd_ne hpx, upd_same], hA.mono fun _ _ z => z.mono ((Same.new p2).trans (Same.new (by rw [upd_ne hpx.symm]; exact hxG)))⟩
      refine ⟨_, rfl, _, x, _, rfl, g6.gh, w6, hwf, fun qo us' os H6 s6 _ _ _ hO hlen => ?_, fun H6 s6 hst => ?_⟩
      · exact ⟨_, rfl, qF (hV.1 (ord_noring hwf hO hlen)) _ _ (g6.same s6).hh⟩
      · exact qR (hV.2 (hst.ring hwf)) _ (g6.same s6).hh
end
end SW


/-! ### which refusal, and its row -/
namespace SW
open PySem PySem.Spec PyProof.Rows L2 He
def tXfE (K : PySem.W.Frag) (a : Addr) (cls : Value) (d : Option Addr) (f : Str) (te : TE) : TE := fun σ H Q => te σ H fun x H1 => x = .ref a ∧ ∃ (C : Addr) (dd : Addr) (fs : List (Str × V)) (v : V), cls = .ref C ∧ XfC K C ∧ PySem.W.findIn K (.ref C) f = some none ∧ d = some dd ∧ H1 dd = some (.xd fs) ∧ fs.lookup f = some v ∧ Q v H1
theorem pe_xfE {X : Cx} {K : PySem.W.Frag} {a : Addr} {oe : Obj} {cls : Value} {d : Option Addr} {pn : List (Addr × Obj)} {e : Expr} {te : TE} {pos : Pos} {n : Str}
    (hz : Zc cls d oe) (hf : ∃ vs, oe.data = .fields vs) (he : PE (X.suite a ((a, oe) :: pn)) e te) (hb : attributeBase e n X.env (eval e X.env) = eval e X.env := by rfl) (hK : X.K = K := by rfl) :
    PE (X.suite a ((a, oe) :: pn)) (.Attribute e n pos) (tXfE K a cls d n te) := by
  subst hK
  refine ⟨fun pins s σ H Q I h => ?_⟩
  refine attr_of hb (thn (he.run pins s σ H _ I h) fun u s1 hh => ?_)
  obtain ⟨x, H1, I1, rx, ex, C, dd, fs, v, ec, T, hno, ed, ea, l, q⟩ := hh
  subst ex
  obtain rfl : u = Value.ref a := rx
  subst ec
  subst ed
  obtain ⟨ha, _⟩ := I1.pin (a, oe) (List.mem_append_left _ List.mem_cons_self)
  obtain ⟨vs, hd⟩ := hf
  have hx : ObjOk X.prog X.w H1 s1.heap dd (.xd fs) := I1.hok dd _ ea
  obtain ⟨mA, hns, hr⟩ := hx
  obtain ⟨od, ho, hl⟩ := lookIn_ns hns
  obtain ⟨u, hu, ru⟩ := RelO.some_of (v := v) (o := mA n) (by rw [← l]; exact hr n)
  have J : PySem.W.InstAt s1.heap a oe C (some od) := ⟨ha, hz.1, by unfold PySem.W.notCls; rw [hd] <;> rfl, by rw [hz.2]; exact ho⟩
  exact HandSPX.exc_get I1.kIn J T.ga T.gg T.exC (PySem.W.findObj_own T.hdC hno rfl (by rw [hl, hu])) (handed_of ru) ⟨v, H1, I1.tok _, ru, q⟩
theorem pe_bmK {X : Cx} {K : PySem.W.Frag} {o e : Expr} {es : List Expr} {to : TE} {t : TA} {name : Str} {T id : String} {r : V → List V → Hp → VK → Prop} {apos cpos : Pos} (pa : PlainAttrs T) (slot : Slot T name id) (hty : typeOf (.builtin id) = pure (.type "method_descriptor")) (hm : MtR X id r) (ho : PE X o to) (ha : PA X (e :: es) t)
    (hbase : attributeBase o name X.env (eval o X.env) = eval o X.env := by rfl)
    (hfew : ((backTo cpos (starEach (e :: es) X.env)).all (fun x => !x.1) && (backToKw cpos (keywordEach [] X.env)).all (fun x => x.1.isSome)
      && decide ((e :: es).length + ([] : List Keyword).length + (if ([] : List Keyword).isEmpty then 0 else 1) < 30)) = true := by rfl)
    (hline : (apos.endLine == cpos.line) = true := by rfl) (hs : starEach (e :: es) X.env = (false, eval e X.env) :: starEach es X.env := by rfl) (hplain : (backTo cpos (starEach es X.env)).any (·.1) = false := by rfl) (hK : X.K = K := by rfl) :
    PE X (.Call (.Attribute o name apos) (e :: es) [] cpos) (tBM K T r to t) := by
  subst hK
  exact pe_bm pa slot hty hm ho ha hbase hfew hline hs hplain
def Out.told : Out → Str × Int
  | .bad i => ("row", (i : Nat)) | .part i => ("part", (i : Nat)) | .many => ("many", -1) | .ring => ("ring", -1) | .fine => ("", -1)
def spRefused (K : PySem.W.Frag) : Sp := fun vs H Q _ => ∃ (text : Str) (o : Out), vs = [.str text] ∧ SmallT text ∧ Verd text o ∧
  ∀ t H', Same H H' → H' t = some (.tup [.str o.told.1, .int o.told.2]) → Q (.ref t) H'
theorem sh2 (x : Str) (i : Int) (h : PyData.strOk x = true) : SeqAt.shaped (.tuple [.str x, .int i]) = true := by
  unfold SeqAt.shaped
  simp [PyData.canLay0, PyData.canLayAll0, PyData.depth, PyData.depthAll, h]
theorem told_at {K : PySem.W.Frag} {H : Hp} {t : Addr} {x : Str} {i : Int} (e : H t = some (.tup [.str x, .int i])) : Dp K H (.ref t) (.tuple [.str x, .int i]) := .tup (SqT.of e) (.cons (.str _) (.cons (.int _) .nil))
theorem told_ne {K : PySem.W.Frag} {H : Hp} {t u : Addr} {x : Str} {i : Int} {Q : VK} (hx : PyData.strOk x = true) (e : H t = some (.tup [.str x, .int i])) (e' : H u = some (.tup [.str x, .int i])) (q : Q (.bl false) H) : rNeD K (.ref t) (.ref u) H Q :=
  ⟨_, _, told_at e, told_at e', sh2 x i hx, sh2 x i hx, by rw [SeqAt.eqv_refl _ (SeqAt.canLay_of_shaped (sh2 x i hx))]; exact q⟩
theorem told_eq {K : PySem.W.Frag} {H : Hp} {t u : Addr} {x : Str} {i : Int} {Q : VK} (hx : PyData.strOk x = true) (e : H t = some (.tup [.str x, .int i])) (e' : H u = some (.tup [.str x, .int i])) (q : Q (.bl true) H) : rEqD K (.ref t) (.ref u) H Q :=
  ⟨_, _, told_at e, told_at e', sh2 x i hx, sh2 x i hx, by rw [SeqAt.eqv_refl _ (SeqAt.canLay_of_shaped (sh2 x i hx))]; exact q⟩
section
variable {P : Program} {w : World} {K : PySem.W.Frag} {mg : Str → Option Value} {base : Heap}
theorem ok_law_refused (T : Txt K mg) : Ok P w K mg base 6 (ga K "_law_refused") ["_law_text_here"] (spRefused K) := by
  have G_read := ok_readX (P := P) (w := w) (base := base) T
  refine mkOk T.F_law_refused sc_law_refused (fun _ _ _ _ _ _ us hl => match us, hl with | [_], _ => rfl) (by rintro vs H Q E ⟨_, _, rfl, _⟩; rfl) (fun cdv A outer s H vs Q E hr h => ?_)
  obtain ⟨text, o, rfl, hT, hV, q⟩ := h
  have hu := hu_of hr
  refine ⟨_, (pss_cons (ps_try_as (i := 1) rfl rfl sc_law_refused.nd rfl rfl ⟨rfl, by decide, .inl T.g_WorksError⟩ takes0 (fun W pn xe tk _ => (pss_one (ps_expr (pe_callX G_read (hr.mono (by decide)) T.g_read (fun σ => passAt tk σ) (pa_cons (pv 0) pa_nil))))) (fun a oe cls d pn hz hf => (pss_cons (ps_set (i := 2) sc_law_refused.nd rfl (by first | exact Or.inl rfl | exact Or.inr rfl) (pe_lst (pa_cons (pe_callB (call_isEd (K := K) hz hf) (by rfl) T.f_isinstance (by decide +kernel) (pa_cons (pv 1) (pa_cons (pe_glob (v := .ref (ga K "BadRow")) rfl T.g_BadRow rfl) pa_nil))) (pa_cons (pe_callB (call_isEd (K := K) hz hf) (by rfl) T.f_isinstance (by decide +kernel) (pa_cons (pv 1) (pa_cons (pe_glob (v := .ref (ga K "NoPart")) rfl T.g_NoPart rfl) pa_nil))) (pa_cons (pe_callB (call_isEd (K := K) hz hf) (by rfl) T.f_isinstance (by decide +kernel) (pa_cons (pv 1) (pa_cons (pe_glob (v := .ref (ga K "TooMany")) rfl T.g_TooMany rfl) pa_nil))) (pa_cons (pe_callB (call_isEd (K := K) hz hf) (by rfl) T.f_isinstance (by decide +kernel) (pa_cons (pv 1) (pa_cons (pe_glob (v := .ref (ga K "Ring")) rfl T.g_Ring rfl) pa_nil))) pa_nil))))))
      (pss_cons (ps_if (PW.pt (pw_or (pt_cmpR op_ne (pe_bmK (K := K) PySem.F.plainAttrs_list PySem.F.slot_list_count PySem.F.type_list_count (countBK (K := K)) (pv 2) (pa_cons pe_bl pa_nil)) pe_int (nomark _)) (pw_or (pt_val (pe_callB (call_isEd (K := K) hz hf) (by rfl) T.f_isinstance (by decide +kernel) (pa_cons (pv 1) (pa_cons (pe_glob (v := .ref (ga K "BadLag")) rfl T.g_BadLag rfl) pa_nil)))) (pw_or1 (pt_not (pt_val (pe_callB (call_isEd (K := K) hz hf) (by rfl) T.f_isinstance (by decide +kernel) (pa_cons (pv 1) (pa_cons (pe_bltn (v := .ty "ValueError") (u := .type "ValueError") (by rfl) T.f_ValueError (by decide +kernel) rfl) pa_nil))))))))) (pss_one (ps_ret (pe_tup (pa_cons pe_str (pa_cons pe_int pa_nil))))) pss_nil)
      (pss_one (ps_ret (pe_tup (pa_cons (pe_ix (ixT (K := K)) (pe_tup (pa_cons pe_str (pa_cons pe_str (pa_cons pe_str (pa_cons pe_str pa_nil))))) (pe_bmK (K := K) PySem.F.plainAttrs_list PySem.F.slot_list_index PySem.F.type_list_index (indexK (K := K)) (pv 2) (pa_cons pe_bl pa_nil)) (fun _ _ => rfl)) (pa_cons (pe_ifExp (PW.pt (pw_or (pt_val (pe_ix (ixL (K := K)) (pv 2) pe_int (fun _ _ => rfl))) (pw_or1 (pt_val (pe_ix (ixL (K := K)) (pv 2) pe_int (fun _ _ => rfl)))))) (pe_xfE (K := K) hz hf (pv 1)) (pe_un un_neg pe_int)) pa_nil)))))))))
      (pss_one (ps_ret (pe_tup (pa_cons pe_str (pa_cons (pe_un un_neg pe_int) pa_nil)))))), ?_⟩
  refine ⟨_, rfl, text, o, rfl, hT, hV, fun ho v H' s' => ?_, fun ho H' s' => ?_, fun ho H' s' => ?_, fun i ho d H' s' e' => ?_, fun i ho d H' s' e' => ?_⟩
  · subst ho
    refine ⟨_, rfl, (by decide), fun t ht => ?_⟩
    exact q t _ (s'.trans (Same.new ht)) upd_same
  · subst ho
    refine ⟨true, T.xm_TooMany, fun _ e he => ?_, fun z => by cases z⟩
    refine ⟨_, rfl, ga K "TooMany", _, .ref (ga K "BadRow"), false, rfl, rfl, T.xc_TooMany, (.inl rfl), fun u r => r, T.ki_TooMany_BadRow, ?_⟩
    refine ⟨_, rfl, ga K "TooMany", _, .ref (ga K "NoPart"), false, rfl, rfl, T.xc_TooMany, (.inl rfl), fun u r => r, T.ki_TooMany_NoPart, ?_⟩
    refine ⟨_, rfl, ga K "TooMany", _, .ref (ga K "TooMany"), true, rfl, rfl, T.xc_TooMany, (.inl rfl), fun u r => r, T.ki_TooMany_TooMany, ?_⟩
    refine ⟨_, rfl, ga K "TooMany", _, .ref (ga K "Ring"), false, rfl, rfl, T.xc_TooMany, (.inl rfl), fun u r => r, T.ki_TooMany_Ring, ?_⟩
    refine ⟨(by show 4 ≤ sizeLine; decide), fun p hp => ?_⟩
    have s1 := s'.trans (Same.new (o := .lst [.bl false, .bl false, .bl true, .bl false]) hp)
    have e1 : upd H' p (.lst [.bl false, .bl false, .bl true, .bl false]) p = _ := upd_same
    revert s1 e1
    show _ → _ → _
    generalize upd H' p (HO.lst [.bl false, .bl false, .bl true, .bl false]) = H1
    intro s1 e1
    refine ⟨_, rfl, .inl ⟨rfl, _, SqL.of e1⟩, p, [false, false, true, false], true, rfl, rfl, SqL.of e1, rfl, ?_⟩
    refine ⟨false, rfl, iteF ?_⟩
    refine ⟨_, rfl, ga K "TooMany", _, .ref (ga K "BadLag"), false, rfl, rfl, T.xc_TooMany, (.inl rfl), fun u r => r, T.ki_TooMany_BadLag, _, rfl, iteF ?_⟩
    refine ⟨_, rfl, ga K "TooMany", _, .type "ValueError", true, rfl, rfl, T.xc_TooMany, (.inl rfl), fun u r => r, T.kv_TooMany, _, rfl, iteF ?_⟩
    refine ⟨(by show 4 ≤ sizeLine; decide), fun t ht => ?_⟩
    have s2 := s1.trans (Same.new (o := .tup [.str "row", .str "part", .str "many", .str "ring"]) ht)
    have e2 := Same.new (o := .tup [.str "row", .str "part", .str "many", .str "ring"]) ht _ _ e1
    refine ⟨_, rfl, .inl ⟨rfl, _, SqL.of e2⟩, p, [.bl false, .bl false, .bl true, .bl false], .bl true, 2, .bl true, rfl, rfl, SqL.of e2, rfl, rfl, rfl, rfl, ?_, ?_⟩
    · intro m z hm hz
      match m, hm, hz with
      | 0, _, hz => cases hz; rfl
      | 1, _, hz => cases hz; rfl
    refine ⟨t, _, 2, .str "many", rfl, rfl, SqT.of upd_same, rfl, ?_⟩
    refine ⟨_, rfl, p, _, 0, .bl false, rfl, rfl, SqL.of e2, rfl, _, rfl, iteF ?_⟩
    refine ⟨_, rfl, p, _, 1, .bl false, rfl, rfl, SqL.of e2, rfl, _, rfl, iteF ?_⟩
    refine ⟨_, rfl, ?_⟩
    refine ⟨(by show 2 ≤ sizeLine; decide), fun u hu => ?_⟩
    exact q u _ (s2.trans (Same.new hu)) upd_same
  · subst ho
    refine ⟨true, T.xm_Ring, fun _ e he => ?_, fun z => by cases z⟩
    refine ⟨_, rfl, ga K "Ring", _, .ref (ga K "BadRow"), false, rfl, rfl, T.xc_Ring, (.inl rfl), fun u r => r, T.ki_Ring_BadRow, ?_⟩
    refine ⟨_, rfl, ga K "Ring", _, .ref (ga K "NoPart"), false, rfl, rfl, T.xc_Ring, (.inl rfl), fun u r => r, T.ki_Ring_NoPart, ?_⟩
    refine ⟨_, rfl, ga K "Ring", _, .ref (ga K "TooMany"), false, rfl, rfl, T.xc_Ring, (.inl rfl), fun u r => r, T.ki_Ring_TooMany, ?_⟩
    refine ⟨_, rfl, ga K "Ring", _, .ref (ga K "Ring"), true, rfl, rfl, T.xc_Ring, (.inl rfl), fun u r => r, T.ki_Ring_Ring, ?_⟩
    refine ⟨(by show 4 ≤ sizeLine; decide), fun p hp => ?_⟩
    have s1 := s'.trans (Same.new (o := .lst [.bl false, .bl false, .bl false, .bl true]) hp)
    have e1 : upd H' p (.lst [.bl false, .bl false, .bl false, .bl true]) p = _ := upd_same
    revert s1 e1
    show _ → _ → _
    generalize upd H' p (HO.lst [.bl false, .bl false, .bl false, .bl true]) = H1
    intro s1 e1
    refine ⟨_, rfl, .inl ⟨rfl, _, SqL.of e1⟩, p, [false, false, false, true], true, rfl, rfl, SqL.of e1, rfl, ?_⟩
    refine ⟨false, rfl, iteF ?_⟩
    refine ⟨_, rfl, ga K "Ring", _, .ref (ga K "BadLag"), false, rfl, rfl, T.xc_Ring, (.inl rfl), fun u r => r, T.ki_Ring_BadLag, _, rfl, iteF ?_⟩
    refine ⟨_, rfl, ga K "Ring", _, .type "ValueError", true, rfl, rfl, T.xc_Ring, (.inl rfl), fun u r => r, T.kv_Ring, _, rfl, iteF ?_⟩
    refine ⟨(by show 4 ≤ sizeLine; decide), fun t ht => ?_⟩
    have s2 := s1.trans (Same.new (o := .tup [.str "row", .str "part", .str "many", .str "ring"]) ht)
    have e2 := Same.new (o := .tup [.str "row", .str "part", .str "many", .str "ring"]) ht _ _ e1
    refine ⟨_, rfl, .inl ⟨rfl, _, SqL.of e2⟩, p, [.bl false, .bl false, .bl false, .bl true], .bl true, 3, .bl true, rfl, rfl, SqL.of e2, rfl, rfl, rfl, rfl, ?_, ?_⟩
    · intro m z hm hz
      match m, hm, hz with
      | 0, _, hz => cases hz; rfl
      | 1, _, hz => cases hz; rfl
      | 2, _, hz => cases hz; rfl
    refine ⟨t, _, 3, .str "ring", rfl, rfl, SqT.of upd_same, rfl, ?_⟩
    refine ⟨_, rfl, p, _, 0, .bl false, rfl, rfl, SqL.of e2, rfl, _, rfl, iteF ?_⟩
    refine ⟨_, rfl, p, _, 1, .bl false, rfl, rfl, SqL.of e2, rfl, _, rfl, iteF ?_⟩
    refine ⟨_, rfl, ?_⟩
    refine ⟨(by show 2 ≤ sizeLine; decide), fun u hu => ?_⟩
    exact q u _ (s2.trans (Same.new hu)) upd_same
  · subst ho
    refine ⟨true, T.xm_BadRow, fun _ e he => ?_, fun z => by cases z⟩
    refine ⟨_, rfl, ga K "BadRow", _, .ref (ga K "BadRow"), true, rfl, rfl, T.xc_BadRow, (.inr ⟨_, _, rfl, e'⟩), fun u r => r, T.ki_BadRow_BadRow, ?_⟩
    refine ⟨_, rfl, ga K "BadRow", _, .ref (ga K "NoPart"), false, rfl, rfl, T.xc_BadRow, (.inr ⟨_, _, rfl, e'⟩), fun u r => r, T.ki_BadRow_NoPart, ?_⟩
    refine ⟨_, rfl, ga K "BadRow", _, .ref (ga K "TooMany"), false, rfl, rfl, T.xc_BadRow, (.inr ⟨_, _, rfl, e'⟩), fun u r => r, T.ki_BadRow_TooMany, ?_⟩
    refine ⟨_, rfl, ga K "BadRow", _, .ref (ga K "Ring"), false, rfl, rfl, T.xc_BadRow, (.inr ⟨_, _, rfl, e'⟩), fun u r => r, T.ki_BadRow_Ring, ?_⟩
    refine ⟨(by show 4 ≤ sizeLine; decide), fun p hp => ?_⟩
    have s1 := s'.trans (Same.new (o := .lst [.bl true, .bl false, .bl false, .bl false]) hp)
    have e1 : upd H' p (.lst [.bl true, .bl false, .bl false, .bl false]) p = _ := upd_same
    have x1 := Same.new (o := .lst [.bl true, .bl false, .bl false, .bl false]) hp _ _ e'
    revert s1 e1 x1
    show _ → _ → _ → _
    generalize upd H' p (HO.lst [.bl true, .bl false, .bl false, .bl false]) = H1
    intro s1 e1 x1
    refine ⟨_, rfl, .inl ⟨rfl, _, SqL.of e1⟩, p, [true, false, false, false], true, rfl, rfl, SqL.of e1, rfl, ?_⟩
    refine ⟨false, rfl, iteF ?_⟩
    refine ⟨_, rfl, ga K "BadRow", _, .ref (ga K "BadLag"), false, rfl, rfl, T.xc_BadRow, (.inr ⟨_, _, rfl, x1⟩), fun u r => r, T.ki_BadRow_BadLag, _, rfl, iteF ?_⟩
    refine ⟨_, rfl, ga K "BadRow", _, .type "ValueError", true, rfl, rfl, T.xc_BadRow, (.inr ⟨_, _, rfl, x1⟩), fun u r => r, T.kv_BadRow, _, rfl, iteF ?_⟩
    refine ⟨(by show 4 ≤ sizeLine; decide), fun t ht => ?_⟩
    have s2 := s1.trans (Same.new (o := .tup [.str "row", .str "part", .str "many", .str "ring"]) ht)
    have e2 := Same.new (o := .tup [.str "row", .str "part", .str "many", .str "ring"]) ht _ _ e1
    have x2 := Same.new (o := .tup [.str "row", .str "part", .str "many", .str "ring"]) ht _ _ x1
    refine ⟨_, rfl, .inl ⟨rfl, _, SqL.of e2⟩, p, [.bl true, .bl false, .bl false, .bl false], .bl true, 0, .bl true, rfl, rfl, SqL.of e2, rfl, rfl, rfl, rfl, ?_, ?_⟩
    · intro m z hm hz
      omega
    refine ⟨t, _, 0, .str "row", rfl, rfl, SqT.of upd_same, rfl, ?_⟩
    refine ⟨_, rfl, p, _, 0, .bl true, rfl, rfl, SqL.of e2, rfl, _, rfl, iteT (iteT ?_)⟩
    refine ⟨_, rfl, rfl, ga K "BadRow", d, _, _, rfl, T.xr_BadRow, T.no_BadRow, rfl, x2, rfl, ?_⟩
    refine ⟨(by show 2 ≤ sizeLine; decide), fun u hu => ?_⟩
    exact q u _ (s2.trans (Same.new hu)) upd_same
  · subst ho
    refine ⟨true, T.xm_NoPart, fun _ e he => ?_, fun z => by cases z⟩
    refine ⟨_, rfl, ga K "NoPart", _, .ref (ga K "BadRow"), false, rfl, rfl, T.xc_NoPart, (.inr ⟨_, _, rfl, e'⟩), fun u r => r, T.ki_NoPart_BadRow, ?_⟩
    refine ⟨_, rfl, ga K "NoPart", _, .ref (ga K "NoPart"), true, rfl, rfl, T.xc_NoPart, (.inr ⟨_, _, rfl, e'⟩), fun u r => r, T.ki_NoPart_NoPart, ?_⟩
    refine ⟨_, rfl, ga K "NoPart", _, .ref (ga K "TooMany"), false, rfl, rfl, T.xc_NoPart, (.inr ⟨_, _, rfl, e'⟩), fun u r => r, T.ki_NoPart_TooMany, ?_⟩
    refine ⟨_, rfl, ga K "NoPart", _, .ref (ga K "Ring"), false, rfl, rfl, T.xc_NoPart, (.inr ⟨_, _, rfl, e'⟩), fun u r => r, T.ki_NoPart_Ring, ?_⟩
    refine ⟨(by show 4 ≤ sizeLine; decide), fun p hp => ?_⟩
    have s1 := s'.trans (Same.new (o := .lst [.bl false, .bl true, .bl false, .bl false]) hp)
    have e1 : upd H' p (.lst [.bl false, .bl true, .bl false, .bl false]) p = _ := upd_same
    have x1 := Same.new (o := .lst [.bl false, .bl true, .bl false, .bl false]) hp _ _ e'
    revert s1 e1 x1
    show _ → _ → _ → _
    generalize upd H' p (HO.lst [.bl false, .bl true, .bl false, .bl false]) = H1
    intro s1 e1 x1
    refine ⟨_, rfl, .inl ⟨rfl, _, SqL.of e1⟩, p, [false, true, false, false], true, rfl, rfl, SqL.of e1, rfl, ?_⟩
    refine ⟨false, rfl, iteF ?_⟩
    refine ⟨_, rfl, ga K "NoPart", _, .ref (ga K "BadLag"), false, rfl, rfl, T.xc_NoPart, (.inr ⟨_, _, rfl, x1⟩), fun u r => r, T.ki_NoPart_BadLag, _, rfl, iteF ?_⟩
    refine ⟨_, rfl, ga K "NoPart", _, .type "ValueError", true, rfl, rfl, T.xc_NoPart, (.inr ⟨_, _, rfl, x1⟩), fun u r => r, T.kv_NoPart, _, rfl, iteF ?_⟩
    refine ⟨(by show 4 ≤ sizeLine; decide), fun t ht => ?_⟩
    have s2 := s1.trans (Same.new (o := .tup [.str "row", .str "part", .str "many", .str "ring"]) ht)
    have e2 := Same.new (o := .tup [.str "row", .str "part", .str "many", .str "ring"]) ht _ _ e1
    have x2 := Same.new (o := .tup [.str "row", .str "part", .str "many", .str "ring"]) ht _ _ x1
    refine ⟨_, rfl, .inl ⟨rfl, _, SqL.of e2⟩, p, [.bl false, .bl true, .bl false, .bl false], .bl true, 1, .bl true, rfl, rfl, SqL.of e2, rfl, rfl, rfl, rfl, ?_, ?_⟩
    · intro m z hm hz
      match m, hm, hz with
      | 0, _, hz => cases hz; rfl
    refine ⟨t, _, 1, .str "part", rfl, rfl, SqT.of upd_same, rfl, ?_⟩
    refine ⟨_, rfl, p, _, 0, .bl false, rfl, rfl, SqL.of e2, rfl, _, rfl, iteF ?_⟩
    refine ⟨_, rfl, p, _, 1, .bl true, rfl, rfl, SqL.of e2, rfl, _, rfl, iteT ?_⟩
    refine ⟨_, rfl, rfl, ga K "NoPart", d, _, _, rfl, T.xr_NoPart, T.no_NoPart, rfl, x2, rfl, ?_⟩
    refine ⟨(by show 2 ≤ sizeLine; decide), fun u hu => ?_⟩
    exact q u _ (s2.trans (Same.new hu)) upd_same
end
end SW


/-! ### verdicts on joined rows: plain Lean -/
namespace SW
open PySem PySem.Spec PyProof.Rows L2 He TL
def TellsL : List Str → List Pd → Prop
  | [], [] => True
  | r :: rs, p :: ps => partOf (wordsOf r) = some p ∧ TellsL rs ps
  | _, _ => False
theorem TellsL.app : ∀ {rs : List Str} {ps : List Pd} {rs' : List Str} {ps' : List Pd}, TellsL rs ps → TellsL rs' ps' → TellsL (rs ++ rs') (ps ++ ps')
  | [], [], _, _, _, h => h
  | [], _ :: _, _, _, h, _ => h.elim
  | _ :: _, [], _, _, h, _ => h.elim
  | _ :: _, _ :: _, _, _, h, h' => ⟨h.1, TellsL.app h.2 h'⟩
theorem TellsL.one {r : Str} {p : Pd} (h : partOf (wordsOf r) = some p) : TellsL [r] [p] := ⟨h, trivial⟩
theorem TellsL.len : ∀ {rs : List Str} {ps : List Pd}, TellsL rs ps → rs.length = ps.length
  | [], [], _ => rfl
  | [], _ :: _, h => h.elim
  | _ :: _, [], h => h.elim
  | _ :: _, _ :: _, h => by rw [List.length_cons, List.length_cons, TellsL.len h.2]
theorem TellsL.map : ∀ {ps : List Pd}, (∀ p ∈ ps, partOf (wordsOf (shownRow p)) = some p) → TellsL (ps.map shownRow) ps
  | [], _ => trivial
  | p :: ps, h => ⟨h p (List.mem_cons_self ..), TellsL.map fun q hq => h q (List.mem_cons_of_mem _ hq)⟩
def placed : Nat → List Pd → List (Nat × Pd)
  | _, [] => []
  | i, p :: ps => (i, p) :: placed (i + 1) ps
theorem placed_snd : ∀ (i : Nat) (ps : List Pd), (placed i ps).map Prod.snd = ps
  | _, [] => rfl
  | i, p :: ps => by
    show p :: (placed (i + 1) ps).map Prod.snd = _
    rw [placed_snd]
theorem placed_len : ∀ (i : Nat) (ps : List Pd), (placed i ps).length = ps.length
  | _, [] => rfl
  | i, p :: ps => by
    show (placed (i + 1) ps).length + 1 = _
    rw [placed_len, List.length_cons]
theorem placed_app : ∀ (i : Nat) (ps qs : List Pd), placed i (ps ++ qs) = placed i ps ++ placed (i + ps.length) qs
  | _, [], _ => rfl
  | i, p :: ps, qs => by
    show (i, p) :: placed (i + 1) (ps ++ qs) = (i, p) :: (placed (i + 1) ps ++ _)
    rw [placed_app, List.length_cons, show i + (ps.length + 1) = i + 1 + ps.length by omega]
theorem acc_names (acc : List (Nat × Pd)) : acc.map (fun q => q.2.name) = (acc.map Prod.snd).map Pd.name := by rw [List.map_map] <;> rfl
theorem scan_cons {row : Str} {rest : List Str} {i : Nat} {acc : List (Nat × Pd)} : scan (row :: rest) i acc = (if wordsOf row = [] then scan rest (i + 1) acc
    else match partOf (wordsOf row) with
      | none => .inl (.bad i)
      | some p => if p.name ∈ acc.map (fun q => q.2.name) then .inl (.bad i) else if acc.length = 60 then .inl .many else scan rest (i + 1) (acc ++ [(i, p)])) := rfl
theorem scan_blank : ∀ {pre : List Str} {rest : List Str} {i : Nat} {acc : List (Nat × Pd)}, (∀ r ∈ pre, wordsOf r = []) → scan (pre ++ rest) i acc = scan rest (i + pre.length) acc
  | [], _, _, _, _ => rfl
  | r :: pre, rest, i, acc, h => by
    show scan (r :: (pre ++ rest)) i acc = _
    rw [scan_cons, if_pos (h r (List.mem_cons_self ..)), scan_blank fun r hr => h r (List.mem_cons_of_mem _ hr), List.length_cons, show i + 1 + pre.length = i + (pre.length + 1) by omega]
theorem words_ne {r : Str} {p : Pd} (h : partOf (wordsOf r) = some p) : wordsOf r ≠ [] := fun z => by
  rw [z, partOf_nil] at h
  cases h
theorem scan_told : ∀ {rows : List Str} {ps : List Pd} {rest : List Str} {i : Nat} {acc : List (Nat × Pd)}, TellsL rows ps → ((acc.map Prod.snd ++ ps).map Pd.name).Nodup → acc.length + ps.length ≤ 60 → scan (rows ++ rest) i acc = scan rest (i + rows.length) (acc ++ placed i ps)
  | [], [], _, _, acc, _, _, _ => by
    show scan _ _ acc = scan _ _ (acc ++ [])
    rw [List.append_nil] <;> rfl
  | [], _ :: _, _, _, _, h, _, _ => h.elim
  | _ :: _, [], _, _, _, h, _, _ => h.elim
  | r :: rows, p :: ps, rest, i, acc, h, hn, hl => by
    show scan (r :: (rows ++ rest)) i acc = _
    rw [List.length_cons] at hl
    have e1 : (acc ++ [(i, p)]).map Prod.snd ++ ps = acc.map Prod.snd ++ p :: ps := by rw [List.map_append, List.append_assoc] <;> rfl
    have hnot : p.name ∉ acc.map (fun q => q.2.name) := fun z => by
      rw [List.map_append] at hn
      rw [acc_names] at z
      exact (List.nodup_append.mp hn).2.2 _ z p.name (by rw [List.map_cons]; exact List.mem_cons_self ..) rfl
    rw [scan_cons, if_neg (words_ne h.1), h.1]
    dsimp only
    rw [if_neg hnot, if_neg (by omega), scan_told h.2 (by rw [e1]; exact hn) (by rw [List.length_append, List.length_singleton]; omega), List.append_assoc, List.length_cons, show i + 1 + rows.length = i + (rows.length + 1) by omega] <;> rfl
/-- a row that is not of its form, or a name told twice -/
theorem verd_bad {text : Str} {pre rows rest : List Str} {ps : List Pd} {bad : Str} (e : rowsOf text = pre ++ (rows ++ bad :: rest)) (hp : ∀ r ∈ pre, wordsOf r = []) (h : TellsL rows ps) (hn : (ps.map Pd.name).Nodup) (hl : ps.length ≤ 60) (hw : wordsOf bad ≠ [])
    (hb : partOf (wordsOf bad) = none ∨ ∃ p, partOf (wordsOf bad) = some p ∧ p.name ∈ ps.map Pd.name) : Verd text (.bad (pre.length + rows.length)) := by
  have hs : scan (rowsOf text) 0 [] = .inl (.bad (pre.length + rows.length)) := by
    rw [e, scan_blank hp, scan_told (acc := []) h hn (by rw [List.length_nil, Nat.zero_add]; exact hl), List.nil_append]
    rw [scan_cons, if_neg hw]
    rcases hb with hb | ⟨p, hb, hin⟩
    · rw [hb, Nat.zero_add]
    · rw [hb]
      dsimp only
      rw [if_pos (by rw [acc_names, placed_snd]; exact hin), Nat.zero_add]
  unfold Verd
  rw [hs]
theorem verd_acc {text : Str} {rows : List Str} {ps : List Pd} (e : rowsOf text = rows) (h : TellsL rows ps) (hn : (ps.map Pd.name).Nodup) (hl : ps.length ≤ 60) : scan (rowsOf text) 0 [] = .inr (placed 0 ps) := by
  have := scan_told (rest := []) (i := 0) (acc := []) h hn (by simpa using hl)
  rw [List.append_nil, List.nil_append] at this
  rw [e, this]
  rfl
theorem placed_ne {i : Nat} {ps : List Pd} (h : ps ≠ []) : placed i ps ≠ [] := by
  cases ps with
  | nil => exact absurd rfl h
  | cons p ps => exact List.cons_ne_nil _ _
theorem placed_fed {ps : List Pd} : ∀ {i : Nat} {qs : List Pd}, (∀ p ∈ qs, ∀ f ∈ p.feeds, unfed ps f = false) → (placed i qs).find? (starved ps) = none
  | _, [], _ => rfl
  | i, q :: qs, h => by
    show ((i, q) :: placed (i + 1) qs).find? _ = none
    rw [List.find?_cons, show starved ps (i, q) = false from starved_iff.mpr fun f hf => h q (List.mem_cons_self ..) f hf]
    exact placed_fed fun p hp => h p (List.mem_cons_of_mem _ hp)
theorem verd_part {text : Str} {rows : List Str} {qs : List Pd} {p : Pd} {rs : List Pd} (e : rowsOf text = rows) (h : TellsL rows (qs ++ p :: rs)) (hn : ((qs ++ p :: rs).map Pd.name).Nodup) (hl : (qs ++ p :: rs).length ≤ 60)
    (hq : ∀ q ∈ qs, ∀ f ∈ q.feeds, unfed (qs ++ p :: rs) f = false) (hp : ∃ f ∈ p.feeds, unfed (qs ++ p :: rs) f = true) : Verd text (.part qs.length) := by
  unfold Verd
  rw [verd_acc e h hn hl]
  dsimp only
  rw [if_neg (placed_ne (by simp)), placed_snd, placed_app, List.find?_append, placed_fed hq]
  show match (Option.none.or ((((0 + qs.length, p) :: placed (0 + qs.length + 1) rs)).find? (starved (qs ++ p :: rs)))) with | some q => _ | none => _
  rw [List.find?_cons, show starved (qs ++ p :: rs) (0 + qs.length, p) = true from by
    obtain ⟨f, h1, h2⟩ := hp
    exact List.any_eq_true.mpr ⟨f, h1, h2⟩]
  show Out.part qs.length = Out.part (0 + qs.length)
  rw [Nat.zero_add]
theorem verd_fed {text : Str} {rows : List Str} {ps : List Pd} {o : Out} (e : rowsOf text = rows) (h : TellsL rows ps) (hn : (ps.map Pd.name).Nodup) (hl : ps.length ≤ 60) (hne : ps ≠ []) (hq : ∀ q ∈ ps, ∀ f ∈ q.feeds, unfed ps f = false)
    (h1 : NoRing ps → o = .fine) (h2 : ¬ NoRing ps → o = .ring) : Verd text o := by
  unfold Verd
  rw [verd_acc e h hn hl]
  dsimp only
  rw [if_neg (placed_ne hne), placed_snd, placed_fed hq]
  exact ⟨h1, h2⟩
/-! the size of joined rows -/
theorem small_join {rows : List Str} (hn : rows ≠ []) (h : ∀ row ∈ rows, row.length ≤ 600 ∧ 10 ∉ tl row) (hl : rows.length ≤ 150) : SmallT (Txt.join "\n" rows) ∧ rowsOf (Txt.join "\n" rows) = rows := by
  have e := rows_join hn fun row hr => (h row hr).2
  have hlen : (Txt.join "\n" rows).length ≤ 100000 := by
    have h1 := join_len "\n" rows
    have h2 := sum_le (fun x : Str => x.length) 600 rows fun x hx => (h x hx).1
    have h3 : ("\n" : Str).length = 1 := by decide +kernel
    have h4 := Nat.mul_le_mul_right 600 hl
    rw [h3] at h1
    omega
  refine ⟨⟨hlen, by rw [e]; omega, fun row hr => ?_⟩, e⟩
  rw [e] at hr
  have h1 := (h row hr).1
  exact ⟨by omega, split_small h1⟩
theorem join_fits {rows : List Str} (h : ∀ row ∈ rows, row.length ≤ 600) (hl : rows.length ≤ 150) : (rows.map (·.length)).sum + rows.length * ("\n" : Str).length ≤ 16777216 := by
  have h2 := sum_le (fun x : Str => x.length) 600 rows h
  have h3 : ("\n" : Str).length = 1 := by decide +kernel
  have h4 := Nat.mul_le_mul_right 600 hl
  rw [h3]
  omega
/-- a part that a row can tell -/
structure OkP (p : Pd) : Prop where
  nn : goodName (tl p.name) = true
  fit : p.kd.fit
  time : 0 ≤ p.time ∧ p.time ≤ 1000 ∧ (p.kd.c = .src ∨ p.kd.c = .snk → p.time = 0)
  feeds : ∀ f ∈ p.feeds, goodName (tl f.1) = true ∧ 0 ≤ f.2 ∧ f.2 ≤ 100
  ln : p.feeds.length = p.kd.c.lines
section
variable {p : Pd}
theorem OkP.words (g : OkP p) : ∀ z ∈ rowWords p, plainW z := by
  intro z hz
  unfold rowWords at hz
  rcases List.mem_append.mp hz with h | h
  · simp only [List.mem_cons, List.not_mem_nil, or_false] at h
    rcases h with rfl | rfl | rfl
    · exact plain_name g.nn
    · exact plain_word g.fit
    · exact plain_num g.time.1
  · obtain ⟨f, hf, rfl⟩ := List.mem_map.mp h
    exact plain_feed (g.feeds f hf).1 (g.feeds f hf).2.1
theorem OkP.row_words (g : OkP p) : wordsOf (shownRow p) = rowWords p := by
  refine words_of_row (a := 0) (g := 0) (t := 0) ?_ (by simp [rowWords]) fun w hw => ⟨(g.words w hw).1, (g.words w hw).free (by decide)⟩
  unfold shownRow
  rw [tl_join', tl_blank]
  simp
theorem OkP.tells (g : OkP p) : partOf (wordsOf (shownRow p)) = some p := by
  rw [g.row_words]
  refine partOf_words (fs := p.feeds.map feedText) g.nn g.fit g.time.1 g.time.2.1 ?_ g.ln g.time.2.2
  rw [List.map_map]
  refine List.map_congr_left fun f hf => ?_
  exact feedOf_text (g.feeds f hf).1 (g.feeds f hf).2.1 (g.feeds f hf).2.2
theorem OkP.free (g : OkP p) : 10 ∉ tl (shownRow p) := by
  unfold shownRow
  rw [tl_join', tl_blank]
  refine joinL_free (by decide) fun w hw => ?_
  obtain ⟨z, hz, rfl⟩ := List.mem_map.mp hw
  exact (g.words z hz).free (by decide)
theorem OkP.len (g : OkP p) : (shownRow p).length ≤ 600 := by
  have h1 : ∀ z ∈ rowWords p, z.length ≤ 20 := fun z hz => by
    unfold rowWords at hz
    rcases List.mem_append.mp hz with h | h
    · simp only [List.mem_cons, List.not_mem_nil, or_false] at h
      rcases h with rfl | rfl | rfl
      · have := name_len g.nn; omega
      · have := word_len g.fit.1; omega
      · have := num_len g.time.1 (by have := g.time.2.1; omega : p.time < 10000); omega
    · obtain ⟨f, hf, rfl⟩ := List.mem_map.mp h
      exact feedText_len (name_len (g.feeds f hf).1) (g.feeds f hf).2.1 (by have := (g.feeds f hf).2.2; omega)
  have h2 : (rowWords p).length ≤ 6 := by
    unfold rowWords
    rw [List.length_append, List.length_map, g.ln]
    have := lines_le p.kd.c
    show 3 + _ ≤ 6
    omega
  have h3 := join_len " " (rowWords p)
  have h4 := sum_le (fun x : Str => x.length) 20 (rowWords p) h1
  have e : (" " : Str).length = 1 := by decide +kernel
  rw [e] at h3
  have h5 := Nat.mul_le_mul_right 20 h2
  unfold shownRow
  omega
theorem OkP.row (g : OkP p) : (shownRow p).length ≤ 600 ∧ 10 ∉ tl (shownRow p) := ⟨g.len, g.free⟩
end
theorem Good.okp {ps : List Pd} (g : Good ps) {p : Pd} (hp : p ∈ ps) : OkP p :=
  ⟨g.wf.nn p hp, g.fit p hp, g.time p hp, fun f hf => ⟨g.wf.good hp hf, g.held p hp f hf⟩, g.wf.ln p hp⟩
end SW


/-! ### verdicts on the law's texts: plain Lean -/
namespace SW
open PySem PySem.Spec PyProof.Rows L2 He TL
theorem join_cons (a : Str) {r : List Str} (h : r ≠ []) : Txt.join "\n" (a :: r) = (a ++ "\n") ++ Txt.join "\n" r := ext_tl (by
  cases r with
  | nil => exact absurd rfl h
  | cons b r =>
    rw [tl_join', tl_append, tl_append, tl_join']
    show tl a ++ (tl "\n" ++ _) = (tl a ++ tl "\n") ++ _
    rw [List.append_assoc] <;> rfl)
theorem join_app : ∀ {xs ys : List Str}, xs ≠ [] → ys ≠ [] → Txt.join "\n" (xs ++ ys) = (Txt.join "\n" xs ++ "\n") ++ Txt.join "\n" ys
  | [], _, h, _ => absurd rfl h
  | [x], ys, _, h => by
    show Txt.join "\n" (x :: ys) = _
    rw [join_cons x h]
    have : Txt.join "\n" [x] = x := ext_tl (by rw [tl_join'] <;> rfl)
    rw [this]
  | x :: y :: r, ys, _, h => by
    show Txt.join "\n" (x :: (y :: r ++ ys)) = _
    rw [join_cons x (by simp), join_cons x (by simp), join_app (by simp) h]
    refine ext_tl ?_
    simp only [tl_append, List.append_assoc]
theorem name_other {k : Nat} {m : Int} {z : Str} {c d : Nat} {r : List Nat} (hk : k < 72) (e : tl z = c :: d :: r) (hc : c ≠ 113) (h8 : d ≠ 48) (h9 : d ≠ 49) : lawName k m ≠ z := fun h => by
  have h := congrArg tl h
  rw [tl_name, e] at h
  cases h0 : (m % 4).toNat with
  | zero =>
    rw [h0, List.replicate_zero, List.nil_append] at h
    simp only [List.cons.injEq] at h
    have := h.2.1
    omega
  | succ n =>
    rw [h0, List.replicate_succ, List.cons_append] at h
    exact hc (List.cons.inj h).1.symm
def zyP (f : Str) : Pd := ⟨"zy", ⟨.snk, 0⟩, 0, [(f, 0)]⟩
def noneP (one z : Str) : Pd := ⟨"zz", ⟨.odd, 0⟩, 1, [(one, 0), (z, 1)]⟩
def ringName (k : Nat) : Str := "zz" ++ Str.ofString (toString (k : Int))
def ringP (n k : Nat) : Pd := ⟨ringName k, ⟨.both, 0⟩, 1, [(ringName ((k + 1) % n), 0), (ringName 0, 2)]⟩
def ringPs (n : Nat) : List Pd := (List.range n).map (ringP n)
theorem good_zy : goodName (tl "zy") = true := by decide +kernel
theorem good_zz : goodName (tl "zz") = true := by decide +kernel
theorem good_none : goodName (tl "none") = true := by decide +kernel
theorem good_ring : ∀ k < 5, goodName (tl (ringName k)) = true := by decide +kernel
theorem kd_fit3 {c : Kc} {n : Int} (h : c.cnt = false → n = 0) (h2 : c.cnt = true → 1 ≤ n ∧ n ≤ 63) : (Kd.mk c n).fit := ⟨h2, h⟩
theorem ok_zy {f : Str} (h : goodName (tl f) = true) : OkP (zyP f) :=
  ⟨good_zy, kd_fit3 (by decide) (by decide), ⟨(by decide : (0 : Int) ≤ 0), (by decide : (0 : Int) ≤ 1000), fun _ => rfl⟩, fun g hg => by rw [List.mem_singleton.mp hg]; exact ⟨h, (by decide : (0 : Int) ≤ 0), (by decide : (0 : Int) ≤ 100)⟩, rfl⟩
theorem ok_none {one z : Str} (h : goodName (tl one) = true) (h' : goodName (tl z) = true) : OkP (noneP one z) := by
  refine ⟨good_zz, kd_fit3 (by decide) (by decide), ⟨(by decide : (0 : Int) ≤ 1), (by decide : (1 : Int) ≤ 1000), ?_⟩, fun g hg => ?_, rfl⟩
  · rintro (z | z) <;> cases z
  · rcases List.mem_cons.mp hg with rfl | hg
    · exact ⟨h, (by decide : (0 : Int) ≤ 0), (by decide : (0 : Int) ≤ 100)⟩
    · rw [List.mem_singleton.mp hg]
      exact ⟨h', (by decide : (0 : Int) ≤ 1), (by decide : (1 : Int) ≤ 100)⟩
theorem ok_ring {n k : Nat} (hn : n ≤ 5) (hk : k < n) : OkP (ringP n k) := by
  refine ⟨good_ring k (by omega), kd_fit3 (by decide) (by decide), ⟨(by decide : (0 : Int) ≤ 1), (by decide : (1 : Int) ≤ 1000), ?_⟩, fun g hg => ?_, rfl⟩
  · rintro (z | z) <;> cases z
  · rcases List.mem_cons.mp hg with rfl | hg
    · exact ⟨good_ring _ (by have := Nat.mod_lt (k + 1) (show 0 < n by omega); omega), (by decide : (0 : Int) ≤ 0), (by decide : (0 : Int) ≤ 100)⟩
    · rw [List.mem_singleton.mp hg]
      exact ⟨good_ring 0 (by omega), (by decide : (0 : Int) ≤ 2), (by decide : (2 : Int) ≤ 100)⟩
theorem ring_names : ∀ n ≤ 5, ((ringPs n).map Pd.name).Nodup ∧ ("zy" : Str) ∉ (ringPs n).map Pd.name ∧ ("none" : Str) ∉ (ringPs n).map Pd.name := by decide +kernel
theorem ring_head : ∀ k < 5, ∃ c d r, tl (ringName k) = c :: d :: r ∧ c ≠ 113 ∧ d ≠ 48 ∧ d ≠ 49 := by
  have : ∀ k < 5, (tl (ringName k)).take 2 = [122, 122] := by decide +kernel
  intro k hk
  have h := this k hk
  cases e : tl (ringName k) with
  | nil => rw [e] at h; cases h
  | cons c r =>
    cases r with
    | nil => rw [e] at h; cases h
    | cons d r =>
      rw [e] at h
      simp only [List.take_succ_cons, List.take_zero, List.cons.injEq, and_true] at h
      obtain ⟨rfl, rfl⟩ := h
      exact ⟨122, 122, r, rfl, by decide, by decide, by decide⟩
section
variable {most : Nat} {mark : Int} {ls : List Lp}
theorem LawOk.names (h : LawOk most mark ls) (hm : most ≤ 59) {z : Str} {c d : Nat} {r : List Nat} (e : tl z = c :: d :: r) (hc : c ≠ 113) (h8 : d ≠ 48) (h9 : d ≠ 49) : z ∉ (worksOf ls).map Pd.name := fun hz => by
  rw [worksOf_names] at hz
  obtain ⟨l, hl, hz⟩ := List.mem_map.mp hz
  obtain ⟨j, hj⟩ := List.mem_iff_getElem?.mp hl
  have h1 := (h.each j l hj).nm
  have := lt_of_get hj
  have := h.hi
  exact name_other (k := j) (by omega) e hc h8 h9 (h1.symm.trans hz)
theorem LawOk.no_zy (h : LawOk most mark ls) (hm : most ≤ 59) : ("zy" : Str) ∉ (worksOf ls).map Pd.name := h.names hm (c := 122) (d := 121) (r := []) (by decide +kernel) (by decide) (by decide) (by decide)
theorem LawOk.no_zz (h : LawOk most mark ls) (hm : most ≤ 59) : ("zz" : Str) ∉ (worksOf ls).map Pd.name := h.names hm (c := 122) (d := 122) (r := []) (by decide +kernel) (by decide) (by decide) (by decide)
theorem LawOk.no_none (h : LawOk most mark ls) (hm : most ≤ 59) : ("none" : Str) ∉ (worksOf ls).map Pd.name := h.names hm (c := 110) (d := 111) (r := [110, 101]) (by decide +kernel) (by decide) (by decide) (by decide)
theorem LawOk.no_ring (h : LawOk most mark ls) (hm : most ≤ 59) {k : Nat} (hk : k < 5) : ringName k ∉ (worksOf ls).map Pd.name := by
  obtain ⟨c, d, r, e, h1, h2, h3⟩ := ring_head k hk
  exact h.names hm e h1 h2 h3
theorem LawOk.one (h : LawOk most mark ls) : ∃ r ∈ worksOf ls, r.name = nameAt ls 0 ∧ r.kd.c ≠ .snk := by
  have h0 : 0 < ls.length := by have := h.lo; omega
  have e := List.getElem?_eq_getElem h0
  obtain ⟨r, h1, h2⟩ := h.kds.first
  rw [List.getElem?_map, e] at h1
  cases h1
  exact ⟨pdOf ls ls[0], List.mem_map.mpr ⟨ls[0], List.getElem_mem h0, rfl⟩, (nameAt_of e).symm, by show ls[0].kd.c ≠ .snk; rw [h2]; decide⟩
theorem LawOk.good1 (h : LawOk most mark ls) (hm : most ≤ 59) : goodName (tl (nameAt ls 0)) = true := by
  rw [h.name (by have := h.lo; omega)]
  exact name_good _ (by decide)
end
/-- a bad row somewhere -/
theorem bad_verd {pre : List Str} {hs ps : List Pd} {bad : Str} {k : Nat} (hp : ∀ r ∈ pre, wordsOf r = [] ∧ r.length ≤ 600 ∧ 10 ∉ tl r) (hh : ∀ q ∈ hs ++ ps, OkP q) (hn : ((hs ++ ps).map Pd.name).Nodup) (hl : hs.length + ps.length ≤ 60) (hpl : pre.length ≤ 10) (hk : k ≤ ps.length)
    (hb1 : wordsOf bad ≠ []) (hb2 : partOf (wordsOf bad) = none) (hb3 : bad.length ≤ 600 ∧ 10 ∉ tl bad) :
    SmallT (Txt.join "\n" (pre ++ (((hs ++ ps.take k).map shownRow) ++ bad :: (ps.drop k).map shownRow))) ∧ Verd (Txt.join "\n" (pre ++ (((hs ++ ps.take k).map shownRow) ++ bad :: (ps.drop k).map shownRow))) (.bad (pre.length + (hs.length + k))) := by
  have hsub : ∀ q ∈ hs ++ ps.take k, q ∈ hs ++ ps := fun q hq => by
    rcases List.mem_append.mp hq with z | z
    · exact List.mem_append_left _ z
    · exact List.mem_append_right _ (List.mem_of_mem_take z)
  obtain ⟨s, e⟩ := small_join (rows := pre ++ (((hs ++ ps.take k).map shownRow) ++ bad :: (ps.drop k).map shownRow)) (by simp) (fun r hr => by
    rcases List.mem_append.mp hr with z | z
    · exact (hp r z).2
    · rcases List.mem_append.mp z with z | z
      · obtain ⟨q, hq, rfl⟩ := List.mem_map.mp z
        exact (hh q (hsub q hq)).row
      · rcases List.mem_cons.mp z with rfl | z
        · exact hb3
        · obtain ⟨q, hq, rfl⟩ := List.mem_map.mp z
          exact (hh q (List.mem_append_right _ (List.mem_of_mem_drop hq))).row) (by
    rw [List.length_append, List.length_append, List.length_cons, List.length_map, List.length_map, List.length_append, List.length_take, List.length_drop]
    omega)
  refine ⟨s, ?_⟩
  have hlen : ((hs ++ ps.take k).map shownRow).length = hs.length + k := by
    rw [List.length_map, List.length_append, List.length_take]
    omega
  rw [← hlen]
  refine verd_bad e (fun r hr => (hp r hr).1) (TellsL.map fun p hp' => (hh p (hsub p hp')).tells) ?_ ?_ hb1 (.inl hb2)
  · rw [List.map_append] at hn ⊢
    obtain ⟨n1, n2, n3⟩ := List.nodup_append.mp hn
    refine List.nodup_append.mpr ⟨n1, ?_, fun a ha b hb => n3 a ha b ?_⟩
    · rw [List.map_take]
      exact n2.sublist (List.take_sublist _ _)
    · rw [List.map_take] at hb
      exact List.mem_of_mem_take hb
  · rw [List.length_append, List.length_take]
    omega
theorem fed_in {ps qs : List Pd} {f : Str × Int} (h : ∃ r ∈ ps, r.name = f.1 ∧ r.kd.c ≠ .snk) (hs : ∀ r ∈ ps, r ∈ qs) : unfed qs f = false := by
  obtain ⟨r, h1, h2⟩ := h
  exact unfed_iff.mpr ⟨r, hs r h1, h2⟩
theorem unfed_true {ps : List Pd} {f : Str × Int} (h : ∀ r ∈ ps, r.name = f.1 → r.kd.c = .snk) : unfed ps f = true := by
  cases e : unfed ps f with
  | true => rfl
  | false =>
    obtain ⟨r, h1, h2, h3⟩ := unfed_iff.mp e
    exact absurd (h r h1 h2) h3
theorem not_here {ps : List Pd} {n : Str} (h : n ∉ ps.map Pd.name) : ∀ r ∈ ps, r.name ≠ n := fun r hr e => h (List.mem_map.mpr ⟨r, hr, e⟩)
/-- a row with a line from no part -/
theorem part_verd {most : Nat} {mark : Int} {ls : List Lp} (h : LawOk most mark ls) (hm : most ≤ 40) {k : Nat} (hk : k ≤ (worksOf ls).length) {z : Str} (hz : z = "none" ∨ z = "zy") :
    SmallT (Txt.join "\n" (shownRow (zyP (nameAt ls 0)) :: (((worksOf ls).map shownRow).take k ++ shownRow (noneP (nameAt ls 0) z) :: ((worksOf ls).map shownRow).drop k))) ∧
    Verd (Txt.join "\n" (shownRow (zyP (nameAt ls 0)) :: (((worksOf ls).map shownRow).take k ++ shownRow (noneP (nameAt ls 0) z) :: ((worksOf ls).map shownRow).drop k))) (.part (k + 1)) := by
  have hm' : most ≤ 59 := by omega
  have g := h.good hm'
  have g1 := h.good1 hm'
  have gz : goodName (tl z) = true := by rcases hz with rfl | rfl; exact good_none; exact good_zy
  have o1 := ok_zy g1
  have o2 := ok_none g1 gz
  have hlen : (worksOf ls).length ≤ 41 := by
    unfold worksOf
    rw [List.length_map]
    have := h.hi
    omega
  have er : shownRow (zyP (nameAt ls 0)) :: (((worksOf ls).map shownRow).take k ++ shownRow (noneP (nameAt ls 0) z) :: ((worksOf ls).map shownRow).drop k) = ((zyP (nameAt ls 0) :: (worksOf ls).take k) ++ noneP (nameAt ls 0) z :: (worksOf ls).drop k).map shownRow := by
    rw [List.map_append, List.map_cons, List.map_cons, List.map_take, List.map_drop] <;> rfl
  rw [er]
  have hmem : ∀ q ∈ (zyP (nameAt ls 0) :: (worksOf ls).take k) ++ noneP (nameAt ls 0) z :: (worksOf ls).drop k, q = zyP (nameAt ls 0) ∨ q = noneP (nameAt ls 0) z ∨ q ∈ worksOf ls := fun q hq => by
    rcases List.mem_append.mp hq with hq | hq
    · rcases List.mem_cons.mp hq with hq | hq
      · exact .inl hq
      · exact .inr (.inr (List.mem_of_mem_take hq))
    · rcases List.mem_cons.mp hq with hq | hq
      · exact .inr (.inl hq)
      · exact .inr (.inr (List.mem_of_mem_drop hq))
  have hall : ∀ r ∈ worksOf ls, r ∈ (zyP (nameAt ls 0) :: (worksOf ls).take k) ++ noneP (nameAt ls 0) z :: (worksOf ls).drop k := fun r hr => by
    rw [← List.take_append_drop k (worksOf ls)] at hr
    rcases List.mem_append.mp hr with hr | hr
    · exact List.mem_append_left _ (List.mem_cons_of_mem _ hr)
    · exact List.mem_append_right _ (List.mem_cons_of_mem _ hr)
  have hok : ∀ q ∈ (zyP (nameAt ls 0) :: (worksOf ls).take k) ++ noneP (nameAt ls 0) z :: (worksOf ls).drop k, OkP q := fun q hq => by
    rcases hmem q hq with rfl | rfl | hq
    · exact o1
    · exact o2
    · exact g.okp hq
  have hl : ((zyP (nameAt ls 0) :: (worksOf ls).take k) ++ noneP (nameAt ls 0) z :: (worksOf ls).drop k).length = (worksOf ls).length + 2 := by
    rw [List.length_append, List.length_cons, List.length_cons, List.length_take, List.length_drop]
    omega
  obtain ⟨s, e⟩ := small_join (rows := ((zyP (nameAt ls 0) :: (worksOf ls).take k) ++ noneP (nameAt ls 0) z :: (worksOf ls).drop k).map shownRow) (by simp) (fun r hr => by
    obtain ⟨q, hq, rfl⟩ := List.mem_map.mp hr
    exact (hok q hq).row) (by rw [List.length_map, hl]; omega)
  refine ⟨s, ?_⟩
  have hkl : (zyP (nameAt ls 0) :: (worksOf ls).take k).length = k + 1 := by
    rw [List.length_cons, List.length_take]
    omega
  rw [← hkl]
  refine verd_part e (TellsL.map fun p hp => (hok p hp).tells) ?_ (by rw [hl]; omega) (fun q hq f hf => ?_) ⟨(z, 1), List.mem_cons_of_mem _ (List.mem_singleton.mpr rfl), unfed_true fun r hr er => ?_⟩
  · have nz := h.no_zz hm'
    have ny := h.no_zy hm'
    have nd := g.wf.nd
    rw [← List.take_append_drop k (worksOf ls), List.map_append] at nz ny nd
    obtain ⟨n1, n2, n3⟩ := List.nodup_append.mp nd
    rw [List.mem_append, not_or] at nz ny
    rw [List.map_append, List.map_cons, List.map_cons]
    refine List.nodup_append.mpr ⟨List.nodup_cons.mpr ⟨ny.1, n1⟩, List.nodup_cons.mpr ⟨nz.2, n2⟩, fun a ha b hb => ?_⟩
    rcases List.mem_cons.mp ha with rfl | ha
    · rcases List.mem_cons.mp hb with rfl | hb
      · show ("zy" : Str) ≠ "zz"
        decide +kernel
      · exact fun e => ny.2 (by have e : ("zy" : Str) = b := e; rw [e]; exact hb)
    · rcases List.mem_cons.mp hb with rfl | hb
      · exact fun e => nz.1 (by have e : a = ("zz" : Str) := e; rw [← e]; exact ha)
      · exact n3 a ha b hb
  · rcases List.mem_cons.mp hq with rfl | hq
    · rw [List.mem_singleton.mp hf]
      exact fed_in h.one hall
    · exact fed_in (g.fed q (List.mem_of_mem_take hq) f hf) hall
  · rcases hmem r hr with rfl | rfl | hr2
    · rfl
    · rcases hz with rfl | rfl
      · exact absurd er (by show ("zz" : Str) ≠ "none"; decide +kernel)
      · exact absurd er (by show ("zz" : Str) ≠ "zy"; decide +kernel)
    · rcases hz with rfl | rfl
      · exact absurd er (not_here (h.no_none hm') r hr2)
      · exact absurd er (not_here (h.no_zy hm') r hr2)
end SW


/-! ### rings, and texts of many parts: plain Lean -/
namespace SW
open PySem PySem.Spec PyProof.Rows L2 He TL
section
variable {most : Nat} {mark : Int} {ls : List Lp} {n : Nat}
theorem mem_ring {n : Nat} {q : Pd} (h : q ∈ ringPs n) : ∃ k < n, q = ringP n k := by
  obtain ⟨k, hk, rfl⟩ := List.mem_map.mp h
  exact ⟨k, List.mem_range.mp hk, rfl⟩
theorem ring_mem {n k : Nat} (h : k < n) : ringP n k ∈ ringPs n := List.mem_map.mpr ⟨k, List.mem_range.mpr h, rfl⟩
theorem ring_len (n : Nat) : (ringPs n).length = n := by unfold ringPs; rw [List.length_map, List.length_range]
theorem LawOk.len (h : LawOk most mark ls) (hm : most ≤ 40) : (worksOf ls).length ≤ 41 := by
  unfold worksOf
  rw [List.length_map]
  have := h.hi
  omega
theorem ring_okp (h : LawOk most mark ls) (hm : most ≤ 40) (hn : n ≤ 5) : ∀ q ∈ ringPs n ++ worksOf ls, OkP q := fun q hq => by
  rcases List.mem_append.mp hq with hq | hq
  · obtain ⟨k, hk, rfl⟩ := mem_ring hq
    exact ok_ring hn hk
  · exact (h.good (by omega)).okp hq
theorem ring_nodup (h : LawOk most mark ls) (hm : most ≤ 40) (hn : n ≤ 5) : ((ringPs n ++ worksOf ls).map Pd.name).Nodup := by
  rw [List.map_append]
  refine List.nodup_append.mpr ⟨(ring_names n hn).1, (h.good (by omega)).wf.nd, fun a ha b hb e => ?_⟩
  obtain ⟨q, hq, rfl⟩ := List.mem_map.mp ha
  obtain ⟨k, hk, rfl⟩ := mem_ring hq
  exact h.no_ring (by omega) (k := k) (by omega) (by have e : ringName k = b := e; rw [e]; exact hb)
theorem ring_fed (h : LawOk most mark ls) (hm : most ≤ 40) : ∀ q ∈ ringPs n ++ worksOf ls, ∀ f ∈ q.feeds, ∃ r ∈ ringPs n ++ worksOf ls, r.name = f.1 ∧ r.kd.c ≠ .snk := fun q hq f hf => by
  rcases List.mem_append.mp hq with hq | hq
  · obtain ⟨k, hk, rfl⟩ := mem_ring hq
    rcases List.mem_cons.mp hf with rfl | hf
    · exact ⟨ringP n ((k + 1) % n), List.mem_append_left _ (ring_mem (Nat.mod_lt _ (by omega))), rfl, by show Kc.both ≠ .snk; decide⟩
    · rw [List.mem_singleton.mp hf]
      exact ⟨ringP n 0, List.mem_append_left _ (ring_mem (by omega)), rfl, by show Kc.both ≠ .snk; decide⟩
  · obtain ⟨r, h1, h2⟩ := (h.good (by omega)).fed q hq f hf
    exact ⟨r, List.mem_append_right _ h1, h2⟩
theorem ring_is (h1 : 1 ≤ n) (h5 : n ≤ 5) (ps : List Pd) : ¬ NoRing (ringPs n ++ ps) := by
  rintro ⟨rank, h⟩
  have hk : ∀ k, k < n → rank (ringName ((k + 1) % n)) < rank (ringName k) := fun k hk => h (ringP n k) (List.mem_append_left _ (ring_mem hk)) (ringName ((k + 1) % n), 0) (List.mem_cons_self ..) rfl
  rcases (by omega : n = 1 ∨ n = 2 ∨ n = 3 ∨ n = 4 ∨ n = 5) with rfl | rfl | rfl | rfl | rfl
  · have a0 : rank (ringName 0) < rank (ringName 0) := hk 0 (by omega)
    omega
  · have a0 : rank (ringName 1) < rank (ringName 0) := hk 0 (by omega)
    have a1 : rank (ringName 0) < rank (ringName 1) := hk 1 (by omega)
    omega
  · have a0 : rank (ringName 1) < rank (ringName 0) := hk 0 (by omega)
    have a1 : rank (ringName 2) < rank (ringName 1) := hk 1 (by omega)
    have a2 : rank (ringName 0) < rank (ringName 2) := hk 2 (by omega)
    omega
  · have a0 : rank (ringName 1) < rank (ringName 0) := hk 0 (by omega)
    have a1 : rank (ringName 2) < rank (ringName 1) := hk 1 (by omega)
    have a2 : rank (ringName 3) < rank (ringName 2) := hk 2 (by omega)
    have a3 : rank (ringName 0) < rank (ringName 3) := hk 3 (by omega)
    omega
  · have a0 : rank (ringName 1) < rank (ringName 0) := hk 0 (by omega)
    have a1 : rank (ringName 2) < rank (ringName 1) := hk 1 (by omega)
    have a2 : rank (ringName 3) < rank (ringName 2) := hk 2 (by omega)
    have a3 : rank (ringName 4) < rank (ringName 3) := hk 3 (by omega)
    have a4 : rank (ringName 0) < rank (ringName 4) := hk 4 (by omega)
    omega
def ringRows (n : Nat) (ls : List Lp) : List Str := (ringPs n ++ worksOf ls).map shownRow
theorem ringRows_len (n : Nat) (ls : List Lp) : (ringRows n ls).length = n + (worksOf ls).length := by unfold ringRows; rw [List.length_map, List.length_append, ring_len]
theorem ring_small (h : LawOk most mark ls) (hm : most ≤ 40) (hn : n ≤ 5) {more : List Str} (hmore : ∀ r ∈ more, r.length ≤ 600 ∧ 10 ∉ tl r) (hl : more.length ≤ 5) :
    SmallT (Txt.join "\n" (ringRows n ls ++ more)) ∧ rowsOf (Txt.join "\n" (ringRows n ls ++ more)) = ringRows n ls ++ more := by
  have hlen := h.len hm
  have h0 : 0 < (worksOf ls).length := List.length_pos_iff.mpr (h.good (by omega)).ne
  have e := ringRows_len n ls
  refine small_join (fun z => by have := congrArg List.length z; rw [List.length_append, List.length_nil] at this; omega) (fun r hr => ?_) (by rw [List.length_append]; omega)
  rcases List.mem_append.mp hr with hr | hr
  · obtain ⟨q, hq, rfl⟩ := List.mem_map.mp hr
    exact (ring_okp h hm hn q hq).row
  · exact hmore r hr
theorem ring_verd (h : LawOk most mark ls) (hm : most ≤ 40) (h1 : 1 ≤ n) (hn : n ≤ 5) : SmallT (Txt.join "\n" (ringRows n ls)) ∧ Verd (Txt.join "\n" (ringRows n ls)) .ring ∧ rowsOf (Txt.join "\n" (ringRows n ls)) = ringRows n ls := by
  obtain ⟨s, e⟩ := ring_small h hm hn (more := []) (fun r hr => by cases hr) (Nat.zero_le _)
  rw [List.append_nil] at s e
  have hlen := h.len hm
  exact ⟨s, verd_fed e (TellsL.map fun p hp => (ring_okp h hm hn p hp).tells) (ring_nodup h hm hn) (by rw [List.length_append, ring_len]; omega) (by rw [ne_eq, List.append_eq_nil_iff]; exact fun z => (h.good (by omega)).ne z.2)
    (fun q hq f hf => unfed_iff.mpr (ring_fed h hm q hq f hf)) (fun z => absurd z (ring_is h1 hn _)) fun _ => rfl, e⟩
theorem ring_part (h : LawOk most mark ls) (hm : most ≤ 40) (hn : n ≤ 5) : SmallT (Txt.join "\n" (ringRows n ls ++ [shownRow (zyP "none")])) ∧ Verd (Txt.join "\n" (ringRows n ls ++ [shownRow (zyP "none")])) (.part (ringRows n ls).length) := by
  obtain ⟨s, e⟩ := ring_small h hm hn (more := [shownRow (zyP "none")]) (fun r hr => by rw [List.mem_singleton.mp hr]; exact (ok_zy good_none).row) (by simp)
  have hlen := h.len hm
  have e2 : (ringRows n ls).length = (ringPs n ++ worksOf ls).length := by unfold ringRows; rw [List.length_map]
  rw [e2]
  refine ⟨s, verd_part e (TellsL.app (TellsL.map fun p hp => (ring_okp h hm hn p hp).tells) (TellsL.one (ok_zy good_none).tells)) ?_ (by rw [List.length_append, List.length_append, ring_len]; show _ + 1 ≤ 60; omega) (fun q hq f hf => ?_) ⟨("none", 0), List.mem_singleton.mpr rfl, unfed_true fun r hr er => ?_⟩⟩
  · rw [List.map_append]
    refine List.nodup_append.mpr ⟨ring_nodup h hm hn, List.nodup_cons.mpr ⟨List.not_mem_nil, List.nodup_nil⟩, fun a ha b hb e => ?_⟩
    have eb : b = ("zy" : Str) := List.mem_singleton.mp hb
    subst eb
    subst e
    rw [List.map_append] at ha
    rcases List.mem_append.mp ha with ha | ha
    · exact (ring_names n hn).2.1 ha
    · exact h.no_zy (by omega) ha
  · obtain ⟨r, h1, h2⟩ := ring_fed h hm q hq f hf
    exact unfed_iff.mpr ⟨r, List.mem_append_left _ h1, h2⟩
  · rcases List.mem_append.mp hr with hr | hr
    · rcases List.mem_append.mp hr with hr | hr
      · exact absurd er (not_here (ring_names n hn).2.2 r hr)
      · exact absurd er (not_here (h.no_none (by omega)) r hr)
    · rw [List.mem_singleton.mp hr]
      rfl
def srcP (one : Str) : Pd := ⟨one, ⟨.src, 0⟩, 0, []⟩
theorem ok_src {one : Str} (h : goodName (tl one) = true) : OkP (srcP one) :=
  ⟨h, kd_fit3 (by decide) (by decide), ⟨(by decide : (0 : Int) ≤ 0), (by decide : (0 : Int) ≤ 1000), fun _ => rfl⟩, fun g hg => (by cases hg), rfl⟩
theorem ring_twice (h : LawOk most mark ls) (hm : most ≤ 40) (hn : n ≤ 5) : SmallT (Txt.join "\n" (ringRows n ls ++ [shownRow (srcP (nameAt ls 0))])) ∧ Verd (Txt.join "\n" (ringRows n ls ++ [shownRow (srcP (nameAt ls 0))])) (.bad (ringRows n ls).length) := by
  have o := ok_src (h.good1 (by omega))
  obtain ⟨s, e⟩ := ring_small h hm hn (more := [shownRow (srcP (nameAt ls 0))]) (fun r hr => by rw [List.mem_singleton.mp hr]; exact o.row) (by simp)
  have hlen := h.len hm
  have := verd_bad (pre := []) (rest := []) (bad := shownRow (srcP (nameAt ls 0))) e (fun r hr => by cases hr) (TellsL.map fun p hp => (ring_okp h hm hn p hp).tells) (ring_nodup h hm hn) (by rw [List.length_append, ring_len]; omega) (words_ne o.tells) (.inr ⟨_, o.tells, by
    obtain ⟨r, hr, er, _⟩ := h.one
    exact List.mem_map.mpr ⟨r, List.mem_append_right _ hr, er⟩⟩)
  rw [List.length_nil, Nat.zero_add] at this
  exact ⟨s, this⟩
theorem fine_verd (h : LawOk most mark ls) (hm : most ≤ 40) : SmallT (Txt.join "\n" ((worksOf ls).map shownRow)) ∧ Verd (Txt.join "\n" ((worksOf ls).map shownRow)) .fine := by
  have g := h.good (by omega : most ≤ 59)
  have hlen := h.len hm
  obtain ⟨s, e⟩ := small_join (rows := (worksOf ls).map shownRow) (fun z => g.ne (List.map_eq_nil_iff.mp z)) (fun r hr => by
    obtain ⟨q, hq, rfl⟩ := List.mem_map.mp hr
    exact (g.okp hq).row) (by rw [List.length_map]; omega)
  exact ⟨s, verd_fed e (TellsL.map fun p hp => (g.okp hp).tells) g.wf.nd (by omega) g.ne (fun q hq f hf => unfed_iff.mpr (g.fed q hq f hf)) (fun _ => rfl) fun z => absurd g.wf.ac z⟩
end
/-! many parts -/
def bName (k : Nat) : Str := "b" ++ Str.ofString (toString (k : Int))
def bP (n : Str) : Pd := ⟨n, ⟨.snk, 0⟩, 0, [("a", 0)]⟩
def aPs : List Pd := srcP "a" :: (List.range 59).map fun k => bP (bName k)
theorem good_a : goodName (tl "a") = true := by decide +kernel
theorem good_b : ∀ k < 59, goodName (tl (bName k)) = true := by decide +kernel
theorem ok_b {n : Str} (h : goodName (tl n) = true) : OkP (bP n) :=
  ⟨h, kd_fit3 (by decide) (by decide), ⟨(by decide : (0 : Int) ≤ 0), (by decide : (0 : Int) ≤ 1000), fun _ => rfl⟩, fun g hg => by rw [List.mem_singleton.mp hg]; exact ⟨good_a, (by decide : (0 : Int) ≤ 0), (by decide : (0 : Int) ≤ 100)⟩, rfl⟩
theorem a_okp : ∀ q ∈ aPs, OkP q := fun q hq => by
  rcases List.mem_cons.mp hq with rfl | hq
  · exact ok_src good_a
  · obtain ⟨k, hk, rfl⟩ := List.mem_map.mp hq
    exact ok_b (good_b k (List.mem_range.mp hk))
theorem a_names : (aPs.map Pd.name).Nodup ∧ ("c" : Str) ∉ aPs.map Pd.name := by decide +kernel
theorem a_len : aPs.length = 60 := rfl
theorem a_fed : ∀ q ∈ aPs, ∀ f ∈ q.feeds, unfed aPs f = false := fun q hq f hf => by
  rcases List.mem_cons.mp hq with rfl | hq
  · cases hf
  · obtain ⟨k, hk, rfl⟩ := List.mem_map.mp hq
    rw [List.mem_singleton.mp hf]
    exact unfed_iff.mpr ⟨srcP "a", List.mem_cons_self .., rfl, by show Kc.src ≠ .snk; decide⟩
theorem a_noring : NoRing aPs := ⟨fun n => if n = "a" then 0 else 1, fun q hq f hf h0 => by
  rcases List.mem_cons.mp hq with rfl | hq
  · cases hf
  · obtain ⟨k, hk, rfl⟩ := List.mem_map.mp hq
    rw [List.mem_singleton.mp hf]
    have hne : bName k ≠ "a" := (by decide +kernel : ∀ k < 59, bName k ≠ "a") k (List.mem_range.mp hk)
    show (if ("a" : Str) = "a" then 0 else 1) < (if bName k = "a" then 0 else 1)
    rw [if_pos rfl, if_neg hne]
    exact Nat.zero_lt_one⟩
theorem a_small {more : List Str} (hmore : ∀ r ∈ more, r.length ≤ 600 ∧ 10 ∉ tl r) (hl : more.length ≤ 5) :
    SmallT (Txt.join "\n" (aPs.map shownRow ++ more)) ∧ rowsOf (Txt.join "\n" (aPs.map shownRow ++ more)) = aPs.map shownRow ++ more := by
  refine small_join (by unfold aPs; simp) (fun r hr => ?_) (by rw [List.length_append, List.length_map, a_len]; omega)
  rcases List.mem_append.mp hr with hr | hr
  · obtain ⟨q, hq, rfl⟩ := List.mem_map.mp hr
    exact (a_okp q hq).row
  · exact hmore r hr
theorem a_tells : TellsL (aPs.map shownRow) aPs := TellsL.map fun p hp => (a_okp p hp).tells
theorem a_fine : SmallT (Txt.join "\n" (aPs.map shownRow)) ∧ Verd (Txt.join "\n" (aPs.map shownRow)) .fine := by
  obtain ⟨s, e⟩ := a_small (more := []) (fun r hr => by cases hr) (Nat.zero_le _)
  rw [List.append_nil] at s e
  exact ⟨s, verd_fed e a_tells a_names.1 (Nat.le_of_eq a_len) (List.cons_ne_nil _ _) a_fed (fun _ => rfl) fun z => absurd a_noring z⟩
theorem many_verd {text : Str} {rows rest : List Str} {blank row : Str} {ps : List Pd} {p : Pd} (e : rowsOf text = rows ++ blank :: row :: rest) (h : TellsL rows ps) (hn : (ps.map Pd.name).Nodup) (hl : ps.length = 60) (hb : wordsOf blank = []) (hp : partOf (wordsOf row) = some p) (hno : p.name ∉ ps.map Pd.name) : Verd text .many := by
  have hs : scan (rowsOf text) 0 [] = .inl .many := by
    rw [e, scan_told (acc := []) h hn (by rw [List.length_nil, Nat.zero_add]; exact Nat.le_of_eq hl), scan_cons, if_pos hb, scan_cons, if_neg (words_ne hp), hp]
    dsimp only
    rw [if_neg (by rw [List.nil_append, acc_names, placed_snd]; exact hno), if_pos (by rw [List.nil_append, placed_len]; exact hl)]
  unfold Verd
  rw [hs]
theorem a_many : SmallT (Txt.join "\n" (aPs.map shownRow ++ [("" : Str), shownRow (bP "c"), ("b1" : Str)])) ∧ Verd (Txt.join "\n" (aPs.map shownRow ++ [("" : Str), shownRow (bP "c"), ("b1" : Str)])) .many := by
  have oc : OkP (bP "c") := ok_b (by decide +kernel)
  obtain ⟨s, e⟩ := a_small (more := ([("" : Str), shownRow (bP "c"), ("b1" : Str)] : List Str)) (fun r hr => by
    rcases List.mem_cons.mp hr with rfl | hr
    · exact (by decide +kernel : ("" : Str).length ≤ 600 ∧ 10 ∉ tl ("" : Str))
    · rcases List.mem_cons.mp hr with rfl | hr
      · exact oc.row
      · rw [List.mem_singleton.mp hr]
        exact (by decide +kernel : ("b1" : Str).length ≤ 600 ∧ 10 ∉ tl ("b1" : Str))) (by simp)
  exact ⟨s, many_verd e a_tells a_names.1 a_len (words_blank (a := 0) (by decide +kernel)) oc.tells a_names.2⟩
theorem a_bad : SmallT (Txt.join "\n" (aPs.map shownRow ++ [("c out 0" : Str)])) ∧ Verd (Txt.join "\n" (aPs.map shownRow ++ [("c out 0" : Str)])) (.bad 60) := by
  obtain ⟨s, e⟩ := a_small (more := [("c out 0" : Str)]) (fun r hr => by
    rw [List.mem_singleton.mp hr]
    exact (by decide +kernel : ("c out 0" : Str).length ≤ 600 ∧ 10 ∉ tl ("c out 0" : Str))) (by simp)
  have hw : wordsOf "c out 0" = [("c" : Str), "out", "0"] := words_of_row (a := 0) (g := 0) (t := 0) (by decide +kernel) (by simp) (by decide +kernel)
  have := verd_bad (pre := []) (rest := []) (bad := "c out 0") e (fun r hr => by cases hr) a_tells a_names.1 (Nat.le_of_eq a_len) (by rw [hw]; simp) (.inl (by rw [hw]; decide +kernel))
  exact ⟨s, this⟩
theorem none_many : SmallT " \n\n" ∧ Verd " \n\n" .many := by
  have hr : ∀ r ∈ ([" ", "", ""] : List Str), wordsOf r = [] ∧ r.length ≤ 600 ∧ 10 ∉ tl r := fun r hr => by
    rcases List.mem_cons.mp hr with rfl | hr
    · exact ⟨words_blank (a := 1) (by decide +kernel), by decide +kernel⟩
    · have : r = "" := by simpa using hr
      rw [this]
      exact ⟨words_blank (a := 0) (by decide +kernel), by decide +kernel⟩
  obtain ⟨s, e⟩ := small_join (rows := [(" " : Str), "", ""]) (by simp) (fun r h => (hr r h).2) (by simp)
  have ej : Txt.join "\n" [(" " : Str), "", ""] = " \n\n" := by decide +kernel
  rw [ej] at s e
  refine ⟨s, ?_⟩
  have hs : scan (rowsOf " \n\n") 0 [] = .inr [] := by
    have := scan_blank (pre := [(" " : Str), "", ""]) (rest := []) (i := 0) (acc := []) fun r h => (hr r h).1
    rw [e]
    exact this
  unfold Verd
  rw [hs]
  dsimp only
  rw [if_pos rfl]
end SW


/-! ### a layer that carries a bound below which a text's token lies -/
namespace SW
open PySem PySem.Spec PyProof.Rows L2 He
abbrev VKN := Value → V → Hp → Nat → Prop
abbrev TEN := L2.St → Hp → Nat → VKN → Prop
abbrev TAN := L2.St → Hp → Nat → (List Value → List V → Hp → Nat → Prop) → Prop
structure EndsN where
  nx : L2.St → Hp → Nat → Prop
  rt : VKN
abbrev TSN := EndsN → L2.St → Hp → Nat → Prop
def EPN (X : Cx) (pins : List (Addr × Obj)) (σ : L2.St) (Q : VKN) (u : Value) (s' : Shared) : Prop := ∃ v H' n, n ≤ s'.toks ∧ Inv X pins σ H' s' ∧ RelV v u ∧ Q u v H' n
def APN (X : Cx) (pins : List (Addr × Obj)) (σ : L2.St) (Q : List Value → List V → Hp → Nat → Prop) (us : List Value) (s' : Shared) : Prop := ∃ vs H' n, n ≤ s'.toks ∧ Inv X pins σ H' s' ∧ Vals vs us ∧ Q us vs H' n
def SPN (X : Cx) (pins : List (Addr × Obj)) (D : EndsN) (f : Flow) (s' : Shared) : Prop :=
  match f with
  | .next => ∃ σ' H' n, n ≤ s'.toks ∧ Inv X pins σ' H' s' ∧ D.nx σ' H' n
  | .brk => False
  | .cont => False
  | .ret u => ∃ v σ' H' n, n ≤ s'.toks ∧ Inv X pins σ' H' s' ∧ RelV v u ∧ D.rt u v H' n
structure PEN (X : Cx) (e : Expr) (t : TEN) : Prop where
  run : ∀ (pins : List (Addr × Obj)) (s : Shared) (σ : L2.St) (H : Hp) (n : Nat) (Q : VKN), n ≤ s.toks → Inv X pins σ H s → t σ H n Q → wpAny (model X.prog X.w) X.A (eval e X.env) (EPN X pins σ Q) X.xe s
structure PAN (X : Cx) (es : List Expr) (t : TAN) : Prop where
  run : ∀ (pos : Pos) (pins : List (Addr × Obj)) (s : Shared) (σ : L2.St) (H : Hp) (n : Nat) (Q : List Value → List V → Hp → Nat → Prop), n ≤ s.toks → Inv X pins σ H s → t σ H n Q → wpAny (model X.prog X.w) X.A (spliced (backTo pos (starEach es X.env))) (APN X pins σ Q) X.xe s
structure PSN (X : Cx) (st : Stmt) (t : TSN) : Prop where
  run : ∀ (pins : List (Addr × Obj)) (s : Shared) (σ : L2.St) (H : Hp) (n : Nat) (D : EndsN), n ≤ s.toks → Inv X pins σ H s → t D σ H n → wpAny (model X.prog X.w) X.A (exec st X.env) (SPN X pins D) X.xe s
structure PSsN (X : Cx) (st : List Stmt) (t : TSN) : Prop where
  run : ∀ (pins : List (Addr × Obj)) (s : Shared) (σ : L2.St) (H : Hp) (n : Nat) (D : EndsN), n ≤ s.toks → Inv X pins σ H s → t D σ H n → wpAny (model X.prog X.w) X.A (execs st X.env) (SPN X pins D) X.xe s
theorem thnT {α : Type} {t : Sem α} {Q Q' : α → Shared → Prop} {M : Model} {A : Around} {E : Value → Shared → Prop} {s : Shared} {n : Nat} (hn : n ≤ s.toks) (h : wpAny M A t Q E s) (hQ : ∀ a s', n ≤ s'.toks → Q a s' → Q' a s') : wpAny M A t Q' E s :=
  wpAny_mono (PySem.wpAny_toks_of hn h) (fun a s' z => hQ a s' z.1 z.2) fun _ _ z => z.2
def nS (t : TS) : TSN := fun D σ H n => t { nx := fun σ H => D.nx σ H n, rt := fun v H => ∀ u, RelV v u → D.rt u v H n } σ H
def nSeq (t u : TSN) : TSN := fun D σ H n => t { D with nx := u D } σ H n
def nCut (t u : TSN) : TSN := fun D σ H n => ∃ Mid : L2.St → Hp → Nat → Prop, t { D with nx := Mid } σ H n ∧ ∀ σ' H' n', Mid σ' H' n' → u D σ' H' n'
def nNext : TSN := fun D σ H n => D.nx σ H n
def nE (te : TE) : TEN := fun σ H n Q => te σ H fun v H1 => ∀ u, RelV v u → Q u v H1 n
def nSet (te : TEN) (i : Nat) : TSN := fun D σ H n => te σ H n fun _ v H1 n1 => D.nx (σ.set i (some v)) H1 n1
def nRet (te : TEN) : TSN := fun D σ H n => te σ H n D.rt
def nNil : TAN := fun _ H n Q => Q [] [] H n
def nCons (te : TEN) (ta : TAN) : TAN := fun σ H n Q => te σ H n fun u x H1 n1 => ta σ H1 n1 fun us xs H2 n2 => Q (u :: us) (x :: xs) H2 n2
def nFor (wi : TI) (g : TG) (tb : TSN) : TSN := fun D σ H n => wi σ H fun J H1 => ∃ W : Nat → Nat → L2.St → Hp → Nat → Prop, (∃ m, W 0 m σ H1 n) ∧ ∀ i m σ H n, W i m σ H n →
  (J.stop i H ∧ D.nx σ H n) ∨ (J.go i H ∧ ∃ N : L2.St → Hp → Nat → Prop, (∀ σ' H' n', N σ' H' n' → ∃ m', m' < m ∧ W (i + 1) m' σ' H' n') ∧ ∀ x H', J.yld i H x H' → g x σ H' fun σ2 H2 => tb { D with nx := N } σ2 H2 n)
section
variable {X : Cx} {st : Stmt} {rest : List Stmt} {t u : TSN} {e : Expr} {es : List Expr} {te : TEN} {pos : Pos}
theorem psn_of {t : TS} (h : PS X st t) : PSN X st (nS t) := ⟨fun pins s σ H n D hn I q => thnT hn (h.run pins s σ H _ I q) fun f s1 hn1 z => by
  cases f with
  | next =>
    obtain ⟨σ', H', I', q⟩ := z
    exact ⟨σ', H', n, hn1, I', q⟩
  | brk =>
    obtain ⟨_, _, _, q⟩ := z
    exact q
  | cont =>
    obtain ⟨_, _, _, q⟩ := z
    exact q
  | ret u =>
    obtain ⟨v, σ', H', I', r, q⟩ := z
    exact ⟨v, σ', H', n, hn1, I', r, q u r⟩⟩
theorem pen_of {te : TE} (h : PE X e te) : PEN X e (nE te) := ⟨fun pins s σ H n Q hn I q => thnT hn (h.run pins s σ H _ I q) fun u s1 hn1 ⟨v, H', I', r, q⟩ => ⟨v, H', n, hn1, I', r, q u r⟩⟩
theorem pssn_cons (h1 : PSN X st t) (h2 : PSsN X rest u) : PSsN X (st :: rest) (nSeq t u) := by
  refine ⟨fun pins s σ H n D hn I h => ?_⟩
  refine wpAny_execs_cons (thn (h1.run pins s σ H n { D with nx := u D } hn I h) fun f s1 q => ?_)
  cases f with
  | next =>
    obtain ⟨σ', H', n', hn', I', q⟩ := q
    exact h2.run pins s1 σ' H' n' D hn' I' q
  | ret v => exact q
  | brk => exact q
  | cont => exact q
theorem pssn_cut (h1 : PSN X st t) (h2 : PSsN X rest u) : PSsN X (st :: rest) (nCut t u) := by
  refine ⟨fun pins s σ H n D hn I h => ?_⟩
  obtain ⟨Mid, hm, hu⟩ := h
  refine wpAny_execs_cons (thn (h1.run pins s σ H n { D with nx := Mid } hn I hm) fun f s1 q => ?_)
  cases f with
  | next =>
    obtain ⟨σ', H', n', hn', I', q⟩ := q
    exact h2.run pins s1 σ' H' n' D hn' I' (hu σ' H' n' q)
  | ret v => exact q
  | brk => exact q
  | cont => exact q
theorem pssn_nil : PSsN X [] nNext := ⟨fun pins s σ H n D hn I h => wpAny_execs_nil ⟨σ, H, n, hn, I, h⟩⟩
theorem pssn_one (h1 : PSN X st t) : PSsN X [st] t := by
  refine ⟨fun pins s σ H n D hn I h => ?_⟩
  exact (pssn_cons h1 pssn_nil).run pins s σ H n D hn I h
theorem pss_ofN (h : PSsN X rest t) : PSs X rest (fun D σ H => t ⟨fun σ H _ => D.nx σ H, fun _ v H _ => D.rt v H⟩ σ H 0) := ⟨fun pins s σ H D I q => thn (h.run pins s σ H 0 _ (Nat.zero_le _) I q) fun f s1 z => by
  cases f with
  | next =>
    obtain ⟨σ', H', n, _, I', q⟩ := z
    exact ⟨σ', H', I', q⟩
  | brk => exact False.elim z
  | cont => exact False.elim z
  | ret u =>
    obtain ⟨v, σ', H', n, _, I', r, q⟩ := z
    exact ⟨v, σ', H', I', r, q⟩⟩
theorem psn_set {i : Nat} {x : Str} {pos' : Pos} (hN : X.N.Nodup) (hi : X.N[i]? = some x) (hx : Loc X.env.scope x) (he : PEN X e te) (hs : swapsWith e (some (.Name x pos')) pos.line X.env = pure false := by rfl) (hf : X.fn x = true ∨ X.env.scope.names.lookup x = some .local := by first | exact .inl rfl | exact .inr rfl | assumption) :
    PSN X (.Assign [.Name x pos'] e pos) (nSet te i) := by
  refine ⟨fun pins s σ H n D hn I h => ?_⟩
  refine wpAny_Assign_Name (thn (he.run pins s σ H n _ hn I h) fun v s1 ⟨y, H1, n1, hn1, I1, r1, q1⟩ => ?_) hs
  exact thnT hn1 (store_ok (Q := fun _ s2 => Inv X pins (σ.set i (some y)) H1 s2) I1 hN hi hx r1 (fun s2 I2 => I2) hf) fun _ s2 h2 I2 => ⟨_, H1, n1, h2, I2, q1⟩
theorem psn_ret (he : PEN X e te) : PSN X (.Return (some e) pos) (nRet te) := ⟨fun pins s σ H n D hn I h => wpAny_Return_some (thn (he.run pins s σ H n _ hn I h) fun v s1 ⟨x, H1, n1, hn1, I1, r1, q1⟩ => ⟨x, σ, H1, n1, hn1, I1, r1, q1⟩)⟩
theorem pan_nil : PAN X [] nNil := ⟨fun _ _ _ _ H n Q hn I h => Calls.spliced_nil ⟨[], H, n, hn, I, .nil, h⟩⟩
theorem pan_cons {ta : TAN} (ha : PEN X e te) (hr : PAN X es ta) (hs : starEach (e :: es) X.env = (false, eval e X.env) :: starEach es X.env := by rfl) : PAN X (e :: es) (nCons te ta) := by
  refine ⟨fun pos pins s σ H n Q hn I h => ?_⟩
  rw [hs]
  show wpAny _ _ (spliced ((false, eval e X.env) :: backTo pos (starEach es X.env))) _ _ s
  refine Calls.spliced_cons (thn (ha.run pins s σ H n _ hn I h) fun v s1 ⟨x, H1, n1, hn1, I1, r1, q1⟩ => ?_)
  exact thn (hr.run pos pins s1 σ H1 n1 _ hn1 I1 q1) fun us s2 ⟨xs, H2, n2, hn2, I2, r2, q2⟩ => ⟨x :: xs, H2, n2, hn2, I2, .cons r1 r2, q2⟩
theorem psn_for {tg iter : Expr} {body : List Stmt} {wi : TI} {g : TG} {tb : TSN} {pos : Pos} (hp : PassesOwn (model X.prog X.w) X.A X.env X.xe) (hc : X.calm = true) (hi : PI X tg iter wi) (hg : PG X tg g) (hb : PSsN X body tb)
    (hs : ∀ x, foldedSetIterable iter X.env x = pure x := by intro _; rfl) : PSN X (.For tg iter body [] pos) (nFor wi g tb) := by
  refine ⟨fun pins s σ H n D hn I h => ?_⟩
  refine wpAny_For (thnT hn (hi.run pins s σ H _ I h) fun v s1 hn1 h1 => thnT hn1 h1 fun itv s2 hn2 h2 => ?_) hs
  obtain ⟨it, fp, tn, J, H2, e, I2, T, st2, f2, W, ⟨m0, w0⟩, turn⟩ := h2
  subst e
  have stat : ∀ {H' : Hp}, (∀ b ∈ fp, H' b = none) → ∀ b ∈ fp, FpOk X pins H' b := fun hn b hb => ⟨hn b hb, (f2 b hb).2⟩
  refine codeAny_forLoop_any (fun k s' => ∃ i σ' H' n', n' ≤ s'.toks ∧ Inv X pins σ' H' s' ∧ tn i s'.heap ∧ (∀ b ∈ fp, H' b = none) ∧ W i k σ' H' n') ?_ m0 ⟨0, σ, H2, n, hn2, I2, st2, fun b hb => (f2 b hb).1, w0⟩
  rintro k s3 ⟨i, σ3, H3, n3, hn3, I3, st3, fr3, w3⟩
  rcases turn i k σ3 H3 n3 w3 with ⟨stop, qn⟩ | ⟨go, N, hN, step⟩
  · refine wpAny_passesOwn hp (thnT hn3 (T.done X rfl rfl rfl hc i pins s3 σ3 H3 X.xe I3 (stat fr3) st3 stop) fun r s4 hn4 ⟨hr, I4⟩ => ?_)
    subst hr
    exact wpAny_execs_nil ⟨σ3, H3, n3, hn4, I4, qn⟩
  · refine wpAny_passesOwn hp (thnT hn3 (T.item X rfl rfl rfl hc i pins s3 σ3 H3 X.xe I3 (stat fr3) st3 go) fun r s4 hn4 ⟨u, hr, h4⟩ => ?_)
    subst hr
    refine wpAny_passesOwn hp (thnT hn4 h4 fun _ s5 hn5 ⟨x, H5, I5, r5, y5, st5, fr5⟩ => ?_)
    have I5' := I5.pinned (stat fr5) (T.obj _ _ st5)
    refine wpAny_passesOwn hp (thnT hn5 (hg.run _ s5 σ3 H5 x u _ I5' r5 (step x H5 y5)) fun _ s6 hn6 ⟨σ6, H6, I6, q6⟩ => ?_)
    refine wpAny_passesOwn hp (thn (hb.run _ s6 σ6 H6 n3 _ hn6 I6 q6) fun f s7 q7 => ?_)
    cases f with
    | next =>
      obtain ⟨σ7, H7, n7, hn7, I7, nn⟩ := q7
      obtain ⟨m', hm, w7⟩ := hN σ7 H7 n7 nn
      refine ⟨m', hm, i + 1, σ7, H7, n7, hn7, I7.unpinned, T.keep _ _ _ st5 fun b hb o e => (I7.pin (b, o) (List.mem_append_right _ (List.mem_append_right _ (mem_pinsAt hb e)))).1, fun b hb => ?_, w7⟩
      obtain ⟨o, e, d⟩ := T.obj _ _ st5 b hb
      exact (I7.pin (b, o) (List.mem_append_right _ (List.mem_append_right _ (mem_pinsAt hb e)))).2.1
    | cont => exact False.elim q7
    | brk => exact False.elim q7
    | ret v =>
      obtain ⟨x7, σ7, H7, n7, hn7, I7, r7, q7⟩ := q7
      exact ⟨x7, σ7, H7, n7, hn7, I7.unpinned, r7, q7⟩
end
theorem for_rangeN {lo : Int} {n : Nat} {g : TG} {tb : TSN} {D : EndsN} {σ : L2.St} {H : Hp} {b : Nat} (Pv : Nat → L2.St → Hp → Nat → Prop) (h0 : Pv 0 σ H b)
    (hs : ∀ i σ H b, i < n → Pv i σ H b → g (.int (lo + i)) σ H fun σ2 H2 => tb { D with nx := Pv (i + 1) } σ2 H2 b) (hd : ∀ σ H b, Pv n σ H b → D.nx σ H b) :
    ∃ W : Nat → Nat → L2.St → Hp → Nat → Prop, (∃ m, W 0 m σ H b) ∧ ∀ i m σ H b, W i m σ H b →
      ((Itr lo n).stop i H ∧ D.nx σ H b) ∨ ((Itr lo n).go i H ∧ ∃ N : L2.St → Hp → Nat → Prop, (∀ σ' H' b', N σ' H' b' → ∃ m', m' < m ∧ W (i + 1) m' σ' H' b') ∧ ∀ x H', (Itr lo n).yld i H x H' → g x σ H' fun σ2 H2 => tb { D with nx := N } σ2 H2 b) := by
  refine ⟨fun i m σ H b => m = n - i ∧ i ≤ n ∧ Pv i σ H b, ⟨n, by simp, Nat.zero_le _, h0⟩, ?_⟩
  rintro i m σ H b ⟨rfl, hi, p⟩
  by_cases hlt : i < n
  · refine .inr ⟨hlt, Pv (i + 1), fun σ' H' b' p' => ⟨n - (i + 1), by omega, rfl, hlt, p'⟩, fun x H' y => ?_⟩
    obtain ⟨e, y⟩ := y
    subst e y
    exact hs i σ _ b hlt p
  · have e : i = n := by omega
    subst e
    exact .inl ⟨Nat.le_refl _, hd σ H b p⟩
/-! ### a def's promise -/
abbrev SpN := List Value → List V → Hp → Nat → VKN → Prop
def CRN (outer : List Env) (P : Program) (w : World) (H : Hp) (s : Shared) (Q : VKN) (r : Result) (s' : Shared) : Prop :=
  match r with
  | .ok (.ret u) => ∃ v H' n, n ≤ s'.toks ∧ s'.os = s.os ∧ AllBare s'.gens ∧ Un (frs outer) [] H H' s.heap s'.heap ∧ HOk P w H' s'.heap ∧ RelV v u ∧ Q u v H' n
  | .ok _ => False
  | .error _ => False
structure FnOkN (P : Program) (w : World) (K : PySem.W.Frag) (mg : Str → Option Value) (base : Heap) (k : Nat) (f : Addr) (fd : FuncData) (ps : List Str) (sp : SpN) : Prop where
  len : ∀ us vs H n Q, sp us vs H n Q → vs.length = ps.length
  run : ∀ (A : Around) (outer : List Env) (s : Shared) (H : Hp) (args : Args) (us : List Value) (vs : List V) (n : Nat) (Q : VKN), Room k A → Env0 P w K mg base A outer s H → BindsTo s fd args (ps.zip us) → Vals vs us → n ≤ s.toks → sp us vs H n Q →
    codeAny (model P w) A (.call (.ref f) args) (CRN outer P w H s Q) s
structure OkN (P : Program) (w : World) (K : PySem.W.Frag) (mg : Str → Option Value) (base : Heap) (k : Nat) (f : Addr) (ps : List Str) (sp : SpN) : Prop where
  ex : ∃ fd, FnOkN P w K mg base k f fd ps sp ∧ Binds K fd ps []
  kp : PySem.W.keepIn K (.ref f) = true
def nCall (sp : SpN) (t : TAN) : TEN := fun σ H n Q => t σ H n fun us vs H1 n1 => sp us vs H1 n1 Q
section
variable {X : Cx} {k : Nat} {f : Addr} {ps : List Str} {sp : SpN} {x : Str} {p pos : Pos} {e : Expr} {es : List Expr} {t : TAN}
theorem FnOkN.mono {P : Program} {w : World} {K : PySem.W.Frag} {mg : Str → Option Value} {base : Heap} {j k : Nat} {f : Addr} {fd : FuncData} {ps : List Str} (F : FnOkN P w K mg base j f fd ps sp) (h : j ≤ k) : FnOkN P w K mg base k f fd ps sp :=
  ⟨F.len, fun A outer s H args us vs n Q hr => F.run A outer s H args us vs n Q (hr.mono h)⟩
theorem pen_callO (G : OkN X.prog X.w X.K X.mg X.base k f ps sp) (hr : Room k X.A) (hm : X.mg x = some (.ref f)) (ha : PAN X (e :: es) t) (hg : Gl X x := by rfl)
    (hdb : (x == ("__debug__" : Str)) = false := by decide) (he : starEach (e :: es) X.env = (false, eval e X.env) :: starEach es X.env := by rfl) (hpl : (backTo pos (starEach es X.env)).any (·.1) = false := by rfl) :
    PEN X (.Call (.Name x p) (e :: es) [] pos) (nCall sp t) := by
  obtain ⟨⟨fd, F, b⟩, kp⟩ := G
  refine ⟨fun pins s σ H n Q hn I h => ?_⟩
  refine wpAny_Call_Name_kw (ld_glob I hg hm ?_ hdb)
  refine PySem.W.callWith_K (h₀ := X.base) I.ok.mod.kin kp (thn (ha.run pos pins s σ H n _ hn I h) fun us s1 ⟨vs, H1, n1, hn1, I1, r, q⟩ => ⟨I1.kIn, ?_⟩) he hpl
  have hl : (us ++ []).length = ps.length := by rw [List.append_nil, ← r.length]; exact F.len _ _ _ _ _ q
  have hb := b s1 us I1.kIn hl
  rw [List.append_nil] at hb
  refine wpAny_call (codeAny_mono (F.run X.A X.stack s1 H1 ⟨us, []⟩ us vs n1 Q hr I1.env0 hb r hn1 q) fun r s' hq => ?_)
  cases r with
  | error e => exact False.elim hq
  | ok fl =>
    cases fl with
    | ret u =>
      obtain ⟨v, H', n', hn', os, bare, un, hok, r, q⟩ := hq
      obtain ⟨hh, g, d, t, os'⟩ := s'
      obtain rfl : os' = s1.os := os
      exact ⟨v, H', n', hn', I1.call (h' := hh) (g' := g) (d' := d) (t' := t) (ch := []) un hok bare (fun b z => absurd z (by simp)), r, q⟩
    | next => exact False.elim hq
    | brk => exact False.elim hq
    | cont => exact False.elim hq
end
section
variable {P : Program} {w : World} {K : PySem.W.Frag} {mg : Str → Option Value} {base : Heap} {k : Nat} {f : Addr} {ps N : List Str} {sp : SpN} {x qual : Str} {params : Arguments} {body : List Stmt} {scope : Scope}
theorem mkOkN (F : ∃ fd, FunD K x qual params body scope [] [] f fd) (S : FnScope N ps scope)
    (hb : ∀ (kV doc pm : Value) (an : Option Addr) (cdv ct : Value) (us : List Value), us.length = ps.length → bindArgs (PySem.W.fnOf x qual params body scope .none kV doc pm an cdv ct) ⟨us, []⟩ = pure (ps.zip us))
    (len : ∀ us vs H n Q, sp us vs H n Q → vs.length = ps.length)
    (hbody : ∀ (cdv : Value) (A : Around) (outer : List Env) (s : Shared) (H : Hp) (us : List Value) (vs : List V) (n : Nat) (Q : VKN), Room k (A.deeper (envOfC qual scope s.heap.objs.size f cdv)) → sp us vs H n Q →
      ∃ t, PSsN (cxOf CX0 P w K mg base N qual scope f cdv A outer s H E0).nox body t ∧ t { nx := fun _ H' n' => Q .none .non H' n', rt := Q } (start N vs) H 0) : OkN P w K mg base (k + 1) f ps sp := by
  obtain ⟨fd, F⟩ := F
  refine ⟨⟨fd, ?_, F.bindsN hb⟩, F.kp⟩
  obtain ⟨oc, od, dV, kV, doc, pm, an, cdv, ct, osl, rfl, lk, hcd, _, _⟩ := F.ex
  refine ⟨len, fun A outer s H args us vs n Q hr e0 hbi r hn hsp => ?_⟩
  have hl := len _ _ _ _ _ hsp
  have KX : K.In s.heap := e0.mod.kin.keeps fun b o e => (e0.bs b o e).1
  have lim : s.heap.NoLimit := e0.mod.nolimit.keeps fun b o e => (e0.bs b o e).1
  have hkind : ∀ y ∈ ps.zip us, scope.names.lookup y.1 = some .local ∨ (scope.names.lookup y.1 = some .cell ∧ ((cellsFrom (s.heap.objs.size + 1) scope.names []).lookup y.1).isSome = true) := fun ⟨n, v⟩ hy => by
    rcases S.par n (List.of_mem_zip hy).1 with q | q
    · exact .inl q
    · exact .inr ⟨q, PySem.W.cellsFrom_some _ _ _ (.inl q)⟩
  refine codeAny_call_function hr.depth (KX _ _ lk) rfl S.co S.gen rfl (PySem.W.codeRec_of KX hcd) (hbi _ _ _ _ ?_)
  refine wpAny_newFunctionEnv_cells S.kind hkind fun env he s1 x => ?_
  subst he
  refine ⟨lim.keeps x.toInCall.keep, codeAny_func ?_⟩
  obtain ⟨t, ht, hq⟩ := hbody cdv A outer s H us vs n Q (hr.deeper _) hsp
  have I : Inv (cxOf CX0 P w K mg base N qual scope f cdv A outer s H E0).nox [] (start N vs) H s1 := (inv_start S hr.hd e0 hl r x).wish _
  refine wpAny_mono (ht.run [] s1 (start N vs) H 0 _ (Nat.zero_le _) I hq) (fun fl s' hs => ?_) fun e s' hs => False.elim hs
  have fin : ∀ {σ' : L2.St} {H' : Hp} {v : V} {u : Value} {n' : Nat}, n' ≤ s'.toks → Inv (cxOf CX0 P w K mg base N qual scope f cdv A outer s H E0).nox [] σ' H' s' → RelV v u → Q u v H' n' → CRN outer P w H s Q (.ok (.ret u)) s' :=
    fun {σ' H' v u n'} hn' J rv q => ⟨v, H', n', hn', J.os, J.bare, J.base, J.hok, rv, q⟩
  cases fl with
  | ret u =>
    obtain ⟨v, σ', H', n', hn', J, rv, q⟩ := hs
    exact fin hn' J rv q
  | next =>
    obtain ⟨σ', H', n', hn', J, q⟩ := hs
    exact fin (v := V.non) (u := Value.none) hn' J rfl q
  | brk => exact False.elim hs
  | cont => exact False.elim hs
end
end SW


/-! ### texts with their tokens: joined, in a tuple, out of it -/
namespace SW
open PySem PySem.Spec PyProof.Rows L2 He TL
theorem app_len0 {i j : Str} (h : j.length = 0) : i ++ j = i := ext_tl (by
  rw [tl_append]
  have : tl j = [] := List.eq_nil_of_length_eq_zero (by rw [← len_tl]; exact h)
  rw [this, List.append_nil])
def nCatF (ta tb : TE) : TEN := fun σ H n Q => ta σ H fun x H1 => tb σ H1 fun y H2 => ∃ i j : Str, x = .str i ∧ y = .str j ∧ i.length ≠ 0 ∧ j.length ≠ 0 ∧ i.length + j.length ≤ sizeLine ∧ 0 < n ∧ ∀ t n', n ≤ n' → t ≠ 0 → t < n' → Q (.str (i ++ j) t) (.str (i ++ j)) H2 n'
def nCatT (ta : TEN) (tb : TE) : TEN := fun σ H n Q => ta σ H n fun u x H1 n1 => tb σ H1 fun y H2 => ∃ (i j : Str) (t : Tok), u = .str i t ∧ x = .str i ∧ t ≠ 0 ∧ t < n1 ∧ y = .str j ∧ i.length ≠ 0 ∧ i.length + j.length ≤ sizeLine ∧ ∀ t' n', n1 ≤ n' → t' ≠ 0 → t' < n' → Q (.str (i ++ j) t') (.str (i ++ j)) H2 n'
def nTup (ta : TAN) : TEN := fun σ H n Q => ta σ H n fun us xs H1 n1 => xs.length ≤ sizeLine ∧ ∀ (p : Addr) (o : Obj), H1 p = none → o.cls = .type "tuple" → (∃ m, o.data = .seq us.toArray m) → Q (.ref p) (.ref p) (upd H1 p (.frz o (.tup xs))) n1
def nBM (K : PySem.W.Frag) (T : String) (r : V → List V → Hp → VK → Prop) (to : TE) (t : TAN) : TEN := fun σ H n Q => to σ H fun x H1 => tyV K T x H1 ∧ t σ H1 n fun _ xs H2 n2 => r x xs H2 fun v H3 => ∀ u, RelV v u → Q u v H3 n2
def nDrop (te : TEN) : TSN := fun D σ H n => te σ H n fun _ _ H1 n1 => D.nx σ H1 n1
def nIx0 (ta tb : TE) : TEN := fun σ H n Q => ta σ H fun x H1 => tb σ H1 fun y H2 => ∃ (p : Addr) (o : Obj) (v : V) (xs : List V) (u : Value) (us : List Value) (m : Nat), x = .ref p ∧ y = .int 0 ∧ H2 p = some (.frz o (.tup (v :: xs))) ∧ o.cls = .type "tuple" ∧ o.data = .seq (u :: us).toArray m ∧ RelV v u ∧ us.length < 1000 ∧ Q u v H2 n
section
variable {X : Cx} {a b e o : Expr} {es : List Expr} {ta tb to : TE} {tn : TEN} {t : TAN} {pos : Pos}
theorem pen_catF (ha : PE X a ta) (hb : PE X b tb) : PEN X (.BinOp a .Add b pos) (nCatF ta tb) := by
  refine ⟨fun pins s σ H n Q hn I h => ?_⟩
  refine wpAny_BinOp (thnT hn (ha.run pins s σ H _ I h) fun v s1 hn1 ⟨x, H1, I1, r1, q1⟩ => thnT hn1 (hb.run pins s1 σ H1 _ I1 q1) fun u s2 hn2 ⟨y, H2, I2, r2, q2⟩ => ?_)
  obtain ⟨i, j, rfl, rfl, hi, hj, hz, h0, q⟩ := q2
  obtain ⟨t, rfl⟩ := r1
  obtain ⟨t', rfl⟩ := r2
  refine PySem.P.add_str ?_
  rw [if_neg (by simpa using hi), if_neg (by simpa using hj)]
  have hl : (i ++ j).length = i.length + j.length := by rw [len_tl, tl_append, List.length_append, ← len_tl, ← len_tl]
  exact ⟨by rw [hl]; exact hz, ⟨.str (i ++ j), H2, s2.toks + 1, Nat.le_refl _, I2.tok _, ⟨_, rfl⟩, q _ _ (by omega) (by show s2.toks ≠ 0; omega) (Nat.lt_succ_self _)⟩⟩
theorem pen_catT (ha : PEN X a tn) (hb : PE X b tb) : PEN X (.BinOp a .Add b pos) (nCatT tn tb) := by
  refine ⟨fun pins s σ H n Q hn I h => ?_⟩
  refine wpAny_BinOp (thn (ha.run pins s σ H n _ hn I h) fun v s1 ⟨x, H1, n1, hn1, I1, r1, q1⟩ => thnT hn1 (hb.run pins s1 σ H1 _ I1 q1) fun u s2 hn2 ⟨y, H2, I2, r2, q2⟩ => ?_)
  obtain ⟨i, j, t, rfl, rfl, ht, htn, rfl, hi, hz, q⟩ := q2
  obtain ⟨t', rfl⟩ := r2
  have hpos : 0 < n1 := Nat.lt_of_le_of_lt (Nat.zero_le _) htn
  refine PySem.P.add_str ?_
  rw [if_neg (by simpa using hi)]
  by_cases hj : j.length = 0
  · rw [if_pos (by simpa using hj)]
    have e : i ++ j = i := app_len0 hj
    have q' := q t n1 (Nat.le_refl _) ht htn
    rw [e] at q'
    exact ⟨.str i, H2, n1, hn2, I2, ⟨_, rfl⟩, q'⟩
  · rw [if_neg (by simpa using hj)]
    have hl : (i ++ j).length = i.length + j.length := by rw [len_tl, tl_append, List.length_append, ← len_tl, ← len_tl]
    exact ⟨by rw [hl]; exact hz, ⟨.str (i ++ j), H2, s2.toks + 1, Nat.le_refl _, I2.tok _, ⟨_, rfl⟩, q _ _ (by omega) (by show s2.toks ≠ 0; omega) (Nat.lt_succ_self _)⟩⟩
theorem pen_tup {x1} (h : PAN X es t) : PEN X (.Tuple es x1 pos) (nTup t) := by
  refine ⟨fun pins s σ H n Q hn I hq => ?_⟩
  refine wpAny_Tuple_spliced (thn (h.run pos pins s σ H n _ hn I hq) fun us s1 ⟨xs, H1, n1, hn1, I1, r, z, q⟩ => ⟨by rw [← r.length]; exact z, ?_⟩)
  have hf : H1 s1.heap.objs.size = none := I1.hok.fresh (Nat.le_refl _)
  refine ⟨.ref s1.heap.objs.size, upd H1 s1.heap.objs.size (.frz { cls := .type "tuple", data := .seq us.toArray 0 } (.tup xs)), n1, hn1, I1.laid (t' := s1.toks) (fun b u e => Heap.get?_push_of_some _ e) (Nat.le_refl _) ?_, rfl, q _ _ hf rfl ⟨0, rfl⟩⟩
  exact ⟨Heap.get?_push_size _ rfl, z, us, r, ⟨_, Heap.get?_push_size _ rfl, rfl, 0, rfl⟩⟩
theorem pen_bm {T id : String} {name : Str} {r : V → List V → Hp → VK → Prop} {apos cpos : Pos} (pa : PlainAttrs T) (slot : Slot T name id) (hty : typeOf (.builtin id) = pure (.type "method_descriptor")) (hm : MtR X id r) (ho : PE X o to) (ha : PAN X (e :: es) t)
    (hbase : attributeBase o name X.env (eval o X.env) = eval o X.env := by rfl)
    (hfew : ((backTo cpos (starEach (e :: es) X.env)).all (fun x => !x.1) && (backToKw cpos (keywordEach [] X.env)).all (fun x => x.1.isSome)
      && decide ((e :: es).length + ([] : List Keyword).length + (if ([] : List Keyword).isEmpty then 0 else 1) < 30)) = true := by rfl)
    (hline : (apos.endLine == cpos.line) = true := by rfl) (hs : starEach (e :: es) X.env = (false, eval e X.env) :: starEach es X.env := by rfl) (hplain : (backTo cpos (starEach es X.env)).any (·.1) = false := by rfl) :
    PEN X (.Call (.Attribute o name apos) (e :: es) [] cpos) (nBM X.K T r to t) := by
  refine ⟨fun pins s σ H n Q hn I h => ?_⟩
  refine wpAny_Call_method_late hbase hfew hline rfl (thnT hn (ho.run pins s σ H _ I h) fun v s1 hn1 ⟨x, H1, I1, r1, ty, q1⟩ => ?_)
  obtain ⟨h1, h2⟩ := tyV_is I1 r1 ty
  refine ⟨T, id, pa, slot, hty, h1, h2, ?_⟩
  have hA := ha.run cpos pins s1 σ H1 n _ hn1 I1 q1
  rw [hs] at hA ⊢
  refine Calls.callWith_builtin (by show (false || (backTo cpos (starEach es X.env)).any (·.1)) = false; rw [hplain] <;> rfl) (Calls.evalArgs_plain ?_)
  exact thn hA fun us s2 ⟨vs, H2, n2, hn2, I2, r2, q2⟩ => thnT hn2 (hm pins s2 σ H2 x vs v us _ I2 r1 r2 q2) fun u s3 hn3 ⟨v', H3, I3, r3, q3⟩ => ⟨v', H3, n2, hn3, I3, r3, q3 u r3⟩
theorem psn_expr (he : PEN X e tn) (hs : swapsWith e none pos.line X.env = pure false := by rfl) : PSN X (.Expr e pos) (nDrop tn) := by
  refine ⟨fun pins s σ H n D hn I h => ?_⟩
  exact wpAny_Expr_any (thn (he.run pins s σ H n _ hn I h) fun v s1 ⟨x, H1, n1, hn1, I1, r1, q1⟩ => ⟨σ, H1, n1, hn1, I1, q1⟩) I.quiet hs
theorem pen_ix0 (ha : PE X a ta) (hb : PE X b tb) (hs : PlainIx b) : PEN X (.Subscript a b pos) (nIx0 ta tb) := by
  refine ⟨fun pins s σ H n Q hn I h => ?_⟩
  refine Subscript_ (thnT hn (ha.run pins s σ H _ I h) fun v s1 hn1 ⟨x, H1, I1, r1, q1⟩ => thnT hn1 (hb.run pins s1 σ H1 _ I1 q1) fun u s2 hn2 ⟨y, H2, I2, r2, q2⟩ => ?_)
  obtain ⟨p, ob, v, xs, u, us, m, rfl, rfl, hp, hc, hd, rv, hl, q⟩ := q2
  cases r1
  obtain ⟨t, rfl⟩ := r2
  have hx : ObjOk X.prog X.w H2 s2.heap p (.frz ob (.tup (v :: xs))) := I2.hok p _ hp
  obtain ⟨hg, _⟩ := hx
  have pl : IsTup s2.heap p (u :: us).toArray := ⟨ob, hg, hc, m, hd⟩
  have fin : EPN X pins σ Q u s2 := ⟨v, H2, n, hn2, I2, rv, q⟩
  exact subscriptTail_builtinR (x := u) pl.typeIs slot_tuple_getitem.lookup
    (getItem_tuple (j := 0) (Q := fun r s' => r = u ∧ EPN X pins σ Q r s') pl (by omega) (by omega) (by simp [seqIndex?]) (by simp) ⟨rfl, fin⟩) (hs _ _)
end
end SW


/-! ### the same with the frame's own map: a local's text with its token -/
namespace SW
open PySem PySem.Spec PyProof.Rows L2 He TL
abbrev Mp := Str → Option Value
structure EndsM where
  nx : Mp → L2.St → Hp → Nat → Prop
  rt : VKN
abbrev TEM := Mp → L2.St → Hp → Nat → VKN → Prop
abbrev TSM := EndsM → Mp → L2.St → Hp → Nat → Prop
def EPM (X : Cx) (pins : List (Addr × Obj)) (σ : L2.St) (m : Mp) (Q : VKN) (u : Value) (s' : Shared) : Prop := ∃ v H' n, n ≤ s'.toks ∧ Inv X pins σ H' s' ∧ s'.heap.Ns X.env.locals m ∧ RelV v u ∧ Q u v H' n
def SPM (X : Cx) (pins : List (Addr × Obj)) (D : EndsM) (f : Flow) (s' : Shared) : Prop :=
  match f with
  | .next => ∃ m σ' H' n, n ≤ s'.toks ∧ Inv X pins σ' H' s' ∧ s'.heap.Ns X.env.locals m ∧ D.nx m σ' H' n
  | .brk => False
  | .cont => False
  | .ret u => ∃ v σ' H' n, n ≤ s'.toks ∧ Inv X pins σ' H' s' ∧ RelV v u ∧ D.rt u v H' n
structure PEM (X : Cx) (e : Expr) (t : TEM) : Prop where
  run : ∀ (pins : List (Addr × Obj)) (s : Shared) (m : Mp) (σ : L2.St) (H : Hp) (n : Nat) (Q : VKN), n ≤ s.toks → Inv X pins σ H s → s.heap.Ns X.env.locals m → t m σ H n Q → wpAny (model X.prog X.w) X.A (eval e X.env) (EPM X pins σ m Q) X.xe s
structure PSM (X : Cx) (st : Stmt) (t : TSM) : Prop where
  run : ∀ (pins : List (Addr × Obj)) (s : Shared) (m : Mp) (σ : L2.St) (H : Hp) (n : Nat) (D : EndsM), n ≤ s.toks → Inv X pins σ H s → s.heap.Ns X.env.locals m → t D m σ H n → wpAny (model X.prog X.w) X.A (exec st X.env) (SPM X pins D) X.xe s
structure PSsM (X : Cx) (st : List Stmt) (t : TSM) : Prop where
  run : ∀ (pins : List (Addr × Obj)) (s : Shared) (m : Mp) (σ : L2.St) (H : Hp) (n : Nat) (D : EndsM), n ≤ s.toks → Inv X pins σ H s → s.heap.Ns X.env.locals m → t D m σ H n → wpAny (model X.prog X.w) X.A (execs st X.env) (SPM X pins D) X.xe s
def putM (m : Mp) (x : Str) (u : Value) : Mp := fun y => if y = x then some u else m y
def mSeq (t u : TSM) : TSM := fun D m σ H n => t { D with nx := u D } m σ H n
def mName (x : Str) : TEM := fun m _ H n Q => ∃ u v, m x = some u ∧ RelV v u ∧ Q u v H n
def mStr (c : Str) : TEM := fun _ _ H n Q => ∀ (t n' : Nat), n ≤ t → t < n' → Q (.str c t) (.str c) H n'
def mSet (te : TEM) (x : Str) (i : Nat) : TSM := fun D m σ H n => te m σ H n fun u v H1 n1 => D.nx (putM m x u) (σ.set i (some v)) H1 n1
def mCat (ta tb : TEM) : TEM := fun m σ H n Q => ta m σ H n fun _ x H1 n1 => tb m σ H1 n1 fun _ y H2 n2 => ∃ i j : Str, x = .str i ∧ y = .str j ∧ i.length ≠ 0 ∧ j.length ≠ 0 ∧ i.length + j.length ≤ sizeLine ∧ ∀ (t n' : Nat), n2 ≤ t → t < n' → Q (.str (i ++ j) t) (.str (i ++ j)) H2 n'
def mTup (cs : List Str) : TEM := fun _ _ H n Q => cs.length ≤ sizeLine ∧ ∀ p, H p = none → Q (.ref p) (.ref p) (upd H p (.tup (cs.map V.str))) n
def mIx (x y : Str) (K : PySem.W.Frag) : TEM := fun m _ H n Q => ∃ p i tk xs v, m x = some (.ref p) ∧ m y = some (.int i tk) ∧ SqT K H p xs ∧ atI xs i = some v ∧ ∀ u, RelV v u → Q u v H n
def mRepl (to ta tb : TEM) : TEM := fun m σ H n Q => to m σ H n fun _ x H1 n1 => (∃ x', x = .str x') ∧ ta m σ H1 n1 fun ua _ H2 n2 => tb m σ H2 n2 fun ub _ H3 n3 => ∃ (x' y' z' : Str) (t1 t2 : Tok), x = .str x' ∧ ua = .str y' t1 ∧ ub = .str z' t2 ∧ t1 ≠ 0 ∧ t2 ≠ 0 ∧ t1 ≠ t2 ∧ (y' == z') = false ∧ x'.length + (x'.length + 1) * z'.length ≤ 16777216 ∧ ∀ t', Q (.str (Txt.replace x' y' z') t') (.str (Txt.replace x' y' z')) H3 n3
def mIfGt (x : Str) (c : Int) (ta : TS) : TSM := fun D m σ H n => ∃ i tk, m x = some (.int i tk) ∧ (c < i → ta { nx := fun _ _ => False, rt := fun v H => ∀ u, RelV v u → D.rt u v H n } σ H) ∧ (¬ c < i → D.nx m σ H n)
def mRetCat (ta tb : TEM) : TSM := fun D m σ H n => ta m σ H n fun _ x H1 n1 => tb m σ H1 n1 fun _ y H2 n2 => ∃ i j : Str, x = .str i ∧ y = .str j ∧ i.length + j.length ≤ sizeLine ∧ ∀ t, D.rt (.str (i ++ j) t) (.str (i ++ j)) H2 n2
section
variable {X : Cx} {st : Stmt} {rest : List Stmt} {t u : TSM} {a b o e : Expr} {ta tb to te : TEM} {pos : Pos}
theorem pssm_cons (h1 : PSM X st t) (h2 : PSsM X rest u) : PSsM X (st :: rest) (mSeq t u) := by
  refine ⟨fun pins s m σ H n D hn I hm h => ?_⟩
  refine wpAny_execs_cons (thn (h1.run pins s m σ H n { D with nx := u D } hn I hm h) fun f s1 q => ?_)
  cases f with
  | next =>
    obtain ⟨m', σ', H', n', hn', I', hm', q⟩ := q
    exact h2.run pins s1 m' σ' H' n' D hn' I' hm' q
  | ret v => exact q
  | brk => exact q
  | cont => exact q
theorem pssm_one (h1 : PSM X st t) : PSsM X [st] t := by
  refine ⟨fun pins s m σ H n D hn I hm h => ?_⟩
  refine wpAny_execs_cons (thn (h1.run pins s m σ H n D hn I hm h) fun f s1 q => ?_)
  cases f with
  | next => exact wpAny_execs_nil q
  | ret v => exact q
  | brk => exact q
  | cont => exact q
theorem pem_name {x : Str} {p : Pos} (hk : X.env.scope.names.lookup x = some .local) (hd : (x == ("__debug__" : Str)) = false := by decide) : PEM X (.Name x p) (mName x) := by
  refine ⟨fun pins s m σ H n Q hn I hm h => ?_⟩
  obtain ⟨u, v, e, r, q⟩ := h
  exact wpAny_Name (wpAny_loadName_local I.ok.kind hk hm e ⟨v, H, n, hn, I, hm, r, q⟩) hd
theorem pem_str {c : Str} {j : Nat} {p : Pos} : PEM X (.Constant (.str c) j p) (mStr c) :=
  ⟨fun pins s m σ H n Q hn I hm h => Calls.Constant_str ⟨.str c, H, s.toks + 1, Nat.le_refl _, I.tok _, hm, ⟨_, rfl⟩, h _ _ hn (Nat.lt_succ_self _)⟩⟩
theorem pem_cat (ha : PEM X a ta) (hb : PEM X b tb) : PEM X (.BinOp a .Add b pos) (mCat ta tb) := by
  refine ⟨fun pins s m σ H n Q hn I hm h => ?_⟩
  refine wpAny_BinOp (thn (ha.run pins s m σ H n _ hn I hm h) fun v s1 ⟨x, H1, n1, hn1, I1, hm1, r1, q1⟩ => thn (hb.run pins s1 m σ H1 n1 _ hn1 I1 hm1 q1) fun u s2 ⟨y, H2, n2, hn2, I2, hm2, r2, q2⟩ => ?_)
  obtain ⟨i, j, rfl, rfl, hi, hj, hz, q⟩ := q2
  obtain ⟨t, rfl⟩ := r1
  obtain ⟨t', rfl⟩ := r2
  refine PySem.P.add_str ?_
  rw [if_neg (by simpa using hi), if_neg (by simpa using hj)]
  have hl : (i ++ j).length = i.length + j.length := by rw [len_tl, tl_append, List.length_append, ← len_tl, ← len_tl]
  exact ⟨by rw [hl]; exact hz, ⟨.str (i ++ j), H2, s2.toks + 1, Nat.le_refl _, I2.tok _, hm2, ⟨_, rfl⟩, q _ _ hn2 (Nat.lt_succ_self _)⟩⟩
structure RawC (env : Env) (es : List Expr) (cs : List Str) : Prop where
  run : ∀ (M : Model) (A : Around) (E : Value → Shared → Prop) (pos : Pos) (s : Shared) (Q : List Value → Shared → Prop), (∀ us k, Vals (cs.map V.str) us → s.toks ≤ k → Q us { s with toks := k }) → wpAny M A (spliced (backTo pos (starEach es env))) Q E s
theorem rawc_nil {env : Env} : RawC env [] [] := ⟨fun M A E pos s Q h => Calls.spliced_nil (h [] s.toks .nil (Nat.le_refl _))⟩
theorem rawc_cons {env : Env} {c : Str} {j : Nat} {p : Pos} {es : List Expr} {cs : List Str} (h : RawC env es cs) : RawC env (.Constant (.str c) j p :: es) (c :: cs) := by
  refine ⟨fun M A E pos s Q q => ?_⟩
  have hs : starEach (.Constant (.str c) j p :: es) env = (false, eval (.Constant (.str c) j p) env) :: starEach es env := by rfl
  rw [hs]
  show wpAny _ _ (spliced ((false, eval (.Constant (.str c) j p) env) :: backTo pos (starEach es env))) _ _ s
  refine Calls.spliced_cons (Calls.Constant_str (h.run M A E pos _ _ fun us k r hk => ?_))
  exact q _ k (.cons ⟨_, rfl⟩ r) (Nat.le_trans (Nat.le_succ _) hk)
theorem pem_tup {es : List Expr} {cs : List Str} {x1} (h : RawC X.env es cs) : PEM X (.Tuple es x1 pos) (mTup cs) := by
  refine ⟨fun pins s m σ H n Q hn I hm q => ?_⟩
  obtain ⟨z, q⟩ := q
  refine wpAny_Tuple_spliced (h.run _ _ _ pos s _ fun us k r hk => ⟨by rw [← r.length, List.length_map]; exact z, ?_⟩)
  have I1 : Inv X pins σ H { s with toks := k } := I.tok k
  have hf : H s.heap.objs.size = none := I.hok.fresh (Nat.le_refl _)
  refine ⟨.ref s.heap.objs.size, upd H s.heap.objs.size (.tup (cs.map V.str)), n, Nat.le_trans hn hk, I1.laid (t' := k) (fun b u e => Heap.get?_push_of_some _ e) (Nat.le_refl _) ?_, hm.push _, rfl, q _ hf⟩
  exact ⟨by rw [List.length_map]; exact z, us, r, ⟨_, Heap.get?_push_size _ rfl, rfl, 0, rfl⟩⟩
theorem pem_ix {x y : Str} {px py : Pos} {K : PySem.W.Frag} (hx : X.env.scope.names.lookup x = some .local) (hy : X.env.scope.names.lookup y = some .local) (hs : PlainIx (.Name y py)) (hK : X.K = K := by rfl) (hdx : (x == ("__debug__" : Str)) = false := by decide) (hdy : (y == ("__debug__" : Str)) = false := by decide) :
    PEM X (.Subscript (.Name x px) (.Name y py) pos) (mIx x y K) := by
  subst hK
  refine ⟨fun pins s m σ H n Q hn I hm h => ?_⟩
  obtain ⟨p, i, tk, xs, z, ex, ey, hq, he, q⟩ := h
  refine Subscript_ (wpAny_Name (wpAny_loadName_local I.ok.kind hx hm ex (wpAny_Name (wpAny_loadName_local I.ok.kind hy hm ey ?_) hdy)) hdx)
  obtain ⟨its, r, pl, hz⟩ := I.tuple hq
  obtain ⟨j, h1, h2, h3, h4, h5⟩ := atI_get he
  obtain ⟨w, ew, rw'⟩ := r.get h2
  have hl := r.length
  have hn' := line63
  have fin : EPM X pins σ m Q w s := ⟨z, H, n, hn, I, hm, rw', q w rw'⟩
  exact subscriptTail_builtinR (x := w) pl.typeIs slot_tuple_getitem.lookup
    (getItem_tuple (j := j) (Q := fun r s' => r = w ∧ EPM X pins σ m Q r s') pl (by omega) (by omega) (by rw [List.size_toArray, ← hl]; exact h1) (by simpa using ew) ⟨rfl, fin⟩) (hs _ _)
theorem pem_repl {apos : Pos} (ho : PEM X o to) (ha : PEM X a ta) (hb : PEM X b tb) (hst : starEach [a, b] X.env = [(false, eval a X.env), (false, eval b X.env)] := by rfl)
    (hbase : attributeBase o "replace" X.env (eval o X.env) = eval o X.env := by rfl) (hline : (apos.endLine == pos.line) = true := by rfl) :
    PEM X (.Call (.Attribute o "replace" apos) [a, b] [] pos) (mRepl to ta tb) := by
  refine ⟨fun pins s m σ H n Q hn I hm h => ?_⟩
  refine PySem.Call_method2 hbase hst hline (thn (ho.run pins s m σ H n _ hn I hm h) fun v s1 ⟨x, H1, n1, hn1, I1, hm1, r1, q1⟩ => ?_)
  obtain ⟨⟨z0, rfl⟩, q1⟩ := q1
  obtain ⟨tz, rfl⟩ := r1
  refine ⟨"str", _, PySem.F.plainAttrs_str, PySem.F.slot_str_replace, PySem.F.type_str_replace, typeIs_str _ _ _, (fun _ e => nomatch e), Calls.callWith_builtin rfl (Calls.evalArgs_plain (Calls.spliced_cons ?_))⟩
  refine thn (ha.run pins s1 m σ H1 n1 _ hn1 I1 hm1 q1) fun ua s2 ⟨y, H2, n2, hn2, I2, hm2, r2, q2⟩ => ?_
  refine Calls.spliced_cons (thn (hb.run pins s2 m σ H2 n2 _ hn2 I2 hm2 q2) fun ub s3 ⟨z, H3, n3, hn3, I3, hm3, r3, q3⟩ => Calls.spliced_nil ?_)
  obtain ⟨x', y', z', t1, t2, e0, rfl, rfl, h1, h2, h3, hyz, hb, q⟩ := q3
  cases e0
  refine thnT hn3 (PySem.SC.replace (Q := fun u s' => ∃ t' k, u = .str (Txt.replace z0 y' z') t' ∧ s' = { s3 with toks := k }) h1 h2 h3 hyz hb fun t' k => ⟨t', k, rfl, rfl⟩) fun u s4 hn4 ⟨t', k, e1, e2⟩ => ?_
  subst e1 e2
  exact ⟨.str (Txt.replace z0 y' z'), H3, n3, hn4, I3.tok k, hm3, ⟨t', rfl⟩, q t'⟩
theorem store_m {M : Model} {A : Around} {E : Value → Shared → Prop} {pins : List (Addr × Obj)} {σ : L2.St} {H : Hp} {s : Shared} {m : Mp} {i : Nat} {x : Str} {v : V} {u : Value} {Q : Unit → Shared → Prop} (I : Inv X pins σ H s) (hn : s.heap.Ns X.env.locals m) (hN : X.N.Nodup) (hi : X.N[i]? = some x) (hk : X.env.scope.names.lookup x = some .local) (r : RelV v u)
    (h : ∀ s', s.toks ≤ s'.toks → Inv X pins (σ.set i (some v)) H s' → s'.heap.Ns X.env.locals (putM m x u) → Q () s') : wpAny M A (storeName X.env x u) Q E s := by
  obtain ⟨m', hn0, hl⟩ := id I.loc
  have em : m' = m := by rw [hn0.eq_nsMap, hn.eq_nsMap]
  subst em
  have hcls : (X.env.scope.kind == .class || (X.env.scope.kind == .module && X.env.locals != X.env.globals)) = false := by rw [I.ok.kind]; rfl
  have hiσ : i < σ.length := by rw [I.len]; exact (List.getElem?_eq_some_iff.mp hi).1
  have cne := I.cne
  have tracked : ∀ {a : Addr} {h' : Heap}, (∃ o, s.heap.get? a = some o ∧ H a = none) → Heap.SameBut a s.heap h' → HOk X.prog X.w H h' := fun {a h'} ha hs b ob e => by
    obtain ⟨_, _, hfree⟩ := ha
    refine (I.hok b ob e).stay (fun c w' hc q => (hs.2 c ?_).trans q) (fun _ q => q) fun _ _ q => q
    rintro rfl
    rcases hc with rfl | hc
    · rw [hfree] at e; cases e
    · rw [hfree] at hc; cases hc
  refine wpAny_storeName_local hk hn (fun h' hn' hs => ?_) hcls
  obtain ⟨oL, _, _, hoL, _⟩ := id hn
  refine h _ (Nat.le_succ _) ⟨I.ok, I.os, I.bare, ⟨fun b o e n hb hx => ?_, fun b o e n hb hx => ?_, I.base.free, fun b o e hx => ?_, I.base.tups, I.base.frzs, I.base.tbls⟩, ⟨_, hn', fun j y v' e1 e2 e3 => ?_⟩, fun y c e => ?_, I.free, I.freeC, fun p hp => ?_, tracked ⟨oL, hoL, I.free⟩ hs, by simpa using I.len⟩ hn'
  · exact (hs.2 b (Nat.ne_of_lt (Nat.lt_of_lt_of_le (Heap.lt_size e) I.ok.above))).trans (I.base.keep b o e n hb hx)
  · obtain ⟨sl, e1⟩ := I.base.slot b o e n hb hx
    exact ⟨sl, (hs.2 b (Nat.ne_of_lt (Nat.lt_of_lt_of_le (Heap.lt_size e) I.ok.above))).trans e1⟩
  · obtain ⟨o', e1⟩ := I.base.there b o e hx
    exact ⟨o', (hs.2 b (Nat.ne_of_lt (Nat.lt_of_lt_of_le (Heap.lt_size e) I.ok.above))).trans e1⟩
  · by_cases hj : j = i
    · subst hj
      rw [hi] at e1; cases e1
      rw [List.getElem?_set_self hiσ] at e2
      cases e2
      exact ⟨u, r, .inl ⟨hk, by simp⟩⟩
    · rw [List.getElem?_set_ne (Ne.symm hj)] at e2
      obtain ⟨u', r', q⟩ := hl j y v' e1 e2 e3
      refine ⟨u', r', ?_⟩
      rcases q with ⟨k, e⟩ | ⟨k, c, e, z⟩
      · refine .inl ⟨k, ?_⟩
        have : y ≠ x := fun e => hj (nodup_ix hN e1 (e ▸ hi))
        simp [this, e]
      · exact .inr ⟨k, c, e, z.sameBut hs (cne y c e)⟩
  · obtain ⟨w', z⟩ := I.cell y c e
    exact ⟨w', z.sameBut hs (cne y c e)⟩
  · obtain ⟨e, n, ne, nf, d⟩ := I.pin p hp
    exact ⟨(hs.2 p.1 ne).trans e, n, ne, nf, d⟩
theorem psm_set {i : Nat} {x : Str} {pos' : Pos} (hN : X.N.Nodup) (hi : X.N[i]? = some x) (hk : X.env.scope.names.lookup x = some .local) (he : PEM X e te) (hs : swapsWith e (some (.Name x pos')) pos.line X.env = pure false := by rfl) :
    PSM X (.Assign [.Name x pos'] e pos) (mSet te x i) := by
  refine ⟨fun pins s m σ H n D hn I hm h => ?_⟩
  refine wpAny_Assign_Name (thn (he.run pins s m σ H n _ hn I hm h) fun v s1 ⟨y, H1, n1, hn1, I1, hm1, r1, q1⟩ => ?_) hs
  exact store_m I1 hm1 hN hi hk r1 fun s2 h2 I2 hm2 => ⟨_, _, H1, n1, Nat.le_trans hn1 h2, I2, hm2, q1⟩
theorem psm_ifgt {x : Str} {c : Int} {j : Nat} {px pc pc2 : Pos} {as : List Stmt} {ta : TS} (hx : X.env.scope.names.lookup x = some .local) (ha : PSs X as ta) (hb : behindInMarks .Gt (.Constant (.int c) j pc) = false := by rfl) (hdx : (x == ("__debug__" : Str)) = false := by decide) :
    PSM X (.If (.Compare (.Name x px) [.Gt] [.Constant (.int c) j pc] pc2) as [] pos) (mIfGt x c ta) := by
  refine ⟨fun pins s m σ H n D hn I hm h => ?_⟩
  obtain ⟨i, tk, ex, q1, q2⟩ := h
  refine wpAny_If (wpAny_isTrue_Compare1 (wpAny_Name (wpAny_loadName_local I.ok.kind hx hm ex (wpAny_Constant_int (gt_int (wpAny_truthy_bool ?_)))) hdx) hb)
  by_cases h : c < i
  · rw [decide_eq_true h]
    refine thnT (n := n) (Nat.le_trans hn (Nat.le_succ _)) (ha.run pins { s with toks := s.toks + 1 } σ H { nx := fun _ _ => False, rt := fun v H => ∀ u, RelV v u → D.rt u v H n } (I.tok _) (q1 h)) fun f s1 hn1 z => ?_
    cases f with
    | next =>
      obtain ⟨_, _, _, z⟩ := z
      exact False.elim z
    | brk =>
      obtain ⟨_, _, _, z⟩ := z
      exact z
    | cont =>
      obtain ⟨_, _, _, z⟩ := z
      exact z
    | ret u =>
      obtain ⟨v, σ', H', I', r, z⟩ := z
      exact ⟨v, σ', H', n, hn1, I', r, z u r⟩
  · rw [decide_eq_false h]
    exact wpAny_execs_nil ⟨m, σ, H, n, Nat.le_trans hn (Nat.le_succ _), I.tok _, hm, q2 h⟩
theorem psm_retcat (ha : PEM X a ta) (hb : PEM X b tb) {pos2 : Pos} : PSM X (.Return (some (.BinOp a .Add b pos)) pos2) (mRetCat ta tb) := by
  refine ⟨fun pins s m σ H n D hn I hm h => ?_⟩
  refine wpAny_Return_some (wpAny_BinOp (thn (ha.run pins s m σ H n _ hn I hm h) fun v s1 ⟨x, H1, n1, hn1, I1, hm1, r1, q1⟩ => thn (hb.run pins s1 m σ H1 n1 _ hn1 I1 hm1 q1) fun u s2 ⟨y, H2, n2, hn2, I2, hm2, r2, q2⟩ => ?_))
  obtain ⟨i, j, rfl, rfl, hz, q⟩ := q2
  obtain ⟨t, rfl⟩ := r1
  obtain ⟨t', rfl⟩ := r2
  exact thnT hn2 (PyProof.Rows.add_str (Q := fun u s' => ∃ t' k, u = .str (i ++ j) t' ∧ s' = { s2 with toks := k }) (fun t' k => ⟨t', k, rfl, rfl⟩) hz) fun u s4 hn4 ⟨t', k, e1, e2⟩ => by
    subst e1 e2
    exact ⟨.str (i ++ j), σ, H2, n2, hn4, I2.tok k, ⟨t', rfl⟩, q t'⟩
end
section
variable {P : Program} {w : World} {K : PySem.W.Frag} {mg : Str → Option Value} {base : Heap} {k : Nat} {f : Addr} {ps N : List Str} {sp : SpN} {x qual : Str} {params : Arguments} {body : List Stmt} {scope : Scope}
theorem mkOkM (F : ∃ fd, FunD K x qual params body scope [] [] f fd) (S : FnScope N ps scope)
    (hb : ∀ (kV doc pm : Value) (an : Option Addr) (cdv ct : Value) (us : List Value), us.length = ps.length → bindArgs (PySem.W.fnOf x qual params body scope .none kV doc pm an cdv ct) ⟨us, []⟩ = pure (ps.zip us))
    (hnc : ∀ y ∈ scope.names, y.2 ≠ .cell) (hps : 1 ≤ ps.length) (len : ∀ us vs H n Q, sp us vs H n Q → vs.length = ps.length)
    (hbody : ∀ (cdv : Value) (A : Around) (outer : List Env) (s : Shared) (H : Hp) (us : List Value) (vs : List V) (n : Nat) (Q : VKN), Room k (A.deeper (envOfC qual scope s.heap.objs.size f cdv)) → sp us vs H n Q →
      ∃ t, PSsM (cxOf CX0 P w K mg base N qual scope f cdv A outer s H E0).nox body t ∧ t { nx := fun _ _ H' n' => Q .none .non H' n', rt := Q } (fun x => (ps.zip us).reverse.lookup x) (start N vs) H (n + 1)) : OkN P w K mg base (k + 1) f ps sp := by
  obtain ⟨fd, F⟩ := F
  refine ⟨⟨fd, ?_, F.bindsN hb⟩, F.kp⟩
  obtain ⟨oc, od, dV, kV, doc, pm, an, cdv, ct, osl, rfl, lk, hcd, _, _⟩ := F.ex
  refine ⟨len, fun A outer s H args us vs n Q hr e0 hbi r hn hsp => ?_⟩
  have hl := len _ _ _ _ _ hsp
  have hul : us.length = ps.length := by rw [← r.length, hl]
  have KX : K.In s.heap := e0.mod.kin.keeps fun b o e => (e0.bs b o e).1
  have lim : s.heap.NoLimit := e0.mod.nolimit.keeps fun b o e => (e0.bs b o e).1
  have hloc : ∀ y ∈ ps.zip us, scope.names.lookup y.1 = some .local := fun ⟨n, v⟩ hy => by
    rcases S.par n (List.of_mem_zip hy).1 with q | q
    · exact q
    · exact absurd rfl (hnc _ (PySem.mem_of_lookup q))
  refine codeAny_call_function hr.depth (KX _ _ lk) rfl S.co S.gen rfl (PySem.W.codeRec_of KX hcd) (hbi _ _ _ _ ?_)
  refine wpAny_newFunctionEnv hnc hloc (fun h1 hns hsb => ?_) S.kind
  have hz : (ps.zip us).length = ps.length := by rw [List.length_zip, hul, Nat.min_self]
  have keep : ∀ b o, s.heap.get? b = some o → h1.get? b = some o := fun b o e => hsb.extBut b o (Nat.ne_of_lt (Heap.lt_size e)) (Heap.get?_push_of_some _ e)
  have hcl : cellsFrom (s.heap.objs.size + 1) scope.names [] = [] := cells_none _ _ _ hnc
  have hkl : ∀ y ∈ ps.zip us, (envOfC qual scope s.heap.objs.size f cdv).kindOf y.1 = some .local := fun y hy => by
    first
    | exact hloc y hy
    | (simp only [Env.kindOf]; exact hloc y hy)
    | (unfold Env.kindOf; rw [if_pos S.kind]; exact hloc y hy)
    | simpa [Env.kindOf, envOfC, newEnv, S.kind] using hloc y hy
  have hm : (bindL (envOfC qual scope s.heap.objs.size f cdv).kindOf (ps.zip us) fun _ => none) = fun x => (ps.zip us).reverse.lookup x := by
    funext y
    rw [bindL_loc _ _ hkl y]
    cases (ps.zip us).reverse.lookup y <;> rfl
  have x : InCallC s s.heap.objs.size (bindL (envOfC qual scope s.heap.objs.size f cdv).kindOf (ps.zip us) fun _ => none) (cellsFrom (s.heap.objs.size + 1) scope.names [])
      (bindC (envOfC qual scope s.heap.objs.size f cdv).kindOf (ps.zip us) fun _ => none) ({ s with heap := h1, toks := s.toks + (ps.zip us).length } : Shared) := by
    rw [hm, hcl]
    exact ⟨⟨⟨_, _, rfl⟩, hns, keep, Nat.le_refl _⟩, fun n c hc => absurd hc (by simp), .nil, fun n c hc => absurd hc (by simp)⟩
  have henv : newEnv scope s.heap.objs.size mainGlobals [] (qual ++ ".<locals>.") (some f) cdv none builtinsNs = envOfC qual scope s.heap.objs.size f cdv := by
    unfold envOfC
    rw [hcl] <;> rfl
  have hto : n + 1 ≤ ({ s with heap := h1, toks := s.toks + (ps.zip us).length } : Shared).toks := by
    show n + 1 ≤ s.toks + (ps.zip us).length
    omega
  show ({ s with heap := h1, toks := s.toks + (ps.zip us).length } : Shared).heap.NoLimit ∧ codeAny (model P w) A (.func body (newEnv scope s.heap.objs.size mainGlobals [] (qual ++ ".<locals>.") (some f) cdv none builtinsNs)) _ ({ s with heap := h1, toks := s.toks + (ps.zip us).length } : Shared)
  rw [henv]
  have hns1 : ({ s with heap := h1, toks := s.toks + (ps.zip us).length } : Shared).heap.Ns s.heap.objs.size (fun x => (ps.zip us).reverse.lookup x) := hns
  generalize ({ s with heap := h1, toks := s.toks + (ps.zip us).length } : Shared) = s1 at x hto hns1 ⊢
  refine ⟨lim.keeps x.toInCall.keep, codeAny_func ?_⟩
  obtain ⟨t, ht, hq⟩ := hbody cdv A outer s H us vs n Q (hr.deeper _) hsp
  have I : Inv (cxOf CX0 P w K mg base N qual scope f cdv A outer s H E0).nox [] (start N vs) H s1 := (inv_start S hr.hd e0 hl r x).wish _
  refine wpAny_mono (ht.run [] s1 _ (start N vs) H (n + 1) _ hto I hns1 hq) (fun fl s' hs => ?_) fun e s' hs => False.elim hs
  have fin : ∀ {σ' : L2.St} {H' : Hp} {v : V} {u : Value} {n' : Nat}, n' ≤ s'.toks → Inv (cxOf CX0 P w K mg base N qual scope f cdv A outer s H E0).nox [] σ' H' s' → RelV v u → Q u v H' n' → CRN outer P w H s Q (.ok (.ret u)) s' :=
    fun {σ' H' v u n'} hn' J rv q => ⟨v, H', n', hn', J.os, J.bare, J.base, J.hok, rv, q⟩
  cases fl with
  | ret u =>
    obtain ⟨v, σ', H', n', hn', J, rv, q⟩ := hs
    exact fin hn' J rv q
  | next =>
    obtain ⟨_, σ', H', n', hn', J, _, q⟩ := hs
    exact fin (v := V.non) (u := Value.none) hn' J rfl q
  | brk => exact False.elim hs
  | cont => exact False.elim hs
/-- the same, where the frame's map is of no use -/
theorem mkOkNT (F : ∃ fd, FunD K x qual params body scope [] [] f fd) (S : FnScope N ps scope)
    (hb : ∀ (kV doc pm : Value) (an : Option Addr) (cdv ct : Value) (us : List Value), us.length = ps.length → bindArgs (PySem.W.fnOf x qual params body scope .none kV doc pm an cdv ct) ⟨us, []⟩ = pure (ps.zip us))
    (hnc : ∀ y ∈ scope.names, y.2 ≠ .cell) (hps : 1 ≤ ps.length) (len : ∀ us vs H n Q, sp us vs H n Q → vs.length = ps.length)
    (hbody : ∀ (cdv : Value) (A : Around) (outer : List Env) (s : Shared) (H : Hp) (us : List Value) (vs : List V) (n : Nat) (Q : VKN), Room k (A.deeper (envOfC qual scope s.heap.objs.size f cdv)) → sp us vs H n Q →
      ∃ t, PSsN (cxOf CX0 P w K mg base N qual scope f cdv A outer s H E0).nox body t ∧ t { nx := fun _ H' n' => Q .none .non H' n', rt := Q } (start N vs) H (n + 1)) : OkN P w K mg base (k + 1) f ps sp :=
  mkOkM F S hb hnc hps len fun cdv A outer s H us vs n Q hr h => by
    obtain ⟨t, ht, q⟩ := hbody cdv A outer s H us vs n Q hr h
    refine ⟨fun D m σ H n => (∀ m' σ H n, D.nx m' σ H n = D.nx m σ H n) ∧ t ⟨fun σ H n => D.nx m σ H n, D.rt⟩ σ H n, ⟨fun pins s1 m σ H1 n1 D hn I hm z => ?_⟩, fun _ _ _ _ => rfl, q⟩
    refine thn (ht.run pins s1 σ H1 n1 _ hn I z.2) fun fl s2 y => ?_
    cases fl with
    | next =>
      obtain ⟨σ', H', n', hn', I', q'⟩ := y
      obtain ⟨m', hm', _⟩ := I'.loc
      exact ⟨m', σ', H', n', hn', I', hm', by rw [z.1]; exact q'⟩
    | ret u => exact y
    | brk => exact y
    | cont => exact y
end
end SW


/-! ### a name with its token -/
namespace SW
open PySem PySem.Spec PyProof.Rows L2 He TL
def spNameN : SpN := fun _ vs H n Q => ∃ (k : Nat) (m : Int), vs = [.int (k : Int), .int m] ∧ k < 72 ∧ ∀ (t : Tok) (n' : Nat), n ≤ n' → t ≠ 0 → t < n' → Q (.str (lawName k m) t) (.str (lawName k m)) H n'
section
variable {P : Program} {w : World} {K : PySem.W.Frag} {mg : Str → Option Value} {base : Heap}
theorem ok_nameN (T : Txt K mg) : OkN P w K mg base 1 (ga K "_law_name") ["_law_k", "_law_mark"] spNameN := by
  refine mkOkNT T.F_law_name sc_law_name (fun _ _ _ _ _ _ us hl => match us, hl with | [_, _], _ => rfl) (by decide +kernel) (by decide) (by rintro us vs H n Q ⟨_, _, rfl, _⟩; rfl) (fun cdv A outer s H us vs n Q hr h => ?_)
  obtain ⟨k, m, rfl, hk, q⟩ := h
  refine ⟨_, (pssn_cons (psn_of (ps_set (i := 2) sc_law_name.nd rfl (by first | exact Or.inl rfl | exact Or.inr rfl) (pe_ix ix_str pe_str (pe_op op_mod (pe_op op_add (pv 0) (pv 1)) pe_int) (fun _ _ => rfl))))
      (pssn_one (psn_ret (pen_catT (pen_catF (pe_op op_add_str (pe_op op_mul_str pe_str (pe_op op_mod (pv 1) pe_int)) (pv 2)) (pe_ix ix_str pe_str (pe_op op_fdiv (pv 0) pe_int) (fun _ _ => rfl))) (pe_op op_mul_str pe_str (pe_op op_mod (pe_op op_fdiv (pv 1) pe_int) pe_int)))))), ?_⟩
  have h1 : 0 ≤ m % 4 ∧ m % 4 < 4 := ⟨Int.emod_nonneg _ (by decide), Int.emod_lt_of_pos _ (by decide)⟩
  have h2 : 0 ≤ m / 4 % 3 ∧ m / 4 % 3 < 3 := ⟨Int.emod_nonneg _ (by decide), Int.emod_lt_of_pos _ (by decide)⟩
  have h3 : 0 ≤ ((k : Int) + m) % 36 ∧ ((k : Int) + m) % 36 < 36 := ⟨Int.emod_nonneg _ (by decide), Int.emod_lt_of_pos _ (by decide)⟩
  have e1 : m % 4 = (((m % 4).toNat : Nat) : Int) := by omega
  have e2 : m / 4 % 3 = (((m / 4 % 3).toNat : Nat) : Int) := by omega
  have e3 : ((k : Int) + m) % 36 = (((((k : Int) + m) % 36).toNat : Nat) : Int) := by omega
  refine ⟨_, rfl, _, rfl, _, _, rfl, rfl, _, _, rfl, rfl, (by decide : (0 : Int) < 36), nameSigns, _, nameSignAt (((k : Int) + m) % 36).toNat, rfl, rfl, (by decide +kernel), ?_, ?_⟩
  · rw [e3]
    exact atI_nat (sign_at (by omega))
  have lq : ∀ n, (repS "q" n).length = n := fun n => by rw [len_tl, tl_repq, List.length_replicate]
  have l1 : ∀ c, (⟨#[c]⟩ : Str).length = 1 := fun c => rfl
  have la : ∀ a b : Str, (a ++ b).length = a.length + b.length := fun a b => by rw [len_tl, tl_append, List.length_append, ← len_tl, ← len_tl]
  have big : ∀ {n : Nat}, n ≤ 100 → n ≤ sizeLine := fun h => Nat.le_trans h (by decide)
  have eq1 : ("q" : Str).length ≤ 100 := by decide +kernel
  refine ⟨_, rfl, _, _, rfl, rfl, (by decide : (0 : Int) < 4), _, _, rfl, congrArg V.int e1, eq1, by omega, ?_⟩
  refine ⟨_, rfl, _, _, rfl, rfl, big (by rw [lq, l1]; omega), ?_⟩
  have e4 : (k : Int) / 36 = ((k / 36 : Nat) : Int) := rfl
  refine ⟨_, rfl, _, _, rfl, rfl, ⟨by decide, by decide⟩, ("01" : Str), _, 48 + k / 36, rfl, rfl, (by decide +kernel), ?_, ?_⟩
  · rw [e4]
    refine atI_nat ?_
    have t01 : ("01" : Str).cps.toList = [48, 49] := by decide +kernel
    rw [t01]
    have : ∀ i < 2, ([48, 49] : List Nat)[i]? = some (48 + i) := by decide
    exact this _ (by omega)
  refine ⟨_, _, rfl, rfl, by rw [la, l1]; omega, by rw [l1]; omega, big (by rw [la, lq, l1, l1]; omega), Nat.succ_pos _, fun t n1 hn1 ht htn => ?_⟩
  refine ⟨_, rfl, _, _, rfl, rfl, ⟨by decide, by decide⟩, _, _, rfl, rfl, (by decide : (0 : Int) < 3), _, _, rfl, congrArg V.int e2, eq1, by omega, ?_⟩
  refine ⟨_, _, t, rfl, rfl, ht, htn, rfl, by rw [la, l1]; omega, big (by rw [la, la, lq, lq, l1, l1]; omega), fun t' n' hn' ht' htn' => q t' n' (by omega) ht' htn'⟩
end
end SW


/-! ### the law's works, the first name's token known -/
namespace SW
open PySem PySem.Spec PyProof.Rows L2 He TL
structure LpIn3 (G : Hp) (t : Addr) (p : Lp) (l : Addr) (vs : List V) : Prop where
  ob : ∃ o, G t = some (.frz o (.tup [.str p.name, .str p.kd.word, .int p.time, .ref l]))
  ls : G l = some (.lst vs)
  fs : All2 (PairAt G) vs p.feeds
def LpAt3 (G : Hp) (v : V) (p : Lp) : Prop := ∃ t l vs, v = .ref t ∧ LpIn3 G t p l vs
def Fst (G : Hp) (vs : List V) (n : Nat) : Prop := ∃ (p : Addr) (o : Obj) (tk : Tok) (us : List Value) (m : Nat) (name : Str) (xs : List V), vs[0]? = some (.ref p) ∧ G p = some (.frz o (.tup (.str name :: xs))) ∧ o.cls = .type "tuple" ∧ o.data = .seq (Value.str name tk :: us).toArray m ∧ us.length < 1000 ∧ tk ≠ 0 ∧ tk < n
def LawAt3 (G : Hp) (q : Addr) (ls : List Lp) (n : Nat) : Prop := ∃ vs, G q = some (.lst vs) ∧ All2 (LpAt3 G) vs ls ∧ Fst G vs n
section
variable {G G' : Hp}
theorem LpIn3.mono {t : Addr} {p : Lp} {l : Addr} {vs : List V} (e : Same G G') (h : LpIn3 G t p l vs) : LpIn3 G' t p l vs := by
  obtain ⟨⟨o, h1⟩, h2, h3⟩ := h
  exact ⟨⟨o, e _ _ h1⟩, e _ _ h2, h3.mono fun _ _ z => z.mono e⟩
theorem LpAt3.mono {v : V} {p : Lp} (e : Same G G') (h : LpAt3 G v p) : LpAt3 G' v p := by
  obtain ⟨t, l, vs, r, h⟩ := h
  exact ⟨t, l, vs, r, h.mono e⟩
theorem Fst.mono {vs : List V} {n n' : Nat} (e : Same G G') (hn : n ≤ n') (h : Fst G vs n) : Fst G' vs n' := by
  obtain ⟨p, o, tk, us, m, name, xs, h1, h2, h3, h4, h5, h6, h7⟩ := h
  exact ⟨p, o, tk, us, m, name, xs, h1, e _ _ h2, h3, h4, h5, h6, Nat.lt_of_lt_of_le h7 hn⟩
theorem Fst.push {vs : List V} {n : Nat} {w : V} (h : Fst G vs n) : Fst G (vs ++ [w]) n := by
  obtain ⟨p, o, tk, us, m, name, xs, h1, h2⟩ := h
  refine ⟨p, o, tk, us, m, name, xs, ?_, h2⟩
  rw [List.getElem?_append_left (List.getElem?_eq_some_iff.mp h1).1]
  exact h1
theorem LawAt3.mono {q : Addr} {ls : List Lp} {n n' : Nat} (e : Same G G') (hn : n ≤ n') (h : LawAt3 G q ls n) : LawAt3 G' q ls n' := by
  obtain ⟨vs, h1, h2, h3⟩ := h
  exact ⟨vs, e _ _ h1, h2.mono fun _ _ z => z.mono e, h3.mono e hn⟩
end
def spLawWorks3 (K : PySem.W.Frag) : SpN := fun _ vs H n Q => ∃ (G : Hp) (a : Addr) (ns : List Int) (most : Nat), vs = [.ref a, .int (most : Int)] ∧ Same G H ∧ SqL K H a (ns.map V.int) ∧ 1 ≤ most ∧ most ≤ 59 ∧
  ∀ q mark ls G' H' n', Grow G H G' H' → H q = none → LawAt3 G' q ls n' → LawOk most mark ls → Q (.ref q) (.ref q) H' n'
section
variable {P : Program} {w : World} {K : PySem.W.Frag} {mg : Str → Option Value} {base : Heap}
theorem ok_law_works3 (T : Txt K mg) : OkN P w K mg base 3 (ga K "_law_works") ["_law_script", "_law_most"] (spLawWorks3 K) := by
  have G_law_cell_at := ok_cell_at (P := P) (w := w) (base := base) T
  have G_law_draw := ok_draw (P := P) (w := w) (base := base) T
  have G_law_word := ok_wordL (P := P) (w := w) (base := base) T
  have G_law_asks := ok_asks (P := P) (w := w) (base := base) T
  have G_law_name := ok_nameN (P := P) (w := w) (base := base) T
  refine mkOkN T.F_law_works sc_law_works (fun _ _ _ _ _ _ us hl => match us, hl with | [_, _], _ => rfl) (by rintro us vs H n Q ⟨_, _, _, _, rfl, _⟩; rfl) (fun cdv A outer s H us0 vs n0 Q hr h => ?_)
  obtain ⟨G, a, ns, most, rfl, sg, hS, hm1, hm2, q⟩ := h
  refine ⟨_, (pssn_cons (psn_of (ps_set (i := 2) sc_law_works.nd rfl (by first | exact Or.inl rfl | exact Or.inr rfl) (pe_callO G_law_cell_at (hr.mono (by decide)) T.g_law_cell_at (pa_cons (pv 0) (pa_cons pe_int pa_nil)))))
      (pssn_cons (psn_of (ps_set (i := 3) sc_law_works.nd rfl (by first | exact Or.inl rfl | exact Or.inr rfl) (pe_op op_add pe_int (pe_op op_mod (pe_callO G_law_cell_at (hr.mono (by decide)) T.g_law_cell_at (pa_cons (pv 0) (pa_cons pe_int pa_nil))) (pv 1)))))
      (pssn_cons (psn_of (ps_set (i := 4) sc_law_works.nd rfl (by first | exact Or.inl rfl | exact Or.inr rfl) (pe_op op_cat (pe_lst (pa_cons pe_str pa_nil)) (pe_lc (own := [("_law_k", 5)]) rfl sc_law_works.nd (pi_range2 (by rfl) T.f_range (pa_cons pe_int (pa_cons (pv 3) pa_nil))) (blkOk_by (own := [("_law_k", 5)]) (N := ["_law_script", "_law_most", "_law_mark", "_law_many_here", "_law_words", "_law_k", "_law_froms", "_law_parts", "_law_feeds", "_law_j", "_law_cell", "_law_place", "_law_held", "_law_time"]) (sc := defScope s_law_works) (by decide +kernel)) (fun _ _ _ _ _ => (pg_name (i := 5) sc_law_works.nd rfl (by first | exact Or.inl rfl | exact Or.inr rfl))) (fun _ _ _ _ _ => pts_nil) (fun _ _ _ _ _ => (pe_callO G_law_word (hr.mono (by decide)) T.g_law_word (pa_cons (pe_op op_add (pe_callO G_law_cell_at (hr.mono (by decide)) T.g_law_cell_at (pa_cons (pv 0) (pa_cons (pe_op op_add pe_int (pv 5)) pa_nil))) (pe_op op_mul pe_int (pv 5))) (pa_cons (pv 5) pa_nil))))))))
      (pssn_cut (psn_of (ps_if (pt_cmpR op_gt (pe_op op_mod (pv 2) pe_int) pe_int (nomark _)) (pss_one (ps_asg pe_str (pg_sub (pv 4) (pe_op op_sub (pv 3) pe_int) set_list))) pss_nil))
      (pssn_cons (psn_of (ps_setLc (i := 6) (own := [("_law_k", 5)]) rfl sc_law_works.nd rfl rfl (sw_true rfl rfl rfl (by decide +kernel)) (pi_range1 (by rfl) T.f_range (pa_cons (pv 3) pa_nil)) (blkOk_by (own := [("_law_k", 5)]) (N := ["_law_script", "_law_most", "_law_mark", "_law_many_here", "_law_words", "_law_k", "_law_froms", "_law_parts", "_law_feeds", "_law_j", "_law_cell", "_law_place", "_law_held", "_law_time"]) (sc := defScope s_law_works) (by decide +kernel)) (fun _ _ _ _ _ => (pg_name (i := 5) sc_law_works.nd rfl (by first | exact Or.inl rfl | exact Or.inr rfl))) (fun _ _ _ _ _ => pts_one (pt_cmpR op_ne (pe_ix (ixL (K := K)) (pv 4) (pv 5) (fun _ _ => rfl)) pe_str (nomark _))) (fun _ _ _ _ _ => (pv 5))))
      (pssn_cons (psn_of (ps_set (i := 7) sc_law_works.nd rfl (by first | exact Or.inl rfl | exact Or.inr rfl) (pe_lst pa_nil)))
      (pssn_cons (psn_for PassesOwn.never rfl (pi_range1 (by rfl) T.f_range (pa_cons (pv 3) pa_nil)) (pg_name (i := 5) sc_law_works.nd rfl (by first | exact Or.inl rfl | exact Or.inr rfl))
      (pssn_cons (psn_of (ps_set (i := 8) sc_law_works.nd rfl (by first | exact Or.inl rfl | exact Or.inr rfl) (pe_lst pa_nil)))
      (pssn_cons (psn_of (ps_for PassesOwn.never rfl (pi_range1 (by rfl) T.f_range (pa_cons (pe_callO G_law_asks (hr.mono (by decide)) T.g_law_asks (pa_cons (pe_ix (ixL (K := K)) (pv 4) (pv 5) (fun _ _ => rfl)) pa_nil)) pa_nil)) (pg_name (i := 9) sc_law_works.nd rfl (by first | exact Or.inl rfl | exact Or.inr rfl))
      (pss_cons (ps_set (i := 10) sc_law_works.nd rfl (by first | exact Or.inl rfl | exact Or.inr rfl) (pe_op op_add (pe_op op_add (pe_callO G_law_cell_at (hr.mono (by decide)) T.g_law_cell_at (pa_cons (pv 0) (pa_cons (pe_op op_add pe_int (pv 5)) pa_nil))) (pe_op op_mul pe_int (pv 5))) (pe_op op_mul pe_int (pv 9))))
      (pss_cons (ps_set (i := 11) sc_law_works.nd rfl (by first | exact Or.inl rfl | exact Or.inr rfl) (pe_ix (ixL (K := K)) (pv 6) (pe_callO G_law_draw (hr.mono (by decide)) T.g_law_draw (pa_cons (pv 10) (pa_cons pe_int (pa_cons (pe_callB (lenQ (K := K)) (by rfl) T.f_len (by decide +kernel) (pa_cons (pv 6) pa_nil)) pa_nil)))) (fun _ _ => rfl)))
      (Evl.pss_cut (ps_set (i := 12) sc_law_works.nd rfl (by first | exact Or.inl rfl | exact Or.inr rfl) (pe_ifExp (pt_cmpR op_lt (pv 11) (pv 5) (nomark _)) (pe_ix (ixT (K := K)) (pe_tup (pa_cons pe_int (pa_cons pe_int (pa_cons pe_int (pa_cons pe_int (pa_cons pe_int (pa_cons pe_int pa_nil))))))) (pe_callO G_law_draw (hr.mono (by decide)) T.g_law_draw (pa_cons (pv 10) (pa_cons pe_int (pa_cons pe_int pa_nil)))) (fun _ _ => rfl)) (pe_op op_add pe_int (pe_op op_fdiv (pe_callO G_law_draw (hr.mono (by decide)) T.g_law_draw (pa_cons (pv 10) (pa_cons pe_int (pa_cons pe_int pa_nil)))) pe_int))))
      (pss_one (ps_expr (pe_bm PySem.F.plainAttrs_list PySem.F.slot_list_append PySem.F.type_list_append mt_append (pv 8) (pa_cons (pe_tup (pa_cons (pv 11) (pa_cons (pv 12) pa_nil))) pa_nil)))))))))
      (pssn_cons (psn_of (ps_set (i := 13) sc_law_works.nd rfl (by first | exact Or.inl rfl | exact Or.inr rfl) (pe_ix (ixT (K := K)) (pe_tup (pa_cons pe_int (pa_cons pe_int (pa_cons pe_int (pa_cons pe_int (pa_cons pe_int (pa_cons pe_int (pa_cons pe_int (pa_cons pe_int pa_nil))))))))) (pe_callO G_law_draw (hr.mono (by decide)) T.g_law_draw (pa_cons (pe_op op_add (pe_callO G_law_cell_at (hr.mono (by decide)) T.g_law_cell_at (pa_cons (pv 0) (pa_cons (pe_op op_add pe_int (pv 5)) pa_nil))) (pe_op op_mul pe_int (pv 5))) (pa_cons pe_int (pa_cons pe_int pa_nil)))) (fun _ _ => rfl))))
      (pssn_cut (psn_of (ps_if (PW.pt (pw_or (pt_cmpR op_eq (pe_ix (ixL (K := K)) (pv 4) (pv 5) (fun _ _ => rfl)) pe_str (nomark _)) (pw_or1 (pt_cmpR op_eq (pe_ix (ixL (K := K)) (pv 4) (pv 5) (fun _ _ => rfl)) pe_str (nomark _))))) (pss_one (ps_set (i := 13) sc_law_works.nd rfl (by first | exact Or.inl rfl | exact Or.inr rfl) pe_int)) pss_nil))
      (pssn_one (psn_expr (pen_bm PySem.F.plainAttrs_list PySem.F.slot_list_append PySem.F.type_list_append mt_append (pv 7) (pan_cons (pen_tup (pan_cons (pen_callO G_law_name (hr.mono (by decide)) T.g_law_name (pan_cons (pen_of (pv 5)) (pan_cons (pen_of (pv 2)) pan_nil))) (pan_cons (pen_of (pe_ix (ixL (K := K)) (pv 4) (pv 5) (fun _ _ => rfl))) (pan_cons (pen_of (pv 13)) (pan_cons (pen_of (pv 8)) pan_nil))))) pan_nil)))))))))
      (pssn_one (psn_of (ps_ret (pv 7))))))))))), ?_⟩
  have hSq : ∀ {H'}, Same H H' → SqL K H' a (ns.map V.int) := fun s => s.seq hS
  -- mark, many
  refine ⟨_, rfl, a, ns, 1, rfl, hS, ?_⟩
  generalize cellAt ns 1 = mark
  refine ⟨_, rfl, a, ns, 0, rfl, hS, ?_⟩
  generalize cellAt ns 0 = c0
  have hr0 : 0 ≤ c0 % (most : Int) ∧ c0 % (most : Int) < most := ⟨Int.emod_nonneg _ (by omega), Int.emod_lt_of_pos _ (by omega)⟩
  refine ⟨_, rfl, _, _, rfl, rfl, (by omega : (0 : Int) < most), _, _, rfl, rfl, ?_⟩
  obtain ⟨many, hmany, hn2, hn3⟩ : ∃ many : Nat, 2 + c0 % (most : Int) = (many : Int) ∧ 2 ≤ many ∧ many ≤ most + 1 := ⟨(2 + c0 % (most : Int)).toNat, by omega, by omega, by omega⟩
  dsimp only
  rw [hmany]
  -- words
  refine ⟨(by show 1 ≤ sizeLine; decide), fun p0 hp0 => ?_⟩
  have s1 := Same.new (o := .lst [.str "in"]) hp0
  have e1 : upd H p0 (.lst [.str "in"]) p0 = _ := upd_same
  revert s1 e1
  generalize upd H p0 (HO.lst [.str "in"]) = H1
  intro s1 e1
  refine ⟨_, rfl, 1, (many : Int), rfl, ⟨by decide, by decide, by omega, by omega⟩, fun D hD => ?_⟩
  have hDH : H D = none := s1.free hD
  have hmt : (((many : Nat) : Int) - 1).toNat = many - 1 := by omega
  rw [hmt]
  refine lc_range (lo := 1) (n := many - 1) (fun j H' => ∃ kds : List Kd, kds.length = j ∧ (∀ k ∈ kds, k.fit) ∧ H' D = some (.lst (kds.map fun k => V.str k.word)) ∧ Same H1 H')
    ⟨[], rfl, fun x h => (by cases h), upd_same, Same.new hD⟩ ?_ ?_
  · rintro j H' hj ⟨kds, k1, k2, k3, s2⟩
    have s02 := s1.trans s2
    refine ⟨rfl, iteT (B := True) ?_⟩
    refine ⟨_, rfl, _, rfl, _, _, rfl, rfl, a, ns, 3 + j, vs2 (by omega), hSq s02, ?_⟩
    generalize cellAt ns (3 + j) = c1
    refine ⟨_, rfl, _, _, rfl, rfl, .inl ⟨by decide, by decide⟩, _, _, rfl, rfl, _, rfl, _, 1 + j, vs2 (by omega), by omega, fun kd H2 hkd s3 => ?_⟩
    refine ⟨_, s3 _ _ k3, ?_, kds ++ [kd], ?_, fun k hk => ?_, ?_, fun b o e => ?_⟩
    · rw [List.length_map]
      exact small1000 (by omega)
    · rw [List.length_append, k1] <;> rfl
    · rcases List.mem_append.mp hk with h | h
      · exact k2 k h
      · rw [List.mem_singleton.mp h]
        exact hkd
    · rw [upd_same, List.map_append] <;> rfl
    · rw [upd_ne (ne_of_none e hD)]
      exact s3 _ _ (s2 b o e)
  rintro H2 ⟨kd1, k1, k2, k3, s2⟩
  refine ⟨p0, D, _, _, rfl, rfl, s2 _ _ e1, k3, ?_, fun wq hwq => ?_⟩
  · rw [List.length_map]
    show 1 + _ ≤ sizeLine
    exact Nat.le_trans (by omega : 1 + kd1.length ≤ 1000) (by decide)
  have s02 := s1.trans s2
  have hwqH : H wq = none := s02.free hwq
  obtain ⟨kds0, hk0, hk1, hk2, hk3⟩ : ∃ kds : List Kd, kds = ⟨.src, 0⟩ :: kd1 ∧ kds.length = many ∧ KdsOk kds ∧ True := ⟨_, rfl, by rw [List.length_cons]; omega, ⟨⟨_, rfl, rfl⟩, fun kd h => by
    rcases List.mem_cons.mp h with h | h
    · rw [h]
      exact ⟨fun z => by (cases z), fun _ => rfl⟩
    · exact k2 kd h⟩, trivial⟩
  have e2 : upd H2 wq (.lst ([V.str "in"] ++ kd1.map fun k => V.str k.word)) wq = some (.lst (kds0.map fun k => V.str k.word)) := by rw [upd_same, hk0] <;> rfl
  have s03 := s02.trans (Same.new (o := .lst ([V.str "in"] ++ kd1.map fun k => V.str k.word)) hwq)
  clear hk0 k1 k2 k3 s02 s2 e1 s1
  revert e2 s03
  generalize upd H2 wq _ = H3
  intro e2 s03
  -- the last one
  refine ⟨fun σ H' _ => ∃ kds : List Kd, kds.length = many ∧ KdsOk kds ∧ σ = [some (.ref a), some (.int (most : Int)), some (.int mark), some (.int (many : Int)), some (.ref wq), none, none, none, none, none, none, none, none, none] ∧ Same H H' ∧ H' wq = some (.lst (kds.map fun k => V.str k.word)), ?_, ?_⟩
  · refine ⟨_, rfl, _, _, rfl, rfl, (by decide : (0 : Int) < 6), _, _, rfl, rfl, _, rfl, ?_⟩
    refine ite2 (fun h1 => ?_) (fun h1 => ?_)
    · refine ⟨_, rfl, _, rfl, _, _, rfl, rfl, wq, _, _, many - 1, rfl, rfl, e2, ?_, ?_⟩
      · rw [List.length_map, hk1, show ((many : Int) - 1) = ((many - 1 : Nat) : Int) by omega]
        exact ixN_nat (by omega)
      · refine ⟨kds0.set (many - 1) ⟨.snk, 0⟩, by rw [List.length_set]; exact hk1, ⟨?_, fun kd h => ?_⟩, rfl, fun b o e => ?_, ?_⟩
        · obtain ⟨r, hr1, hr2⟩ := hk2.first
          exact ⟨r, by rw [List.getElem?_set_ne (by omega)]; exact hr1, hr2⟩
        · rcases List.mem_or_eq_of_mem_set h with h | h
          · exact hk2.ok kd h
          · rw [h]
            exact ⟨fun z => by (cases z), fun _ => rfl⟩
        · rw [upd_ne (ne_of_none e hwqH)]
          exact s03 b o e
        · rw [upd_same, List.map_set] <;> rfl
    · exact ⟨kds0, hk1, hk2, rfl, s03, e2⟩
  clear hk1 hk2 hk3 e2 s03 kds0
  rintro σ H4 b0 ⟨kds, hk1, hk2, rfl, s04, e4⟩
  have kat : ∀ k, k < many → ∃ kd, kds[k]? = some kd ∧ kd.ok ∧ atI (kds.map fun k => V.str k.word) (k : Int) = some (.str kd.word) := fun k hk => by
    have h1 : kds[k]? = some kds[k] := List.getElem?_eq_getElem (by omega)
    exact ⟨_, h1, (hk2.ok _ (List.mem_of_getElem? h1)).1, atI_nat (by rw [List.getElem?_map, h1] <;> rfl)⟩
  -- whence lines come
  refine ⟨_, rfl, (many : Int), rfl, by omega, by omega, fun fq hfq => ?_⟩
  have hfqH : H fq = none := s04.free hfq
  have hnt : ((many : Nat) : Int).toNat = many := rfl
  rw [hnt]
  refine lc_range (lo := 0) (n := many) (fun j H' => H' fq = some (.lst ((fromsOf kds j).map fun (k : Nat) => V.int (k : Int))) ∧ Same H4 H')
    ⟨upd_same, Same.new hfq⟩ ?_ ?_
  · rintro j H' hj ⟨e5, s5⟩
    refine ⟨rfl, ?_⟩
    obtain ⟨kd, hkd, hok, hat⟩ := kat j hj
    have ej : (0 : Int) + (j : Int) = (j : Int) := by omega
    rw [ej]
    refine ⟨_, rfl, _, rfl, wq, _, _, _, rfl, rfl, SqL.of (s5 _ _ e4), hat, rfl, _, rfl, ?_⟩
    rw [dstr]
    have ew : decide (tl kd.word = tl ("out" : Str)) = decide (kd.c = .snk) := by
      refine decide_eq_decide.mpr ⟨fun h => (isEnd_word kd).2.mp (ext_tl h), fun h => by rw [(isEnd_word kd).2.mpr h]⟩
    rw [ew]
    have en : notSnk kds j = !decide (kd.c = .snk) := by unfold notSnk; rw [hkd]
    rw [← en, froms_succ]
    refine ite2 (fun h1 => ?_) (fun h1 => ?_)
    · refine ⟨_, rfl, _, e5, ?_, ?_, fun b o e => ?_⟩
      · rw [List.length_map]
        exact small1000 (by have := froms_le kds j; omega)
      · rw [upd_same, if_pos h1, List.map_append] <;> rfl
      · rw [upd_ne (ne_of_none e hfq)]
        exact s5 b o e
    · rw [if_neg h1, List.append_nil]
      exact ⟨e5, s5⟩
  rintro H5 ⟨e5, s5⟩
  have s05 := s04.trans s5
  have e4 := s5 _ _ e4
  -- the parts
  refine ⟨Nat.zero_le _, fun pq hpq => ?_⟩
  have hpqH : H pq = none := s05.free hpq
  have g6 := ((Grow.refl sg).same s05).temp (o := .lst []) hpq
  have hwp : wq ≠ pq := ne_of_none e4 hpq
  have hfp : fq ≠ pq := ne_of_none e5 hpq
  have e4 := Same.new (o := .lst []) hpq _ _ e4
  have e5 := Same.new (o := .lst []) hpq _ _ e5
  have e6 : upd H5 pq (.lst []) pq = _ := upd_same
  clear s04 s5 s05
  revert g6 e4 e5 e6
  generalize upd H5 pq (HO.lst []) = H6
  intro g6 e4 e5 e6
  refine ⟨_, rfl, (many : Int), rfl, by omega, by omega, ?_⟩
  rw [hnt]
  have hGp : G pq = none := sg.free hpqH
  refine for_rangeN (lo := 0) (n := many) (fun k σ H' b => ∃ v5 v8 v9 v10 v11 v12 v13 G' vs ls, σ = [some (.ref a), some (.int (most : Int)), some (.int mark), some (.int (many : Int)), some (.ref wq), v5, some (.ref fq), some (.ref pq), v8, v9, v10, v11, v12, v13] ∧ Grow G H G' H' ∧
      H' wq = some (.lst (kds.map fun k => V.str k.word)) ∧ H' fq = some (.lst ((fromsOf kds many).map fun (k : Nat) => V.int (k : Int))) ∧ H' pq = some (.lst vs) ∧ G' pq = none ∧ All2 (LpAt3 G') vs ls ∧ ls.length = k ∧ (∀ j p, ls[j]? = some p → LpOk mark kds j p) ∧ (0 < k → Fst G' vs b))
    ⟨none, none, none, none, none, none, none, G, [], [], rfl, g6, e4, e5, e6, hGp, All2.nil, rfl, fun j p h => by simp at h, fun z => by cases z⟩ ?_ ?_
  rotate_left
  · rintro σ H7 b7 ⟨v5, v8, v9, v10, v11, v12, v13, G7, vs, ls, rfl, g7, w7, f7, e7, p7, hA, hl, hls, hF⟩
    have g8 := g7.keep hpqH p7 e7
    have ekd : ls.map Lp.kd = kds := by
      refine List.ext_getElem? fun i => ?_
      rw [List.getElem?_map]
      cases e : ls[i]? with
      | none =>
        have : kds.length ≤ i := by rw [hk1, ← hl]; exact List.getElem?_eq_none_iff.mp e
        rw [List.getElem?_eq_none this]
        rfl
      | some p => exact (hls i p e).kd.symm
    exact ⟨_, rfl, fun u hu => by
      cases hu
      exact q pq mark ls _ _ _ g8 hpqH ⟨vs, upd_same, hA.mono fun _ _ z => z.mono (Same.new p7), (hF (by omega)).mono (Same.new p7) (Nat.le_refl _)⟩ ⟨by omega, by omega, by rw [ekd]; exact hk2, fun j p h => by rw [ekd]; exact hls j p h⟩⟩
  rintro k σ H7 b7 hk ⟨v5, v8, v9, v10, v11, v12, v13, G7, vs, ls, rfl, g7, w7, f7, e7, p7, hA, hl, hls, hF⟩
  have ek : (0 : Int) + (k : Int) = (k : Int) := by omega
  rw [ek]
  obtain ⟨kd, hkd, hok, hat⟩ := kat k hk
  refine ⟨Nat.zero_le _, fun eq heq => ?_⟩
  have heqH : H eq = none := g7.hh.free heq
  have g8 := g7.temp (o := .lst []) heq
  have w8 := Same.new (o := .lst []) heq _ _ w7
  have f8 := Same.new (o := .lst []) heq _ _ f7
  have e8 := Same.new (o := .lst []) heq _ _ e7
  have q8 : upd H7 eq (.lst []) eq = _ := upd_same
  have z7 : G7 eq = none := g7.gh.free heq
  have hwe : wq ≠ eq := ne_of_none w7 heq
  have hfe : fq ≠ eq := ne_of_none f7 heq
  clear g7 w7 f7
  revert g8 w8 f8 e8 q8
  generalize upd H7 eq (HO.lst []) = H8
  intro g8 w8 f8 e8 q8
  have hep : eq ≠ pq := (ne_of_none e7 heq).symm
  clear heq e7
  refine ⟨_, rfl, _, rfl, wq, _, _, _, rfl, rfl, SqL.of w8, hat, kd, rfl, hok, _, rfl, by have := lines_le kd.c; omega, by have := lines_le kd.c; omega, ?_⟩
  have hlt : ((kd.c.lines : Nat) : Int).toNat = kd.c.lines := rfl
  rw [hlt]
  refine for_range (lo := 0) (n := kd.c.lines) (fun j σ H' => ∃ v9 v10 v11 v12 G' us fs, σ = [some (.ref a), some (.int (most : Int)), some (.int mark), some (.int (many : Int)), some (.ref wq), some (.int (k : Int)), some (.ref fq), some (.ref pq), some (.ref eq), v9, v10, v11, v12, v13] ∧ Grow G H G' H' ∧
      H' wq = some (.lst (kds.map fun k => V.str k.word)) ∧ H' fq = some (.lst ((fromsOf kds many).map fun (k : Nat) => V.int (k : Int))) ∧ H' pq = some (.lst vs) ∧ G' pq = none ∧ H' eq = some (.lst us) ∧ G' eq = none ∧ All2 (LpAt3 G') vs ls ∧ All2 (PairAt G') us fs ∧ fs.length = j ∧ (∀ f ∈ fs, FdOk kds k f) ∧ (0 < k → Fst G' vs b7))
    ⟨v9, v10, v11, v12, G7, [], [], rfl, g8, w8, f8, e8, p7, q8, z7, hA, All2.nil, rfl, (fun f h => by cases h), hF⟩ ?_ ?_
  · clear g8 w8 f8 e8 p7 q8 z7 hA hF v9 v10 v11 v12
    rintro j σ H9 hj ⟨v9, v10, v11, v12, G9, us, fs, rfl, g9, w9, f9, e9, p9, q9, z9, hA, hB, hfl, hfs, hF⟩
    have ej : (0 : Int) + (j : Int) = (j : Int) := by omega
    rw [ej]
    have hj3 : j < 3 := Nat.lt_of_lt_of_le hj (lines_le kd.c)
    refine ⟨_, rfl, _, rfl, _, _, rfl, rfl, a, ns, 2 + k, vs2 (by omega), hSq g9.hh, ?_⟩
    generalize cellAt ns (2 + k) = c1
    refine ⟨_, rfl, _, _, rfl, rfl, .inl ⟨by decide, by decide⟩, _, _, rfl, rfl, _, rfl, _, _, rfl, rfl, .inl ⟨by decide, by decide⟩, _, _, rfl, rfl, ?_⟩
    dsimp only
    generalize c1 + 977 * (k : Int) + 7919 * (j : Int) = cell
    have hfp := froms_pos hk2 (show 0 < many by omega)
    refine ⟨_, rfl, _, rfl, _, rfl, fq, _, rfl, .inl (SqL.of f9), cell, 3, ((fromsOf kds many).length : Int), by rw [List.length_map] <;> rfl, by decide, by omega, fun H10 s10 => ?_⟩
    have x0 := draw_lo cell 3 (m := ((fromsOf kds many).length : Int)) (by omega)
    have x1 := draw_hi cell 3 (m := ((fromsOf kds many).length : Int)) (by omega)
    generalize draw cell 3 ((fromsOf kds many).length : Int) = x at x0 x1
    obtain ⟨i, rfl⟩ := Int.eq_ofNat_of_zero_le x0
    obtain ⟨place, hpl⟩ : ∃ place, (fromsOf kds many)[i]? = some place := ⟨_, List.getElem?_eq_getElem (by omega)⟩
    have hplr := froms_ok (List.mem_of_getElem? hpl)
    refine ⟨fq, _, _, V.int (place : Int), rfl, rfl, SqL.of (s10 _ _ f9), atI_nat (by rw [List.getElem?_map, hpl] <;> rfl), ?_⟩
    have g10 := g9.same s10
    have w10 := s10 _ _ w9
    have f10 := s10 _ _ f9
    have e10 := s10 _ _ e9
    have q10 := s10 _ _ q9
    clear g9 w9 f9 e9 q9 s10
    -- held
    refine ⟨fun σ H' => ∃ held : Int, FdOk kds k (place, held) ∧ σ = [some (.ref a), some (.int (most : Int)), some (.int mark), some (.int (many : Int)), some (.ref wq), some (.int (k : Int)), some (.ref fq), some (.ref pq), some (.ref eq), some (.int (j : Int)), some (.int cell), some (.int (place : Int)), some (.int held), v13] ∧ Same H10 H', ?_, ?_⟩
    · refine ⟨_, rfl, _, rfl, _, _, rfl, rfl, _, rfl, ?_⟩
      refine ite2 (fun h1 => ?_) (fun h1 => ?_)
      · have h1 := of_decide_eq_true h1
        refine ⟨(by show 6 ≤ sizeLine; decide), fun t ht => ?_⟩
        refine ⟨_, rfl, cell, 4, 6, rfl, by decide, by decide, fun H11 s11 => ?_⟩
        have y0 := draw_lo cell 4 (show (0 : Int) < 6 by decide)
        have y1 := draw_hi cell 4 (show (0 : Int) < 6 by decide)
        generalize draw cell 4 6 = y at y0 y1
        obtain ⟨m, rfl⟩ := Int.eq_ofNat_of_zero_le y0
        obtain ⟨held, hh, hh0, hh1⟩ : ∃ held : Int, ([0, 0, 0, 1, 1, 2] : List Int)[m]? = some held ∧ 0 ≤ held ∧ held ≤ 2 := by
          have : ∀ m < 6, ∃ held : Int, ([0, 0, 0, 1, 1, 2] : List Int)[m]? = some held ∧ 0 ≤ held ∧ held ≤ 2 := by
            intro m hm
            match m, hm with
            | 0, _ => exact ⟨0, rfl, by decide, by decide⟩
            | 1, _ => exact ⟨0, rfl, by decide, by decide⟩
            | 2, _ => exact ⟨0, rfl, by decide, by decide⟩
            | 3, _ => exact ⟨1, rfl, by decide, by decide⟩
            | 4, _ => exact ⟨1, rfl, by decide, by decide⟩
            | 5, _ => exact ⟨2, rfl, by decide, by decide⟩
          exact this m (by omega)
        refine ⟨t, ([0, 0, 0, 1, 1, 2] : List Int).map V.int, _, .int held, rfl, rfl, SqT.of (s11 _ _ upd_same), atI_nat (by rw [List.getElem?_map, hh] <;> rfl), ?_⟩
        exact ⟨held, ⟨hplr, hh0, by show held ≤ 3; omega, fun z => by omega⟩, rfl, (Same.new ht).trans s11⟩
      · refine ⟨_, rfl, cell, 5, 3, rfl, by decide, by decide, fun H11 s11 => ?_⟩
        have y0 := draw_lo cell 5 (show (0 : Int) < 3 by decide)
        have y1 := draw_hi cell 5 (show (0 : Int) < 3 by decide)
        generalize draw cell 5 3 = y at y0 y1
        refine ⟨_, _, rfl, rfl, ⟨by decide, by decide⟩, _, _, rfl, rfl, ?_⟩
        exact ⟨1 + y / 2, ⟨hplr, by show 0 ≤ 1 + y / 2; omega, by show 1 + y / 2 ≤ 3; omega, fun _ => by show 1 ≤ 1 + y / 2; omega⟩, rfl, s11⟩
    rintro σ H11 ⟨held, hfd, rfl, s11⟩
    have g11 := g10.same s11
    have w11 := s11 _ _ w10
    have f11 := s11 _ _ f10
    have e11 := s11 _ _ e10
    have q11 := s11 _ _ q10
    clear g10 w10 f10 e10 q10 s11
    refine ⟨_, rfl, .inl ⟨rfl, _, SqL.of q11⟩, _, rfl, _, rfl, (by show 2 ≤ sizeLine; decide), fun t ht => ?_⟩
    have het : eq ≠ t := ne_of_none q11 ht
    refine ⟨eq, us, _, rfl, rfl, by rw [upd_ne het]; exact q11, by rw [hB.1]; exact small1000 (by omega), ?_⟩
    have hpt : pq ≠ t := ne_of_none e11 ht
    refine ⟨_, _, _, _, upd G9 t (.tup [.int (place : Int), .int held]), _, fs ++ [(place, held)], rfl, (g11.new ht).mut heqH (by rw [upd_ne het]; exact z9), ?_, ?_, ?_, by rw [upd_ne hpt]; exact p9, upd_same, by rw [upd_ne het]; exact z9,
      hA.mono fun _ _ z => z.mono (Same.new (g11.gh.free ht)), (hB.mono fun _ _ z => z.mono (Same.new (g11.gh.free ht))).push ⟨t, rfl, upd_same⟩, by rw [List.length_append, hfl] <;> rfl, fun f hf => ?_, fun z => (hF z).mono (Same.new (g11.gh.free ht)) (Nat.le_refl _)⟩
    · rw [upd_ne hwe, upd_ne (ne_of_none w11 ht)]
      exact w11
    · rw [upd_ne hfe, upd_ne (ne_of_none f11 ht)]
      exact f11
    · rw [upd_ne hep.symm, upd_ne hpt]
      exact e11
    · rcases List.mem_append.mp hf with h | h
      · exact hfs f h
      · rw [List.mem_singleton.mp h]
        exact hfd
  · clear g8 w8 f8 e8 p7 q8 z7 hA hF v9 v10 v11 v12
    rintro σ H9 ⟨v9, v10, v11, v12, G9, us, fs, rfl, g9, w9, f9, e9, p9, q9, z9, hA, hB, hfl, hfs, hF⟩
    refine ⟨(by show 8 ≤ sizeLine; decide), fun t ht => ?_⟩
    have s10 : Same H9 (upd H9 t (.tup (([0, 1, 2, 3, 5, 1, 7, 40] : List Int).map V.int))) := Same.new ht
    refine ⟨_, rfl, _, rfl, _, _, rfl, rfl, a, ns, 2 + k, vs2 (by omega), hSq (g9.hh.trans s10), ?_⟩
    generalize cellAt ns (2 + k) = c1
    refine ⟨_, rfl, _, _, rfl, rfl, .inl ⟨by decide, by decide⟩, _, _, rfl, rfl, c1 + 977 * (k : Int), 6, 8, rfl, by decide, by decide, fun H11 s11 => ?_⟩
    have y0 := draw_lo (c1 + 977 * (k : Int)) 6 (show (0 : Int) < 8 by decide)
    have y1 := draw_hi (c1 + 977 * (k : Int)) 6 (show (0 : Int) < 8 by decide)
    generalize draw (c1 + 977 * (k : Int)) 6 8 = y at y0 y1
    obtain ⟨m, rfl⟩ := Int.eq_ofNat_of_zero_le y0
    obtain ⟨time, hh, hh0, hh1⟩ : ∃ time : Int, ([0, 1, 2, 3, 5, 1, 7, 40] : List Int)[m]? = some time ∧ 0 ≤ time ∧ time ≤ 40 := by
      have : ∀ m < 8, ∃ time : Int, ([0, 1, 2, 3, 5, 1, 7, 40] : List Int)[m]? = some time ∧ 0 ≤ time ∧ time ≤ 40 := by
        intro m hm
        match m, hm with
        | 0, _ => exact ⟨0, rfl, by decide, by decide⟩
        | 1, _ => exact ⟨1, rfl, by decide, by decide⟩
        | 2, _ => exact ⟨2, rfl, by decide, by decide⟩
        | 3, _ => exact ⟨3, rfl, by decide, by decide⟩
        | 4, _ => exact ⟨5, rfl, by decide, by decide⟩
        | 5, _ => exact ⟨1, rfl, by decide, by decide⟩
        | 6, _ => exact ⟨7, rfl, by decide, by decide⟩
        | 7, _ => exact ⟨40, rfl, by decide, by decide⟩
      exact this m (by omega)
    refine ⟨t, ([0, 1, 2, 3, 5, 1, 7, 40] : List Int).map V.int, _, .int time, rfl, rfl, SqT.of (s11 _ _ upd_same), atI_nat (by rw [List.getElem?_map, hh] <;> rfl), ?_⟩
    have s9 := s10.trans s11
    have g10 := g9.same s9
    have w10 := s9 _ _ w9
    have f10 := s9 _ _ f9
    have e10 := s9 _ _ e9
    have q10 := s9 _ _ q9
    clear g9 w9 f9 e9 q9 s10 s11 s9
    have asIn : decide (tl kd.word = tl ("in" : Str)) = decide (kd.c = .src) := decide_eq_decide.mpr ⟨fun h => (isEnd_word kd).1.mp (ext_tl h), fun h => by rw [(isEnd_word kd).1.mpr h]⟩
    have asOut : decide (tl kd.word = tl ("out" : Str)) = decide (kd.c = .snk) := decide_eq_decide.mpr ⟨fun h => (isEnd_word kd).2.mp (ext_tl h), fun h => by rw [(isEnd_word kd).2.mpr h]⟩
    refine ⟨fun σ H' b => ∃ time : Int, b = b7 ∧ 0 ≤ time ∧ time ≤ 40 ∧ (kd.c = .src ∨ kd.c = .snk → time = 0) ∧ σ = [some (.ref a), some (.int (most : Int)), some (.int mark), some (.int (many : Int)), some (.ref wq), some (.int (k : Int)), some (.ref fq), some (.ref pq), some (.ref eq), v9, v10, v11, v12, some (.int time)] ∧ H' = H11, ?_, ?_⟩
    · refine ⟨_, rfl, _, rfl, wq, _, _, _, rfl, rfl, SqL.of w10, hat, rfl, _, rfl, ?_⟩
      rw [dstr, asIn]
      refine ite2 (fun h1 => ?_) (fun h1 => ?_)
      · exact iteT ⟨0, rfl, by decide, by decide, fun _ => rfl, rfl, rfl⟩
      · refine ⟨_, rfl, _, rfl, wq, _, _, _, rfl, rfl, SqL.of w10, hat, rfl, _, rfl, ?_⟩
        rw [dstr, asOut]
        refine ite2 (fun h2 => ?_) (fun h2 => ?_)
        · exact ⟨0, rfl, by decide, by decide, fun _ => rfl, rfl, rfl⟩
        · exact ⟨time, rfl, hh0, hh1, fun z => absurd z (by rintro (z | z); exact h1 (decide_eq_true z); exact h2 (decide_eq_true z)), rfl, rfl⟩
    rintro σ _ _ ⟨time, rfl, ht0, ht1, ht2, rfl, rfl⟩
    refine ⟨_, rfl, .inl ⟨rfl, _, SqL.of e10⟩, ?_⟩
    refine ⟨_, rfl, fun u1 hu1 => ?_⟩
    refine ⟨_, rfl, fun u2 hu2 => ?_⟩
    refine ⟨k, mark, rfl, by omega, fun tk b8 hb htk htb => ?_⟩
    refine ⟨_, rfl, _, rfl, wq, _, _, _, rfl, rfl, SqL.of w10, hat, fun u3 hu3 => ?_⟩
    refine ⟨_, rfl, fun u4 hu4 => ?_⟩
    refine ⟨_, rfl, fun u5 hu5 => ?_⟩
    refine ⟨(by show 4 ≤ sizeLine; decide), fun t ob ht hoc hod => ?_⟩
    have hpt : pq ≠ t := ne_of_none e10 ht
    have het : eq ≠ t := ne_of_none q10 ht
    refine ⟨pq, vs, _, rfl, rfl, by rw [upd_ne hpt]; exact e10, by rw [hA.1, hl]; exact small1000 (by omega), fun u6 hu6 => ?_⟩
    have g11 := g10.keep heqH z9 q10
    have gs : Same G9 (upd (upd G9 eq (.lst us)) t (.frz ob (.tup [.str (lawName k mark), .str kd.word, .int time, .ref eq]))) := (Same.new z9).trans (Same.new (g11.gh.free ht))
    have hgp : (upd (upd G9 eq (.lst us)) t (.frz ob (.tup [.str (lawName k mark), .str kd.word, .int time, .ref eq]))) pq = none := by rw [upd_ne hpt, upd_ne hep.symm]; exact p9
    have hwp : wq ≠ pq := hwp
    have hfp : fq ≠ pq := hfp
    refine ⟨_, _, _, _, _, _, _, upd (upd G9 eq (.lst us)) t (.frz ob (.tup [.str (lawName k mark), .str kd.word, .int time, .ref eq])), _, ls ++ [⟨lawName k mark, kd, time, fs⟩], rfl, (g11.new ht).mut hpqH hgp, ?_, ?_, upd_same, hgp,
      (hA.mono fun _ _ z => z.mono gs).push ⟨t, eq, us, rfl, ⟨ob, upd_same⟩, by rw [upd_ne het, upd_same], hB.mono fun _ _ z => z.mono gs⟩, by rw [List.length_append, hl] <;> rfl, fun j p hj => ?_, fun _ => ?_⟩
    · rw [upd_ne hwp, upd_ne (ne_of_none w10 ht)]
      exact w10
    · rw [upd_ne hfp, upd_ne (ne_of_none f10 ht)]
      exact f10
    · by_cases hjl : j < ls.length
      · rw [List.getElem?_append_left hjl] at hj
        exact hls j p hj
      · have hjk : j = k := by
          have := lt_of_get hj
          rw [List.length_append, List.length_singleton] at this
          omega
        subst hjk
        rw [List.getElem?_append_right (by omega), hl, Nat.sub_self] at hj
        cases hj
        exact ⟨rfl, hkd, ht0, ht1, ht2, hfl, hfs⟩
    · by_cases hk0 : 0 < k
      · exact ((hF hk0).mono gs hb).push
      · have hv0 : vs = [] := List.eq_nil_of_length_eq_zero (by rw [hA.1, hl]; omega)
        obtain ⟨m, hod⟩ := hod
        exact ⟨t, ob, tk, _, m, _, _, by rw [hv0] <;> rfl, upd_same, hoc, hod, (by show 3 < 1000; decide), htk, htb⟩
end
end SW


/-! ### the law's text -/
namespace SW
open PySem PySem.Spec PyProof.Rows L2 He TL
def spLawText3 (K : PySem.W.Frag) : Sp := fun vs H Q _ => ∃ (G : Hp) (a : Addr) (most : Nat) (mark : Int) (ls : List Lp) (n : Nat), vs = [.ref a] ∧ Same G H ∧ LawAt3 G a ls n ∧ LawOk most mark ls ∧ most ≤ 59 ∧
  ∀ H', Same H H' → Q (.str (shownText (worksOf ls))) H'
section
variable {P : Program} {w : World} {K : PySem.W.Frag} {mg : Str → Option Value} {base : Heap}
theorem ok_law_text3 (T : Txt K mg) : Ok P w K mg base 1 (ga K "_law_text") ["_law_parts"] (spLawText3 K) := by
  refine mkOk T.F_law_text sc_law_text (fun _ _ _ _ _ _ us hl => match us, hl with | [_], _ => rfl) (by rintro vs H Q E ⟨_, _, _, _, _, _, rfl, _⟩; rfl) (fun cdv A outer s H vs Q E hr h => ?_)
  obtain ⟨G, a, most, mark, ls, nn, rfl, sg, hla, hok, hm, q⟩ := h
  have ⟨us, ha, hA, _⟩ := hla
  have gd := hok.good hm
  have hi := hok.hi
  refine ⟨_, (pss_cons (ps_set (i := 1) sc_law_text.nd rfl (by first | exact Or.inl rfl | exact Or.inr rfl) (pe_lst pa_nil))
      (pss_cons (ps_for PassesOwn.never rfl (piL (K := K) (pv 0)) (pg_name (i := 2) sc_law_text.nd rfl (by first | exact Or.inl rfl | exact Or.inr rfl))
      (pss_cons (ps_set (i := 3) sc_law_text.nd rfl (by first | exact Or.inl rfl | exact Or.inr rfl) (pe_lst (pa_cons (pe_ix (ixT (K := K)) (pv 2) pe_int (fun _ _ => rfl)) (pa_cons (pe_ix (ixT (K := K)) (pv 2) pe_int (fun _ _ => rfl)) (pa_cons (pe_callTy call_str_int (by rfl) T.f_str (by decide +kernel) (pa_cons (pe_ix (ixT (K := K)) (pv 2) pe_int (fun _ _ => rfl)) pa_nil)) pa_nil)))))
      (pss_cons (ps_for PassesOwn.never rfl (piL (K := K) (pe_ix (ixT (K := K)) (pv 2) pe_int (fun _ _ => rfl))) (pg_name (i := 4) sc_law_text.nd rfl (by first | exact Or.inl rfl | exact Or.inr rfl))
      (pss_one (ps_expr (pe_bm PySem.F.plainAttrs_list PySem.F.slot_list_append PySem.F.type_list_append mt_append (pv 3) (pa_cons (pe_op op_add_str (pe_ix (ixT (K := K)) (pe_ix (ixL (K := K)) (pv 0) (pe_ix (ixT (K := K)) (pv 4) pe_int (fun _ _ => rfl)) (fun _ _ => rfl)) pe_int (fun _ _ => rfl)) (pe_ifExp (pt_cmpR op_gt (pe_ix (ixT (K := K)) (pv 4) pe_int (fun _ _ => rfl)) pe_int (nomark _)) (pe_op op_add_str pe_str (pe_callTy call_str_int (by rfl) T.f_str (by decide +kernel) (pa_cons (pe_ix (ixT (K := K)) (pv 4) pe_int (fun _ _ => rfl)) pa_nil))) pe_str)) pa_nil)))))
      (pss_one (ps_expr (pe_bm PySem.F.plainAttrs_list PySem.F.slot_list_append PySem.F.type_list_append mt_append (pv 1) (pa_cons (pe_join pe_str (pv 3)) pa_nil)))))))
      (pss_one (ps_ret (pe_join pe_str (pv 1)))))), ?_⟩
  refine ⟨Nat.zero_le _, fun qo hq => ?_⟩
  refine ⟨_, rfl, a, rfl, ⟨_, SqL.of (Same.new hq _ _ (sg _ _ ha))⟩, ?_⟩
  refine for_list (K := K) (a := a) (xs := us) (fun i σ H' => ∃ v2 v3 v4, σ = [some (.ref a), some (.ref qo), v2, v3, v4] ∧ Same H H' ∧ H' qo = some (.lst ((((worksOf ls).take i).map shownRow).map V.str)))
    ⟨none, none, none, rfl, Same.new hq, upd_same⟩ (fun i σ H' _ h => by obtain ⟨_, _, _, _, s, _⟩ := h; exact SqL.of (s _ _ (sg _ _ ha))) ?_ ?_
  · rintro i x σ H1 hi' ⟨v2, v3, v4, rfl, s1, e1⟩
    obtain ⟨p, hpi, b, m, ws, rfl, hp⟩ := hA.get hi'
    have hlp := hok.each i p hpi
    have hpm : pdOf ls p ∈ worksOf ls := List.mem_map.mpr ⟨p, List.mem_of_getElem? hpi, rfl⟩
    have hpi' : (worksOf ls)[i]? = some (pdOf ls p) := by unfold worksOf; rw [List.getElem?_map, hpi] <;> rfl
    obtain ⟨ob1, hob1⟩ := hp.ob
    have hob : ∀ {H'}, Same H H' → SqT K H' b _ := fun s => .inl (.inr ⟨ob1, s _ _ (sg _ _ hob1)⟩)
    obtain ⟨rw1, rw2⟩ := rowWords_le gd.wf gd.tell (gd.fit _ hpm).1 hpm
    have tp := gd.tell _ hpm
    refine ⟨_, rfl, b, _, _, _, rfl, rfl, (hob s1), at0 _ _, ?_⟩
    refine ⟨_, rfl, b, _, _, _, rfl, rfl, (hob s1), at1 _ _ _, ?_⟩
    refine ⟨_, rfl, b, _, _, _, rfl, rfl, (hob s1), at2 _ _ _ _, _, rfl, dgt _ (by have := tp.1; exact Nat.lt_of_lt_of_le (show p.time.natAbs < 10000 from by have h1 : 0 ≤ p.time := this.1; have h2 : p.time < 10000 := this.2; omega) (by decide)), ?_⟩
    refine ⟨(by show 3 ≤ sizeLine; decide), fun wo hwo => ?_⟩
    have hwoH : H wo = none := s1.free hwo
    have s2 := s1.trans (Same.new (o := .lst [.str p.name, .str p.kd.word, .str (Str.ofString (toString p.time))]) hwo)
    have e2 : upd H1 wo (.lst [.str p.name, .str p.kd.word, .str (Str.ofString (toString p.time))]) qo = _ := (Same.new hwo) _ _ e1
    refine ⟨_, rfl, b, _, _, _, rfl, rfl, (hob s2), at3 _ _ _ _ _, m, rfl, ⟨_, SqL.of (s2 _ _ (sg _ _ hp.ls))⟩, ?_⟩
    have hqw : qo ≠ wo := ne_of_none e1 hwo
    refine for_list (K := K) (a := m) (xs := ws) (fun j σ H' => ∃ v4, σ = [some (.ref a), some (.ref qo), some (.ref b), some (.ref wo), v4] ∧ Same H H' ∧ H' qo = some (.lst ((((worksOf ls).take i).map shownRow).map V.str)) ∧ H' wo = some (.lst (([p.name, p.kd.word, Str.ofString (toString p.time)] ++ ((pdOf ls p).feeds.take j).map feedText).map V.str)))
      ⟨v4, rfl, s2, e2, upd_same⟩ (fun i σ H' _ h => by obtain ⟨_, _, s, _⟩ := h; exact SqL.of (s _ _ (sg _ _ hp.ls))) ?_ ?_
    · rintro j y σ H3 hj ⟨v4, rfl, s3, e3, f3⟩
      obtain ⟨f, hfj, t, rfl, htup⟩ := hp.fs.get hj
      have hfm : f ∈ p.feeds := List.mem_of_getElem? hfj
      have ht3 := s3 _ _ (sg _ _ htup)
      obtain ⟨r, hr1, hr2⟩ := hok.feed (List.mem_of_getElem? hpi) hfm
      obtain ⟨rv, hrv, rt, rl, rvs, rfl, hrp⟩ := hA.get' hr1
      obtain ⟨ob2, hob2⟩ := hrp.ob
      have hrt : SqT K H3 rt _ := .inl (.inr ⟨ob2, s3 _ _ (sg _ _ hob2)⟩)
      have fd := hlp.fd f hfm
      have f0 := fd.2.1
      have f2 := fd.2.2.1
      have hfj' : (pdOf ls p).feeds[j]? = some (nameAt ls f.1, f.2) := by
        show (p.feeds.map _)[j]? = _
        rw [List.getElem?_map, hfj] <;> rfl
      have ename : nameAt ls f.1 = r.name := nameAt_of hr1
      rw [ename] at hfj'
      have nl : r.name.length ≤ 8 := name_len (gd.wf.nn (pdOf ls r) (List.mem_map.mpr ⟨r, List.mem_of_getElem? hr1, rfl⟩))
      refine ⟨_, rfl, .inl ⟨rfl, _, SqL.of f3⟩, ?_⟩
      have put : ∃ p_1 ys x, V.ref wo = V.ref p_1 ∧ [V.str (feedText (r.name, f.2))] = [x] ∧ H3 p_1 = some (.lst ys) ∧ ys.length < sizeLine ∧ ∃ v4, [some (V.ref a), some (V.ref qo), some (V.ref b), some (V.ref wo), some (.ref t)] = [some (V.ref a), some (V.ref qo), some (V.ref b), some (V.ref wo), v4] ∧ Same H (upd H3 p_1 (.lst (ys ++ [x]))) ∧ (upd H3 p_1 (.lst (ys ++ [x]))) qo = some (.lst ((((worksOf ls).take i).map shownRow).map V.str)) ∧ (upd H3 p_1 (.lst (ys ++ [x]))) wo = some (.lst (([p.name, p.kd.word, Str.ofString (toString p.time)] ++ ((pdOf ls p).feeds.take (j + 1)).map feedText).map V.str)) := by
        refine ⟨wo, _, _, rfl, rfl, f3, ?_, _, rfl, fun c o e => ?_, ?_, ?_⟩
        · rw [List.length_map, List.length_append, List.length_map, List.length_take]
          have h1 : (pdOf ls p).feeds.length = _ := gd.wf.ln _ hpm
          have h2 := lines_le (pdOf ls p).kd.c
          exact small1000 (by show 3 + _ ≤ 1000; omega)
        · rw [upd_ne (ne_of_none e hwoH)]
          exact s3 c o e
        · rw [upd_ne hqw]
          exact e3
        · rw [upd_same, take_one hfj']
          simp only [List.map_append, List.map_cons, List.map_nil, List.append_assoc]
      refine ⟨_, rfl, _, rfl, t, _, _, _, rfl, rfl, SqT.of ht3, at0 _ _, a, _, _, .ref rt, rfl, rfl, SqL.of (s3 _ _ (sg _ _ ha)), atI_nat hrv, rt, _, _, _, rfl, rfl, hrt, at0 _ _, ?_⟩
      refine ⟨_, rfl, t, _, _, _, rfl, rfl, SqT.of ht3, at1 _ _ _, _, _, rfl, rfl, _, rfl, ?_⟩
      refine ite2 (fun h0 => ?_) (fun h0 => ?_)
      · have h0' : ¬ f.2 = 0 := by have := of_decide_eq_true h0; omega
        have ef : feedText (r.name, f.2) = r.name ++ (("/" : Str) ++ Str.ofString (toString f.2)) := by unfold feedText; rw [if_neg h0', app3]
        have l2 := num_len f0 (by omega)
        have l1 : (("/" : Str) ++ Str.ofString (toString f.2)).length = 1 + (Str.ofString (toString f.2)).length := by rw [len_tl, tl_append, List.length_append, ← len_tl, ← len_tl, slash_len]
        refine ⟨_, rfl, t, _, _, _, rfl, rfl, SqT.of ht3, at1 _ _ _, _, rfl, dgt _ (Nat.lt_of_lt_of_le (by omega : f.2.natAbs < 10000) (by decide)), _, _, rfl, rfl, Nat.le_trans (show ("/" : Str).length + (Str.ofString (toString f.2)).length ≤ 100 by rw [slash_len]; omega) (by decide), ?_⟩
        refine ⟨_, _, rfl, rfl, Nat.le_trans (show r.name.length + (("/" : Str) ++ Str.ofString (toString f.2)).length ≤ 100 by omega) (by decide), ?_⟩
        rw [ef] at put
        exact put
      · have h0' : f.2 = 0 := by
          have : ¬ (f.2 > 0) := fun z => h0 (decide_eq_true z)
          omega
        have ef : feedText (r.name, f.2) = r.name ++ ("" : Str) := by unfold feedText; rw [if_pos h0', app_emp]
        refine ⟨_, _, rfl, rfl, Nat.le_trans (show r.name.length + ("" : Str).length ≤ 100 by rw [show ("" : Str).length = 0 by decide +kernel]; omega) (by decide), ?_⟩
        rw [ef] at put
        exact put
    · rintro σ H3 ⟨v4, rfl, s3, e3, f3⟩
      have hfl : ws.length = (pdOf ls p).feeds.length := by rw [hp.fs.1]; exact (List.length_map ..).symm
      rw [hfl, List.take_length] at f3
      refine ⟨_, rfl, .inl ⟨rfl, _, SqL.of e3⟩, ?_⟩
      have hsum : ((rowWords (pdOf ls p)).map (·.length)).sum + (rowWords (pdOf ls p)).length * (" " : Str).length ≤ 16777216 := by
        have h4 := sum_le (fun x : Str => x.length) 20 (rowWords (pdOf ls p)) rw1
        have e : (" " : Str).length = 1 := by decide +kernel
        have h5 := Nat.mul_le_mul_right 20 rw2
        rw [e]
        omega
      refine ⟨⟨_, rfl⟩, _, rfl, _, wo, rowWords (pdOf ls p), rfl, rfl, .inl (SqL.of f3), hsum, ?_⟩
      refine ⟨qo, _, _, rfl, rfl, e3, ?_, _, _, _, rfl, fun c o e => ?_, ?_⟩
      · rw [List.length_map, List.length_map, List.length_take]
        have h1 := gd.wf.few
        exact small1000 (by omega)
      · rw [upd_ne (ne_of_none e hq)]
        exact s3 c o e
      · rw [upd_same, take_one hpi']
        simp only [List.map_append, List.map_cons, List.map_nil]
        rfl
  · rintro σ H1 ⟨v2, v3, v4, rfl, s1, e1⟩
    have hwl : us.length = (worksOf ls).length := by rw [hA.1]; exact (List.length_map ..).symm
    rw [hwl, List.take_length] at e1
    have hsum : (((worksOf ls).map shownRow).map (·.length)).sum + ((worksOf ls).map shownRow).length * ("\n" : Str).length ≤ 16777216 := by
      have h4 := sum_le (fun x : Str => x.length) 130 ((worksOf ls).map shownRow) fun z hz => by
        obtain ⟨p, hpm, rfl⟩ := List.mem_map.mp hz
        exact gd.row_len hpm
      have e : ("\n" : Str).length = 1 := by decide +kernel
      rw [List.length_map] at h4 ⊢
      have h5 := Nat.mul_le_mul_right 130 gd.wf.few
      rw [e]
      omega
    refine ⟨⟨_, rfl⟩, _, rfl, _, qo, (worksOf ls).map shownRow, rfl, rfl, .inl (SqL.of e1), hsum, ?_⟩
    exact q _ s1
end
end SW


/-! ### a row that is not of its form -/
namespace SW
open PySem PySem.Spec PyProof.Rows L2 He TL
def badTails : List Str := ["", " and 1 ONE", " and 1 TWO ONE", " and 1001 TWO", " and 01 TWO", " nor 1 TWO", " in 1", " out 2 ONE", " up 1 ONE", " up:64 1 ONE", " out 0 ONE/101", " out 0 ONE/", " out 0 ONE/01", " out 0 ONE/1/1", " and -1 TWO", " out 0 A"]
def twoOf (one : Str) : Str := (one ++ " ") ++ one
def badRow (which : Nat) (one : Str) : Str :=
  if 15 < which then ((([ "Qq", "aaaaaaaaa" ] : List Str)[which - 16]?).getD "" ++ " and 1 ") ++ twoOf one
  else "zz" ++ Txt.replace (Txt.replace ((badTails[which]?).getD "") "ONE" one) "TWO" (twoOf one)
def spBadN : SpN := fun us vs H n Q => ∃ (which : Nat) (one : Str) (tk tw : Tok), vs = [.int (which : Nat), .str one] ∧ us = [.int (which : Nat) tw, .str one tk] ∧ which < 18 ∧ one.length ≠ 0 ∧ one.length ≤ 8 ∧ tk ≠ 0 ∧ tk < n ∧ (("ONE" : Str) == one) = false ∧ (("TWO" : Str) == twoOf one) = false ∧
  ∀ u H' n', n ≤ n' → Same H H' → Q u (.str (badRow which one)) H' n'
theorem putM_ne {m : Mp} {x y : Str} {u : Value} (h : y ≠ x) : putM m x u y = m y := if_neg h
theorem putM_eq {m : Mp} {x : Str} {u : Value} : putM m x u x = some u := if_pos rfl
section
variable {P : Program} {w : World} {K : PySem.W.Frag} {mg : Str → Option Value} {base : Heap}
theorem ok_law_badN (T : Txt K mg) : OkN P w K mg base 1 (ga K "_law_bad") ["_law_which", "_law_one"] spBadN := by
  refine mkOkM T.F_law_bad sc_law_bad (fun _ _ _ _ _ _ us hl => match us, hl with | [_, _], _ => rfl) (by decide +kernel) (by decide) (by rintro us vs H n Q ⟨_, _, _, _, rfl, _⟩; rfl) (fun cdv A outer s H us vs n Q hr h => ?_)
  obtain ⟨which, one, tk, tw, rfl, rfl, hw, hl0, hl8, htk, htn, ho1, ho2, q⟩ := h
  refine ⟨_, (pssm_cons (psm_set (i := 2) sc_law_bad.nd rfl (by rfl) (pem_cat (pem_cat (pem_name (x := "_law_one") (by rfl)) pem_str) (pem_name (x := "_law_one") (by rfl)))) (pssm_cons (psm_set (i := 3) sc_law_bad.nd rfl (by rfl) (pem_tup (rawc_cons (rawc_cons (rawc_cons (rawc_cons (rawc_cons (rawc_cons (rawc_cons (rawc_cons (rawc_cons (rawc_cons (rawc_cons (rawc_cons (rawc_cons (rawc_cons (rawc_cons (rawc_cons rawc_nil)))))))))))))))))) (pssm_cons (psm_ifgt (by rfl) (pss_one (ps_ret (pe_op op_add_str (pe_op op_add_str (pe_ix (ixT (K := K)) (pe_tup (pa_cons pe_str (pa_cons pe_str pa_nil))) (pe_op op_sub (pv 0) pe_int) (fun _ _ => rfl)) pe_str) (pv 2))))) (pssm_one (psm_retcat pem_str (pem_repl (pem_repl (pem_ix (K := K) (by rfl) (by rfl) (fun _ _ => rfl)) pem_str (pem_name (x := "_law_one") (by rfl))) pem_str (pem_name (x := "_law_two") (by rfl)))))))), ?_⟩
  have hone : ((["_law_which", "_law_one"] : List Str).zip [Value.int (which : Nat) tw, Value.str one tk]).reverse.lookup ("_law_one" : Str) = some (.str one tk) := by rfl
  have hwh : ((["_law_which", "_law_one"] : List Str).zip [Value.int (which : Nat) tw, Value.str one tk]).reverse.lookup ("_law_which" : Str) = some (.int (which : Nat) tw) := by rfl
  have la : ∀ a b : Str, (a ++ b).length = a.length + b.length := fun a b => by rw [len_tl, tl_append, List.length_append, ← len_tl, ← len_tl]
  have big : ∀ {n : Nat}, n ≤ 1000 → n ≤ sizeLine := fun h => Nat.le_trans h (by decide)
  have l1 : (" " : Str).length = 1 := by decide +kernel
  refine ⟨_, .str one, hone, ⟨tk, rfl⟩, fun ta na ha1 ha2 => ⟨one, " ", rfl, rfl, hl0, by rw [l1]; decide, big (by rw [l1]; omega), fun tb nb hb1 hb2 => ⟨_, .str one, hone, ⟨tk, rfl⟩, one ++ " ", one, rfl, rfl, by rw [la]; omega, hl0, big (by rw [la, l1]; omega), fun t2 n2 h21 h22 => ?_⟩⟩⟩
  have l2 : (twoOf one).length ≤ 17 := by unfold twoOf; rw [la, la, l1]; omega
  refine ⟨by show 16 ≤ sizeLine; decide, fun p hp => ?_⟩
  refine ⟨(which : Nat), tw, ?_, fun hgt => ?_, fun hle => ?_⟩
  · rw [putM_ne (by decide +kernel), putM_ne (by decide +kernel)]
    exact hwh
  · have e16 : which = 16 ∨ which = 17 := by omega
    have lq : ("Qq" : Str).length ≤ 20 ∧ ("aaaaaaaaa" : Str).length ≤ 20 ∧ (" and 1 " : Str).length ≤ 20 := by decide +kernel
    rcases e16 with rfl | rfl
    · refine ⟨by show 2 ≤ sizeLine; decide, fun t ht => ⟨_, rfl, _, _, rfl, rfl, t, _, _, _, rfl, rfl, SqT.of upd_same, at0 _ _, _, _, rfl, rfl, big (by omega), _, rfl, _, _, rfl, rfl, big (by rw [la]; unfold twoOf at l2; omega), fun u hu => ?_⟩⟩
      exact q u _ _ (by omega) ((Same.new hp).trans (Same.new ht))
    · refine ⟨by show 2 ≤ sizeLine; decide, fun t ht => ⟨_, rfl, _, _, rfl, rfl, t, _, _, _, rfl, rfl, SqT.of upd_same, at1 _ _ _, _, _, rfl, rfl, big (by omega), _, rfl, _, _, rfl, rfl, big (by rw [la]; unfold twoOf at l2; omega), fun u hu => ?_⟩⟩
      exact q u _ _ (by omega) ((Same.new hp).trans (Same.new ht))
  · have hw16 : which < 16 := by omega
    obtain ⟨tail, htl⟩ : ∃ tail, badTails[which]? = some tail := ⟨_, List.getElem?_eq_getElem (by show which < 16; exact hw16)⟩
    have ltl : tail.length ≤ 20 := (by decide +kernel : ∀ x ∈ badTails, x.length ≤ 20) tail (List.mem_of_getElem? htl)
    have b1 : (tail.length + 1) * one.length ≤ 21 * 8 := Nat.mul_le_mul (by omega) hl8
    have b2 := TK.replace_len tail "ONE" one
    have l3 : (Txt.replace tail "ONE" one).length ≤ 188 := by omega
    have b3 : ((Txt.replace tail "ONE" one).length + 1) * (twoOf one).length ≤ 189 * 17 := Nat.mul_le_mul (by omega) l2
    have b4 := TK.replace_len (Txt.replace tail "ONE" one) "TWO" (twoOf one)
    have l4 : ("zz" : Str).length ≤ 20 := by decide +kernel
    have pos : ∀ {a b c : Nat}, a < b → b ≤ c → c ≠ 0 := fun h1 h2 z => by omega
    have hN : n ≤ n2 := by omega
    refine fun tz nz h1 h2 => ⟨p, (which : Nat), tw, badTails.map V.str, .str tail, putM_eq, ?_, SqT.of upd_same, atI_nat (by rw [List.getElem?_map, htl] <;> rfl), fun u0 hu0 => ⟨⟨_, rfl⟩, fun to no h3 h4 => ⟨_, .str one, ?_, ⟨tk, rfl⟩, tail, "ONE", one, to, tk, rfl, rfl, rfl, ?_, htk, ?_, ho1, by omega, fun t' => ⟨⟨_, rfl⟩, fun tt nt h5 h6 => ⟨_, .str (twoOf one), ?_, ⟨t2, rfl⟩, _, "TWO", twoOf one, tt, t2, rfl, rfl, rfl, ?_, ?_, ?_, ho2, by omega, fun t'' => ⟨_, _, rfl, rfl, Nat.le_trans (m := 100000) (by omega) (by decide), fun t3 => ?_⟩⟩⟩⟩⟩⟩
    · rw [putM_ne (by decide +kernel), putM_ne (by decide +kernel)]
      exact hwh
    · rw [putM_ne (by decide +kernel), putM_ne (by decide +kernel)]
      exact hone
    · exact pos htn (by omega)
    · exact Nat.ne_of_gt (Nat.lt_of_lt_of_le htn (by omega))
    · rw [putM_ne (by decide +kernel), putM_eq]
      rfl
    · show @Ne Nat tt 0
      omega
    · show @Ne Nat t2 0
      omega
    · show @Ne Nat tt t2
      omega
    · have := q (.str (badRow which one) t3) (upd H p (.tup (badTails.map V.str))) nt (by omega) (Same.new hp)
      unfold badRow at this
      rw [if_neg (by omega), htl] at this
      exact this
end
end SW


/-! ### the bad rows: plain Lean -/
namespace SW
open PySem PySem.Spec PyProof.Rows L2 He TL
open PySem.Builtin PySem.Builtin.Str PySem.StrLaws
theorem occ_walk (s sub : Str) (hi limit k : Nat) (hl : 1 ≤ limit) (hk : At s sub hi k) : ∀ (l1 l2 : List Nat) (free : Nat), (∀ i ∈ l1, ¬ At s sub hi i) → (∀ i ∈ l2, ¬ At s sub hi i) → free ≤ k →
    (forIn (l1 ++ k :: l2) ((#[] : Array Nat), free) (occBody s sub hi limit)).run.fst = #[k]
  | [], l2, free, _, h2, hf => by
    have skip : ∀ (l : List Nat) (st : Array Nat × Nat), (∀ i ∈ l, ¬ At s sub hi i) → (forIn l st (occBody s sub hi limit)).run.fst = st.fst := by
      intro l
      induction l with
      | nil => intro st _; rfl
      | cons a l ih =>
        intro st h
        rw [List.forIn_cons]
        unfold occBody
        rw [if_neg fun z => h a (List.mem_cons_self ..) ⟨z.1.2, z.2⟩]
        exact ih _ fun i hi => h i (List.mem_cons_of_mem _ hi)
    rw [List.nil_append, List.forIn_cons]
    unfold occBody
    rw [if_pos ⟨⟨⟨by simp; omega, hf⟩, hk.1⟩, hk.2⟩]
    exact skip l2 _ h2
  | a :: l1, l2, free, h1, h2, hf => by
    rw [List.cons_append, List.forIn_cons]
    unfold occBody
    rw [if_neg fun z => h1 a (List.mem_cons_self ..) ⟨z.1.2, z.2⟩]
    exact occ_walk s sub hi limit k hl hk l1 l2 free (fun i hi => h1 i (List.mem_cons_of_mem _ hi)) h2 hf
theorem occ_only {x y : Str} {k limit : Nat} (hl : 1 ≤ limit) (hk : At x y x.length k) (h : ∀ i, At x y x.length i → i = k) : occurrences x y 0 x.length limit = [k] := by
  have hkl : k ≤ x.length := by have := hk.1; omega
  have e : List.range' 0 (x.length + 1 - 0) = List.range' 0 k ++ k :: List.range' (k + 1) (x.length - k) := by
    rw [show x.length + 1 - 0 = k + (x.length - k + 1) by omega, ← List.range'_append_1, Nat.zero_add, List.range'_succ]
  rw [occ_eq, e, occ_walk x y x.length limit k hl hk _ _ 0 (fun i hi z => ?_) (fun i hi z => ?_) (Nat.zero_le _)]
  · have := h i z
    have h2 : i < k := by
      have := List.mem_range'_1.mp hi
      omega
    omega
  · have := h i z
    have h2 : k < i := by
      have := List.mem_range'_1.mp hi
      omega
    omega
theorem at_head {x y : Str} {hi i c : Nat} {r : List Nat} (hy : tl y = c :: r) (h : At x y hi i) : (tl x)[i]? = some c := by
  have h2 := h.2
  rw [subAt_eq] at h2
  have h3 : ((tl x).drop i).take y.length = tl y := by simpa using h2
  rw [hy] at h3
  have h4 := congrArg (fun l => l[0]?) h3
  simp only [List.getElem?_cons_zero] at h4
  have hl : 0 < y.length := by rw [len_tl, hy]; simp
  rw [List.getElem?_take_of_lt hl, List.getElem?_drop] at h4
  simpa using h4
theorem repl_none {x y z : Str} (h : occurrences x y 0 x.length (x.length + 1) = []) : Txt.replace x y z = x := by
  unfold Txt.replace
  rw [h]
  rfl
theorem repl_at {x y z : Str} {k : Nat} (hy : y.length ≠ 0) (h : occurrences x y 0 x.length (x.length + 1) = [k]) : tl (Txt.replace x y z) = (tl x).take k ++ (tl z ++ (tl x).drop (k + y.length)) := by
  unfold Txt.replace
  rw [h, if_neg (by simp [hy])]
  show (glued z [strSub x 0 k, strSub x (k + y.length) x.length]).cps.toList = _
  show (((strSub x 0 k).cps ++ z.cps) ++ (strSub x (k + y.length) x.length).cps).toList = _
  rw [Array.toList_append, Array.toList_append, strSub_toList, strSub_toList, List.append_assoc, Nat.sub_zero, List.drop_zero]
  congr 2
  exact List.take_of_length_le (by rw [List.length_drop]; exact Nat.sub_le_sub_right (Nat.le_of_eq (len_tl x).symm) _)
theorem two_none {x z : Str} (h : 84 ∉ tl x) : Txt.replace x "TWO" z = x := by
  have ht : tl "TWO" = [84, 87, 79] := by decide +kernel
  refine repl_none ?_
  rcases occ_head x "TWO" (x.length + 1) (by omega) with ⟨h0, _⟩ | ⟨i, r, _, ha, _⟩
  · exact h0
  · exact absurd (List.mem_of_getElem? (at_head ht ha)) h
theorem two_one {x z : Str} {p q : List Nat} (hx : tl x = p ++ ([84, 87, 79] ++ q)) (hp : 84 ∉ p) (hq : 84 ∉ q) : tl (Txt.replace x "TWO" z) = p ++ (tl z ++ q) := by
  have ht : tl "TWO" = [84, 87, 79] := by decide +kernel
  have hl : ("TWO" : Str).length = 3 := by decide +kernel
  have hlen : x.length = p.length + (3 + q.length) := by rw [len_tl, hx, List.length_append, List.length_append] <;> rfl
  have hk : At x "TWO" x.length p.length := by
    refine ⟨by rw [hl]; omega, ?_⟩
    rw [subAt_eq]
    show (((tl x).drop p.length).take ("TWO" : Str).length == tl "TWO") = true
    rw [hx, List.drop_left, hl, ht] <;> simp
  have ho := occ_only (limit := x.length + 1) (by omega) hk fun i hi => by
    have h1 := at_head ht hi
    rw [hx] at h1
    rcases Nat.lt_trichotomy i p.length with h | h | h
    · rw [List.getElem?_append_left h] at h1
      exact absurd (List.mem_of_getElem? h1) hp
    · exact h
    · rw [List.getElem?_append_right (by omega)] at h1
      obtain ⟨j, hj⟩ : ∃ j, i - p.length = j + 1 := ⟨i - p.length - 1, by omega⟩
      rw [hj] at h1
      match j, h1 with
      | 0, h1 => cases h1
      | 1, h1 => cases h1
      | j + 2, h1 =>
        have h1 : q[j]? = some 84 := h1
        exact absurd (List.mem_of_getElem? h1) hq
  rw [repl_at (by rw [hl]; decide) ho, hx, List.take_left, hl, ← List.drop_drop, List.drop_left] <;> rfl
/-! the eighteen rows -/
def BadR (row : Str) : Prop := wordsOf row ≠ [] ∧ partOf (wordsOf row) = none ∧ row.length ≤ 600 ∧ 10 ∉ tl row
theorem bad_fin {row : Str} {ws : List Str} (e : tl row = joinL [32] (ws.map tl)) (hn : ws ≠ []) (hw : ∀ w ∈ ws, plainW w ∧ w.length ≤ 20) (hl : ws.length ≤ 8) (hp : partOf ws = none) : BadR row := by
  have hws : wordsOf row = ws := words_of_row (a := 0) (g := 0) (t := 0) (by rw [e] <;> simp) hn fun w h => ⟨(hw w h).1.1, (hw w h).1.free (by decide)⟩
  refine ⟨by rw [hws]; exact hn, by rw [hws]; exact hp, ?_, ?_⟩
  · have h1 := joinL_len [32] (ws.map tl)
    rw [← e, ← len_tl, List.length_map, List.map_map] at h1
    have h2 := sum_le (fun x : Str => x.length) 20 ws fun w h => (hw w h).2
    have h3 : (List.length ∘ tl) = fun x : Str => x.length := funext fun x => (len_tl x).symm
    rw [h3] at h1
    have h4 := Nat.mul_le_mul_right 20 hl
    have h5 : ([32] : List Nat).length = 1 := rfl
    rw [h5] at h1
    omega
  · rw [e]
    refine joinL_free (by decide) fun w h => ?_
    obtain ⟨z, hz, rfl⟩ := List.mem_map.mp h
    exact (hw z hz).1.free (by decide)
theorem partOf_inv {n kw tw : Str} {fw : List Str} {p : Pd} (h : partOf (n :: kw :: tw :: fw) = some p) : goodName (tl n) = true ∧ ∃ k, kindBy kw = some k ∧ 0 ≤ numIn (tl tw) 1000 ∧ fw.length = k.c.lines ∧ none ∉ fw.map feedOf ∧ ¬ ((k.c = .src ∨ k.c = .snk) ∧ 0 < numIn (tl tw) 1000) := by
  have h : (if goodName (tl n) = false then none
      else match kindBy kw with
        | none => none
        | some k =>
          if numIn (tl tw) 1000 < 0 ∨ fw.length ≠ k.c.lines then none
          else if none ∈ fw.map feedOf ∨ ((decide (k.c = .src) || decide (k.c = .snk)) = true ∧ 0 < numIn (tl tw) 1000) then none
          else some (⟨n, k, numIn (tl tw) 1000, (fw.map feedOf).filterMap id⟩ : Pd)) = some p := h
  by_cases hn : goodName (tl n) = false
  · rw [if_pos hn] at h
    cases h
  rw [if_neg hn] at h
  cases hk : kindBy kw with
  | none =>
    rw [hk] at h
    cases h
  | some k =>
    rw [hk] at h
    dsimp only at h
    by_cases h1 : numIn (tl tw) 1000 < 0 ∨ fw.length ≠ k.c.lines
    · rw [if_pos h1] at h
      cases h
    rw [if_neg h1] at h
    by_cases h2 : none ∈ fw.map feedOf ∨ ((decide (k.c = .src) || decide (k.c = .snk)) = true ∧ 0 < numIn (tl tw) 1000)
    · rw [if_pos h2] at h
      cases h
    rw [not_or] at h1 h2
    refine ⟨by simpa using hn, k, rfl, by omega, Classical.byContradiction fun z => h1.2 z, h2.1, fun z => h2.2 ⟨by simpa using z.1, z.2⟩⟩
section
variable {n kw tw : Str} {fw : List Str}
theorem pn_name (h : goodName (tl n) = false) : partOf (n :: kw :: tw :: fw) = none := by
  cases e : partOf (n :: kw :: tw :: fw) with
  | none => rfl
  | some p =>
    have := (partOf_inv e).1
    rw [h] at this
    cases this
theorem pn_kind (h : kindBy kw = none) : partOf (n :: kw :: tw :: fw) = none := by
  cases e : partOf (n :: kw :: tw :: fw) with
  | none => rfl
  | some p =>
    obtain ⟨_, k, hk, _⟩ := partOf_inv e
    rw [h] at hk
    cases hk
theorem pn_num (h : numIn (tl tw) 1000 < 0) : partOf (n :: kw :: tw :: fw) = none := by
  cases e : partOf (n :: kw :: tw :: fw) with
  | none => rfl
  | some p =>
    obtain ⟨_, k, _, h0, _⟩ := partOf_inv e
    omega
theorem pn_len {k : Kd} (h : kindBy kw = some k) (hl : fw.length ≠ k.c.lines) : partOf (n :: kw :: tw :: fw) = none := by
  cases e : partOf (n :: kw :: tw :: fw) with
  | none => rfl
  | some p =>
    obtain ⟨_, k', hk, _, h1, _⟩ := partOf_inv e
    rw [h] at hk
    cases hk
    exact absurd h1 hl
theorem pn_feed (h : none ∈ fw.map feedOf) : partOf (n :: kw :: tw :: fw) = none := by
  cases e : partOf (n :: kw :: tw :: fw) with
  | none => rfl
  | some p =>
    obtain ⟨_, k', hk, _, _, h1, _⟩ := partOf_inv e
    exact absurd h h1
theorem pn_end {k : Kd} (h : kindBy kw = some k) (hk : k.c = .src ∨ k.c = .snk) (ht : 0 < numIn (tl tw) 1000) : partOf (n :: kw :: tw :: fw) = none := by
  cases e : partOf (n :: kw :: tw :: fw) with
  | none => rfl
  | some p =>
    obtain ⟨_, k', hk', _, _, _, h1⟩ := partOf_inv e
    rw [h] at hk'
    cases hk'
    exact absurd ⟨hk, ht⟩ h1
end
theorem feed_none {one f : Str} (h : goodName (tl one) = true) (hf : numIn (tl f) 100 < 0) : feedOf ((one ++ ("/" : Str)) ++ f) = none := by
  have hp : Txt.partition ((one ++ ("/" : Str)) ++ f) "/" = (one, ("/" : Str), f) := partition_app tl_slash (name_free h (by decide))
  unfold feedOf
  rw [hp]
  dsimp only
  rw [if_neg (by rw [h]; simp), if_neg (by rw [tl_slash]; simp), if_pos hf]
theorem name_le {one : Str} (h : goodName (tl one) = true) : one.length ≤ 20 := Nat.le_trans (name_len h) (by decide)
theorem pl_slash {one f : Str} (h : goodName (tl one) = true) (hf : ∀ c ∈ tl f, 33 ≤ c) (hl : f.length ≤ 8) : plainW ((one ++ ("/" : Str)) ++ f) ∧ ((one ++ ("/" : Str)) ++ f).length ≤ 20 := by
  refine ⟨((plain_name h).app plain_slash).app hf, ?_⟩
  have := name_len h
  rw [len_tl, tl_append, tl_append, List.length_append, List.length_append, ← len_tl, ← len_tl, ← len_tl, slash_len]
  omega
theorem bad_0 {one : Str} (h : goodName (tl one) = true) : BadR (badRow 0 one) := by
  have hT : 84 ∉ tl one := name_free h (by decide)
  have e0 : badRow 0 one = ("zz" : Str) ++ Txt.replace (Txt.replace ("" : Str) "ONE" one) "TWO" (twoOf one) := rfl
  have e1 : tl (Txt.replace ("" : Str) "ONE" one) = [] := by
    rw [repl_none (by decide +kernel)]
    decide +kernel
  have e2 : tl (Txt.replace (Txt.replace ("" : Str) "ONE" one) "TWO" (twoOf one)) = [] := by
    rw [two_none, e1]
    rw [e1]
    decide
  have e3 : tl (badRow 0 one) = tl ("zz" : Str) ++ tl (Txt.replace (Txt.replace ("" : Str) "ONE" one) "TWO" (twoOf one)) := by rw [e0, tl_append]
  rw [e2] at e3
  refine bad_fin (ws := [("zz" : Str)]) (by
    rw [e3]
    simp only [List.map_cons, List.map_nil, joinL, tl_append, (by decide +kernel : tl (" " : Str) = [32]), (by decide +kernel : tl ("zz" : Str) = [122, 122]), List.append_assoc, List.cons_append, List.nil_append, List.append_nil]) (by simp) (List.forall_mem_cons.mpr ⟨(by decide +kernel : (tl ("zz" : Str) ≠ [] ∧ ∀ c ∈ tl ("zz" : Str), 33 ≤ c) ∧ ("zz" : Str).length ≤ 20), List.forall_mem_nil _⟩) (by simp) (rfl)
theorem bad_1 {one : Str} (h : goodName (tl one) = true) : BadR (badRow 1 one) := by
  have hT : 84 ∉ tl one := name_free h (by decide)
  have e0 : badRow 1 one = ("zz" : Str) ++ Txt.replace (Txt.replace (" and 1 ONE" : Str) "ONE" one) "TWO" (twoOf one) := rfl
  have e1 : tl (Txt.replace (" and 1 ONE" : Str) "ONE" one) = [32, 97, 110, 100, 32, 49, 32] ++ (tl one ++ []) := by
    rw [repl_at (k := 7) (by decide +kernel) (by decide +kernel), (by decide +kernel : (tl (" and 1 ONE" : Str)).take 7 = [32, 97, 110, 100, 32, 49, 32]), (by decide +kernel : (tl (" and 1 ONE" : Str)).drop (7 + ("ONE" : Str).length) = [])]
  have e2 : tl (Txt.replace (Txt.replace (" and 1 ONE" : Str) "ONE" one) "TWO" (twoOf one)) = [32, 97, 110, 100, 32, 49, 32] ++ (tl one ++ []) := by
    rw [two_none, e1]
    rw [e1, List.mem_append, List.mem_append]
    rintro (z | z | z)
    · exact absurd z (by decide)
    · exact hT z
    · exact absurd z (by decide)
  have e3 : tl (badRow 1 one) = tl ("zz" : Str) ++ tl (Txt.replace (Txt.replace (" and 1 ONE" : Str) "ONE" one) "TWO" (twoOf one)) := by rw [e0, tl_append]
  rw [e2] at e3
  refine bad_fin (ws := [("zz" : Str), ("and" : Str), ("1" : Str), one]) (by
    rw [e3]
    simp only [List.map_cons, List.map_nil, joinL, tl_append, (by decide +kernel : tl (" " : Str) = [32]), (by decide +kernel : tl ("1" : Str) = [49]), (by decide +kernel : tl ("and" : Str) = [97, 110, 100]), (by decide +kernel : tl ("zz" : Str) = [122, 122]), List.append_assoc, List.cons_append, List.nil_append, List.append_nil]) (by simp) (List.forall_mem_cons.mpr ⟨(by decide +kernel : (tl ("zz" : Str) ≠ [] ∧ ∀ c ∈ tl ("zz" : Str), 33 ≤ c) ∧ ("zz" : Str).length ≤ 20), List.forall_mem_cons.mpr ⟨(by decide +kernel : (tl ("and" : Str) ≠ [] ∧ ∀ c ∈ tl ("and" : Str), 33 ≤ c) ∧ ("and" : Str).length ≤ 20), List.forall_mem_cons.mpr ⟨(by decide +kernel : (tl ("1" : Str) ≠ [] ∧ ∀ c ∈ tl ("1" : Str), 33 ≤ c) ∧ ("1" : Str).length ≤ 20), List.forall_mem_cons.mpr ⟨⟨plain_name h, name_le h⟩, List.forall_mem_nil _⟩⟩⟩⟩) (by simp) (pn_len (k := ⟨.both, 0⟩) (by decide +kernel) (by simp; decide))
theorem bad_2 {one : Str} (h : goodName (tl one) = true) : BadR (badRow 2 one) := by
  have hT : 84 ∉ tl one := name_free h (by decide)
  have e0 : badRow 2 one = ("zz" : Str) ++ Txt.replace (Txt.replace (" and 1 TWO ONE" : Str) "ONE" one) "TWO" (twoOf one) := rfl
  have e1 : tl (Txt.replace (" and 1 TWO ONE" : Str) "ONE" one) = [32, 97, 110, 100, 32, 49, 32, 84, 87, 79, 32] ++ (tl one ++ []) := by
    rw [repl_at (k := 11) (by decide +kernel) (by decide +kernel), (by decide +kernel : (tl (" and 1 TWO ONE" : Str)).take 11 = [32, 97, 110, 100, 32, 49, 32, 84, 87, 79, 32]), (by decide +kernel : (tl (" and 1 TWO ONE" : Str)).drop (11 + ("ONE" : Str).length) = [])]
  have e2 : tl (Txt.replace (Txt.replace (" and 1 TWO ONE" : Str) "ONE" one) "TWO" (twoOf one)) = [32, 97, 110, 100, 32, 49, 32] ++ (tl (twoOf one) ++ ([32] ++ tl one)) := two_one (by rw [e1] <;> simp) (by decide) (by
    rw [List.mem_append]
    rintro (z | z)
    · exact absurd z (by decide)
    · exact hT z)
  have e3 : tl (badRow 2 one) = tl ("zz" : Str) ++ tl (Txt.replace (Txt.replace (" and 1 TWO ONE" : Str) "ONE" one) "TWO" (twoOf one)) := by rw [e0, tl_append]
  rw [e2] at e3
  refine bad_fin (ws := [("zz" : Str), ("and" : Str), ("1" : Str), one, one, one]) (by
    rw [e3]
    unfold twoOf
    simp only [List.map_cons, List.map_nil, joinL, tl_append, (by decide +kernel : tl (" " : Str) = [32]), (by decide +kernel : tl ("1" : Str) = [49]), (by decide +kernel : tl ("and" : Str) = [97, 110, 100]), (by decide +kernel : tl ("zz" : Str) = [122, 122]), List.append_assoc, List.cons_append, List.nil_append, List.append_nil]) (by simp) (List.forall_mem_cons.mpr ⟨(by decide +kernel : (tl ("zz" : Str) ≠ [] ∧ ∀ c ∈ tl ("zz" : Str), 33 ≤ c) ∧ ("zz" : Str).length ≤ 20), List.forall_mem_cons.mpr ⟨(by decide +kernel : (tl ("and" : Str) ≠ [] ∧ ∀ c ∈ tl ("and" : Str), 33 ≤ c) ∧ ("and" : Str).length ≤ 20), List.forall_mem_cons.mpr ⟨(by decide +kernel : (tl ("1" : Str) ≠ [] ∧ ∀ c ∈ tl ("1" : Str), 33 ≤ c) ∧ ("1" : Str).length ≤ 20), List.forall_mem_cons.mpr ⟨⟨plain_name h, name_le h⟩, List.forall_mem_cons.mpr ⟨⟨plain_name h, name_le h⟩, List.forall_mem_cons.mpr ⟨⟨plain_name h, name_le h⟩, List.forall_mem_nil _⟩⟩⟩⟩⟩⟩) (by simp) (pn_len (k := ⟨.both, 0⟩) (by decide +kernel) (by simp; decide))
theorem bad_3 {one : Str} (h : goodName (tl one) = true) : BadR (badRow 3 one) := by
  have hT : 84 ∉ tl one := name_free h (by decide)
  have e0 : badRow 3 one = ("zz" : Str) ++ Txt.replace (Txt.replace (" and 1001 TWO" : Str) "ONE" one) "TWO" (twoOf one) := rfl
  have e1 : tl (Txt.replace (" and 1001 TWO" : Str) "ONE" one) = [32, 97, 110, 100, 32, 49, 48, 48, 49, 32, 84, 87, 79] := by
    rw [repl_none (by decide +kernel)]
    decide +kernel
  have e2 : tl (Txt.replace (Txt.replace (" and 1001 TWO" : Str) "ONE" one) "TWO" (twoOf one)) = [32, 97, 110, 100, 32, 49, 48, 48, 49, 32] ++ (tl (twoOf one) ++ []) := two_one (by rw [e1] <;> rfl) (by decide) (by decide)
  have e3 : tl (badRow 3 one) = tl ("zz" : Str) ++ tl (Txt.replace (Txt.replace (" and 1001 TWO" : Str) "ONE" one) "TWO" (twoOf one)) := by rw [e0, tl_append]
  rw [e2] at e3
  refine bad_fin (ws := [("zz" : Str), ("and" : Str), ("1001" : Str), one, one]) (by
    rw [e3]
    unfold twoOf
    simp only [List.map_cons, List.map_nil, joinL, tl_append, (by decide +kernel : tl (" " : Str) = [32]), (by decide +kernel : tl ("1001" : Str) = [49, 48, 48, 49]), (by decide +kernel : tl ("and" : Str) = [97, 110, 100]), (by decide +kernel : tl ("zz" : Str) = [122, 122]), List.append_assoc, List.cons_append, List.nil_append, List.append_nil]) (by simp) (List.forall_mem_cons.mpr ⟨(by decide +kernel : (tl ("zz" : Str) ≠ [] ∧ ∀ c ∈ tl ("zz" : Str), 33 ≤ c) ∧ ("zz" : Str).length ≤ 20), List.forall_mem_cons.mpr ⟨(by decide +kernel : (tl ("and" : Str) ≠ [] ∧ ∀ c ∈ tl ("and" : Str), 33 ≤ c) ∧ ("and" : Str).length ≤ 20), List.forall_mem_cons.mpr ⟨(by decide +kernel : (tl ("1001" : Str) ≠ [] ∧ ∀ c ∈ tl ("1001" : Str), 33 ≤ c) ∧ ("1001" : Str).length ≤ 20), List.forall_mem_cons.mpr ⟨⟨plain_name h, name_le h⟩, List.forall_mem_cons.mpr ⟨⟨plain_name h, name_le h⟩, List.forall_mem_nil _⟩⟩⟩⟩⟩) (by simp) (pn_num (by decide +kernel))
theorem bad_4 {one : Str} (h : goodName (tl one) = true) : BadR (badRow 4 one) := by
  have hT : 84 ∉ tl one := name_free h (by decide)
  have e0 : badRow 4 one = ("zz" : Str) ++ Txt.replace (Txt.replace (" and 01 TWO" : Str) "ONE" one) "TWO" (twoOf one) := rfl
  have e1 : tl (Txt.replace (" and 01 TWO" : Str) "ONE" one) = [32, 97, 110, 100, 32, 48, 49, 32, 84, 87, 79] := by
    rw [repl_none (by decide +kernel)]
    decide +kernel
  have e2 : tl (Txt.replace (Txt.replace (" and 01 TWO" : Str) "ONE" one) "TWO" (twoOf one)) = [32, 97, 110, 100, 32, 48, 49, 32] ++ (tl (twoOf one) ++ []) := two_one (by rw [e1] <;> rfl) (by decide) (by decide)
  have e3 : tl (badRow 4 one) = tl ("zz" : Str) ++ tl (Txt.replace (Txt.replace (" and 01 TWO" : Str) "ONE" one) "TWO" (twoOf one)) := by rw [e0, tl_append]
  rw [e2] at e3
  refine bad_fin (ws := [("zz" : Str), ("and" : Str), ("01" : Str), one, one]) (by
    rw [e3]
    unfold twoOf
    simp only [List.map_cons, List.map_nil, joinL, tl_append, (by decide +kernel : tl (" " : Str) = [32]), (by decide +kernel : tl ("01" : Str) = [48, 49]), (by decide +kernel : tl ("and" : Str) = [97, 110, 100]), (by decide +kernel : tl ("zz" : Str) = [122, 122]), List.append_assoc, List.cons_append, List.nil_append, List.append_nil]) (by simp) (List.forall_mem_cons.mpr ⟨(by decide +kernel : (tl ("zz" : Str) ≠ [] ∧ ∀ c ∈ tl ("zz" : Str), 33 ≤ c) ∧ ("zz" : Str).length ≤ 20), List.forall_mem_cons.mpr ⟨(by decide +kernel : (tl ("and" : Str) ≠ [] ∧ ∀ c ∈ tl ("and" : Str), 33 ≤ c) ∧ ("and" : Str).length ≤ 20), List.forall_mem_cons.mpr ⟨(by decide +kernel : (tl ("01" : Str) ≠ [] ∧ ∀ c ∈ tl ("01" : Str), 33 ≤ c) ∧ ("01" : Str).length ≤ 20), List.forall_mem_cons.mpr ⟨⟨plain_name h, name_le h⟩, List.forall_mem_cons.mpr ⟨⟨plain_name h, name_le h⟩, List.forall_mem_nil _⟩⟩⟩⟩⟩) (by simp) (pn_num (by decide +kernel))
theorem bad_5 {one : Str} (h : goodName (tl one) = true) : BadR (badRow 5 one) := by
  have hT : 84 ∉ tl one := name_free h (by decide)
  have e0 : badRow 5 one = ("zz" : Str) ++ Txt.replace (Txt.replace (" nor 1 TWO" : Str) "ONE" one) "TWO" (twoOf one) := rfl
  have e1 : tl (Txt.replace (" nor 1 TWO" : Str) "ONE" one) = [32, 110, 111, 114, 32, 49, 32, 84, 87, 79] := by
    rw [repl_none (by decide +kernel)]
    decide +kernel
  have e2 : tl (Txt.replace (Txt.replace (" nor 1 TWO" : Str) "ONE" one) "TWO" (twoOf one)) = [32, 110, 111, 114, 32, 49, 32] ++ (tl (twoOf one) ++ []) := two_one (by rw [e1] <;> rfl) (by decide) (by decide)
  have e3 : tl (badRow 5 one) = tl ("zz" : Str) ++ tl (Txt.replace (Txt.replace (" nor 1 TWO" : Str) "ONE" one) "TWO" (twoOf one)) := by rw [e0, tl_append]
  rw [e2] at e3
  refine bad_fin (ws := [("zz" : Str), ("nor" : Str), ("1" : Str), one, one]) (by
    rw [e3]
    unfold twoOf
    simp only [List.map_cons, List.map_nil, joinL, tl_append, (by decide +kernel : tl (" " : Str) = [32]), (by decide +kernel : tl ("1" : Str) = [49]), (by decide +kernel : tl ("nor" : Str) = [110, 111, 114]), (by decide +kernel : tl ("zz" : Str) = [122, 122]), List.append_assoc, List.cons_append, List.nil_append, List.append_nil]) (by simp) (List.forall_mem_cons.mpr ⟨(by decide +kernel : (tl ("zz" : Str) ≠ [] ∧ ∀ c ∈ tl ("zz" : Str), 33 ≤ c) ∧ ("zz" : Str).length ≤ 20), List.forall_mem_cons.mpr ⟨(by decide +kernel : (tl ("nor" : Str) ≠ [] ∧ ∀ c ∈ tl ("nor" : Str), 33 ≤ c) ∧ ("nor" : Str).length ≤ 20), List.forall_mem_cons.mpr ⟨(by decide +kernel : (tl ("1" : Str) ≠ [] ∧ ∀ c ∈ tl ("1" : Str), 33 ≤ c) ∧ ("1" : Str).length ≤ 20), List.forall_mem_cons.mpr ⟨⟨plain_name h, name_le h⟩, List.forall_mem_cons.mpr ⟨⟨plain_name h, name_le h⟩, List.forall_mem_nil _⟩⟩⟩⟩⟩) (by simp) (pn_kind (by decide +kernel))
theorem bad_6 {one : Str} (h : goodName (tl one) = true) : BadR (badRow 6 one) := by
  have hT : 84 ∉ tl one := name_free h (by decide)
  have e0 : badRow 6 one = ("zz" : Str) ++ Txt.replace (Txt.replace (" in 1" : Str) "ONE" one) "TWO" (twoOf one) := rfl
  have e1 : tl (Txt.replace (" in 1" : Str) "ONE" one) = [32, 105, 110, 32, 49] := by
    rw [repl_none (by decide +kernel)]
    decide +kernel
  have e2 : tl (Txt.replace (Txt.replace (" in 1" : Str) "ONE" one) "TWO" (twoOf one)) = [32, 105, 110, 32, 49] := by
    rw [two_none, e1]
    rw [e1]
    decide
  have e3 : tl (badRow 6 one) = tl ("zz" : Str) ++ tl (Txt.replace (Txt.replace (" in 1" : Str) "ONE" one) "TWO" (twoOf one)) := by rw [e0, tl_append]
  rw [e2] at e3
  refine bad_fin (ws := [("zz" : Str), ("in" : Str), ("1" : Str)]) (by
    rw [e3]
    simp only [List.map_cons, List.map_nil, joinL, tl_append, (by decide +kernel : tl (" " : Str) = [32]), (by decide +kernel : tl ("1" : Str) = [49]), (by decide +kernel : tl ("in" : Str) = [105, 110]), (by decide +kernel : tl ("zz" : Str) = [122, 122]), List.append_assoc, List.cons_append, List.nil_append, List.append_nil]) (by simp) (List.forall_mem_cons.mpr ⟨(by decide +kernel : (tl ("zz" : Str) ≠ [] ∧ ∀ c ∈ tl ("zz" : Str), 33 ≤ c) ∧ ("zz" : Str).length ≤ 20), List.forall_mem_cons.mpr ⟨(by decide +kernel : (tl ("in" : Str) ≠ [] ∧ ∀ c ∈ tl ("in" : Str), 33 ≤ c) ∧ ("in" : Str).length ≤ 20), List.forall_mem_cons.mpr ⟨(by decide +kernel : (tl ("1" : Str) ≠ [] ∧ ∀ c ∈ tl ("1" : Str), 33 ≤ c) ∧ ("1" : Str).length ≤ 20), List.forall_mem_nil _⟩⟩⟩) (by simp) (pn_end (k := ⟨.src, 0⟩) (by decide +kernel) (.inl rfl) (by decide +kernel))
theorem bad_7 {one : Str} (h : goodName (tl one) = true) : BadR (badRow 7 one) := by
  have hT : 84 ∉ tl one := name_free h (by decide)
  have e0 : badRow 7 one = ("zz" : Str) ++ Txt.replace (Txt.replace (" out 2 ONE" : Str) "ONE" one) "TWO" (twoOf one) := rfl
  have e1 : tl (Txt.replace (" out 2 ONE" : Str) "ONE" one) = [32, 111, 117, 116, 32, 50, 32] ++ (tl one ++ []) := by
    rw [repl_at (k := 7) (by decide +kernel) (by decide +kernel), (by decide +kernel : (tl (" out 2 ONE" : Str)).take 7 = [32, 111, 117, 116, 32, 50, 32]), (by decide +kernel : (tl (" out 2 ONE" : Str)).drop (7 + ("ONE" : Str).length) = [])]
  have e2 : tl (Txt.replace (Txt.replace (" out 2 ONE" : Str) "ONE" one) "TWO" (twoOf one)) = [32, 111, 117, 116, 32, 50, 32] ++ (tl one ++ []) := by
    rw [two_none, e1]
    rw [e1, List.mem_append, List.mem_append]
    rintro (z | z | z)
    · exact absurd z (by decide)
    · exact hT z
    · exact absurd z (by decide)
  have e3 : tl (badRow 7 one) = tl ("zz" : Str) ++ tl (Txt.replace (Txt.replace (" out 2 ONE" : Str) "ONE" one) "TWO" (twoOf one)) := by rw [e0, tl_append]
  rw [e2] at e3
  refine bad_fin (ws := [("zz" : Str), ("out" : Str), ("2" : Str), one]) (by
    rw [e3]
    simp only [List.map_cons, List.map_nil, joinL, tl_append, (by decide +kernel : tl (" " : Str) = [32]), (by decide +kernel : tl ("2" : Str) = [50]), (by decide +kernel : tl ("out" : Str) = [111, 117, 116]), (by decide +kernel : tl ("zz" : Str) = [122, 122]), List.append_assoc, List.cons_append, List.nil_append, List.append_nil]) (by simp) (List.forall_mem_cons.mpr ⟨(by decide +kernel : (tl ("zz" : Str) ≠ [] ∧ ∀ c ∈ tl ("zz" : Str), 33 ≤ c) ∧ ("zz" : Str).length ≤ 20), List.forall_mem_cons.mpr ⟨(by decide +kernel : (tl ("out" : Str) ≠ [] ∧ ∀ c ∈ tl ("out" : Str), 33 ≤ c) ∧ ("out" : Str).length ≤ 20), List.forall_mem_cons.mpr ⟨(by decide +kernel : (tl ("2" : Str) ≠ [] ∧ ∀ c ∈ tl ("2" : Str), 33 ≤ c) ∧ ("2" : Str).length ≤ 20), List.forall_mem_cons.mpr ⟨⟨plain_name h, name_le h⟩, List.forall_mem_nil _⟩⟩⟩⟩) (by simp) (pn_end (k := ⟨.snk, 0⟩) (by decide +kernel) (.inr rfl) (by decide +kernel))
theorem bad_8 {one : Str} (h : goodName (tl one) = true) : BadR (badRow 8 one) := by
  have hT : 84 ∉ tl one := name_free h (by decide)
  have e0 : badRow 8 one = ("zz" : Str) ++ Txt.replace (Txt.replace (" up 1 ONE" : Str) "ONE" one) "TWO" (twoOf one) := rfl
  have e1 : tl (Txt.replace (" up 1 ONE" : Str) "ONE" one) = [32, 117, 112, 32, 49, 32] ++ (tl one ++ []) := by
    rw [repl_at (k := 6) (by decide +kernel) (by decide +kernel), (by decide +kernel : (tl (" up 1 ONE" : Str)).take 6 = [32, 117, 112, 32, 49, 32]), (by decide +kernel : (tl (" up 1 ONE" : Str)).drop (6 + ("ONE" : Str).length) = [])]
  have e2 : tl (Txt.replace (Txt.replace (" up 1 ONE" : Str) "ONE" one) "TWO" (twoOf one)) = [32, 117, 112, 32, 49, 32] ++ (tl one ++ []) := by
    rw [two_none, e1]
    rw [e1, List.mem_append, List.mem_append]
    rintro (z | z | z)
    · exact absurd z (by decide)
    · exact hT z
    · exact absurd z (by decide)
  have e3 : tl (badRow 8 one) = tl ("zz" : Str) ++ tl (Txt.replace (Txt.replace (" up 1 ONE" : Str) "ONE" one) "TWO" (twoOf one)) := by rw [e0, tl_append]
  rw [e2] at e3
  refine bad_fin (ws := [("zz" : Str), ("up" : Str), ("1" : Str), one]) (by
    rw [e3]
    simp only [List.map_cons, List.map_nil, joinL, tl_append, (by decide +kernel : tl (" " : Str) = [32]), (by decide +kernel : tl ("1" : Str) = [49]), (by decide +kernel : tl ("up" : Str) = [117, 112]), (by decide +kernel : tl ("zz" : Str) = [122, 122]), List.append_assoc, List.cons_append, List.nil_append, List.append_nil]) (by simp) (List.forall_mem_cons.mpr ⟨(by decide +kernel : (tl ("zz" : Str) ≠ [] ∧ ∀ c ∈ tl ("zz" : Str), 33 ≤ c) ∧ ("zz" : Str).length ≤ 20), List.forall_mem_cons.mpr ⟨(by decide +kernel : (tl ("up" : Str) ≠ [] ∧ ∀ c ∈ tl ("up" : Str), 33 ≤ c) ∧ ("up" : Str).length ≤ 20), List.forall_mem_cons.mpr ⟨(by decide +kernel : (tl ("1" : Str) ≠ [] ∧ ∀ c ∈ tl ("1" : Str), 33 ≤ c) ∧ ("1" : Str).length ≤ 20), List.forall_mem_cons.mpr ⟨⟨plain_name h, name_le h⟩, List.forall_mem_nil _⟩⟩⟩⟩) (by simp) (pn_kind (by decide +kernel))
theorem bad_9 {one : Str} (h : goodName (tl one) = true) : BadR (badRow 9 one) := by
  have hT : 84 ∉ tl one := name_free h (by decide)
  have e0 : badRow 9 one = ("zz" : Str) ++ Txt.replace (Txt.replace (" up:64 1 ONE" : Str) "ONE" one) "TWO" (twoOf one) := rfl
  have e1 : tl (Txt.replace (" up:64 1 ONE" : Str) "ONE" one) = [32, 117, 112, 58, 54, 52, 32, 49, 32] ++ (tl one ++ []) := by
    rw [repl_at (k := 9) (by decide +kernel) (by decide +kernel), (by decide +kernel : (tl (" up:64 1 ONE" : Str)).take 9 = [32, 117, 112, 58, 54, 52, 32, 49, 32]), (by decide +kernel : (tl (" up:64 1 ONE" : Str)).drop (9 + ("ONE" : Str).length) = [])]
  have e2 : tl (Txt.replace (Txt.replace (" up:64 1 ONE" : Str) "ONE" one) "TWO" (twoOf one)) = [32, 117, 112, 58, 54, 52, 32, 49, 32] ++ (tl one ++ []) := by
    rw [two_none, e1]
    rw [e1, List.mem_append, List.mem_append]
    rintro (z | z | z)
    · exact absurd z (by decide)
    · exact hT z
    · exact absurd z (by decide)
  have e3 : tl (badRow 9 one) = tl ("zz" : Str) ++ tl (Txt.replace (Txt.replace (" up:64 1 ONE" : Str) "ONE" one) "TWO" (twoOf one)) := by rw [e0, tl_append]
  rw [e2] at e3
  refine bad_fin (ws := [("zz" : Str), ("up:64" : Str), ("1" : Str), one]) (by
    rw [e3]
    simp only [List.map_cons, List.map_nil, joinL, tl_append, (by decide +kernel : tl (" " : Str) = [32]), (by decide +kernel : tl ("1" : Str) = [49]), (by decide +kernel : tl ("up:64" : Str) = [117, 112, 58, 54, 52]), (by decide +kernel : tl ("zz" : Str) = [122, 122]), List.append_assoc, List.cons_append, List.nil_append, List.append_nil]) (by simp) (List.forall_mem_cons.mpr ⟨(by decide +kernel : (tl ("zz" : Str) ≠ [] ∧ ∀ c ∈ tl ("zz" : Str), 33 ≤ c) ∧ ("zz" : Str).length ≤ 20), List.forall_mem_cons.mpr ⟨(by decide +kernel : (tl ("up:64" : Str) ≠ [] ∧ ∀ c ∈ tl ("up:64" : Str), 33 ≤ c) ∧ ("up:64" : Str).length ≤ 20), List.forall_mem_cons.mpr ⟨(by decide +kernel : (tl ("1" : Str) ≠ [] ∧ ∀ c ∈ tl ("1" : Str), 33 ≤ c) ∧ ("1" : Str).length ≤ 20), List.forall_mem_cons.mpr ⟨⟨plain_name h, name_le h⟩, List.forall_mem_nil _⟩⟩⟩⟩) (by simp) (pn_kind (by decide +kernel))
theorem bad_10 {one : Str} (h : goodName (tl one) = true) : BadR (badRow 10 one) := by
  have hT : 84 ∉ tl one := name_free h (by decide)
  have e0 : badRow 10 one = ("zz" : Str) ++ Txt.replace (Txt.replace (" out 0 ONE/101" : Str) "ONE" one) "TWO" (twoOf one) := rfl
  have e1 : tl (Txt.replace (" out 0 ONE/101" : Str) "ONE" one) = [32, 111, 117, 116, 32, 48, 32] ++ (tl one ++ [47, 49, 48, 49]) := by
    rw [repl_at (k := 7) (by decide +kernel) (by decide +kernel), (by decide +kernel : (tl (" out 0 ONE/101" : Str)).take 7 = [32, 111, 117, 116, 32, 48, 32]), (by decide +kernel : (tl (" out 0 ONE/101" : Str)).drop (7 + ("ONE" : Str).length) = [47, 49, 48, 49])]
  have e2 : tl (Txt.replace (Txt.replace (" out 0 ONE/101" : Str) "ONE" one) "TWO" (twoOf one)) = [32, 111, 117, 116, 32, 48, 32] ++ (tl one ++ [47, 49, 48, 49]) := by
    rw [two_none, e1]
    rw [e1, List.mem_append, List.mem_append]
    rintro (z | z | z)
    · exact absurd z (by decide)
    · exact hT z
    · exact absurd z (by decide)
  have e3 : tl (badRow 10 one) = tl ("zz" : Str) ++ tl (Txt.replace (Txt.replace (" out 0 ONE/101" : Str) "ONE" one) "TWO" (twoOf one)) := by rw [e0, tl_append]
  rw [e2] at e3
  refine bad_fin (ws := [("zz" : Str), ("out" : Str), ("0" : Str), ((one ++ ("/" : Str)) ++ ("101" : Str))]) (by
    rw [e3]
    simp only [List.map_cons, List.map_nil, joinL, tl_append, (by decide +kernel : tl (" " : Str) = [32]), (by decide +kernel : tl ("/" : Str) = [47]), (by decide +kernel : tl ("0" : Str) = [48]), (by decide +kernel : tl ("101" : Str) = [49, 48, 49]), (by decide +kernel : tl ("out" : Str) = [111, 117, 116]), (by decide +kernel : tl ("zz" : Str) = [122, 122]), List.append_assoc, List.cons_append, List.nil_append, List.append_nil]) (by simp) (List.forall_mem_cons.mpr ⟨(by decide +kernel : (tl ("zz" : Str) ≠ [] ∧ ∀ c ∈ tl ("zz" : Str), 33 ≤ c) ∧ ("zz" : Str).length ≤ 20), List.forall_mem_cons.mpr ⟨(by decide +kernel : (tl ("out" : Str) ≠ [] ∧ ∀ c ∈ tl ("out" : Str), 33 ≤ c) ∧ ("out" : Str).length ≤ 20), List.forall_mem_cons.mpr ⟨(by decide +kernel : (tl ("0" : Str) ≠ [] ∧ ∀ c ∈ tl ("0" : Str), 33 ≤ c) ∧ ("0" : Str).length ≤ 20), List.forall_mem_cons.mpr ⟨pl_slash h (by decide +kernel) (by decide +kernel), List.forall_mem_nil _⟩⟩⟩⟩) (by simp) (pn_feed (List.mem_singleton.mpr (feed_none h (by decide +kernel)).symm))
theorem bad_11 {one : Str} (h : goodName (tl one) = true) : BadR (badRow 11 one) := by
  have hT : 84 ∉ tl one := name_free h (by decide)
  have e0 : badRow 11 one = ("zz" : Str) ++ Txt.replace (Txt.replace (" out 0 ONE/" : Str) "ONE" one) "TWO" (twoOf one) := rfl
  have e1 : tl (Txt.replace (" out 0 ONE/" : Str) "ONE" one) = [32, 111, 117, 116, 32, 48, 32] ++ (tl one ++ [47]) := by
    rw [repl_at (k := 7) (by decide +kernel) (by decide +kernel), (by decide +kernel : (tl (" out 0 ONE/" : Str)).take 7 = [32, 111, 117, 116, 32, 48, 32]), (by decide +kernel : (tl (" out 0 ONE/" : Str)).drop (7 + ("ONE" : Str).length) = [47])]
  have e2 : tl (Txt.replace (Txt.replace (" out 0 ONE/" : Str) "ONE" one) "TWO" (twoOf one)) = [32, 111, 117, 116, 32, 48, 32] ++ (tl one ++ [47]) := by
    rw [two_none, e1]
    rw [e1, List.mem_append, List.mem_append]
    rintro (z | z | z)
    · exact absurd z (by decide)
    · exact hT z
    · exact absurd z (by decide)
  have e3 : tl (badRow 11 one) = tl ("zz" : Str) ++ tl (Txt.replace (Txt.replace (" out 0 ONE/" : Str) "ONE" one) "TWO" (twoOf one)) := by rw [e0, tl_append]
  rw [e2] at e3
  refine bad_fin (ws := [("zz" : Str), ("out" : Str), ("0" : Str), ((one ++ ("/" : Str)) ++ ("" : Str))]) (by
    rw [e3]
    simp only [List.map_cons, List.map_nil, joinL, tl_append, (by decide +kernel : tl ("" : Str) = []), (by decide +kernel : tl (" " : Str) = [32]), (by decide +kernel : tl ("/" : Str) = [47]), (by decide +kernel : tl ("0" : Str) = [48]), (by decide +kernel : tl ("out" : Str) = [111, 117, 116]), (by decide +kernel : tl ("zz" : Str) = [122, 122]), List.append_assoc, List.cons_append, List.nil_append, List.append_nil]) (by simp) (List.forall_mem_cons.mpr ⟨(by decide +kernel : (tl ("zz" : Str) ≠ [] ∧ ∀ c ∈ tl ("zz" : Str), 33 ≤ c) ∧ ("zz" : Str).length ≤ 20), List.forall_mem_cons.mpr ⟨(by decide +kernel : (tl ("out" : Str) ≠ [] ∧ ∀ c ∈ tl ("out" : Str), 33 ≤ c) ∧ ("out" : Str).length ≤ 20), List.forall_mem_cons.mpr ⟨(by decide +kernel : (tl ("0" : Str) ≠ [] ∧ ∀ c ∈ tl ("0" : Str), 33 ≤ c) ∧ ("0" : Str).length ≤ 20), List.forall_mem_cons.mpr ⟨pl_slash h (by decide +kernel) (by decide +kernel), List.forall_mem_nil _⟩⟩⟩⟩) (by simp) (pn_feed (List.mem_singleton.mpr (feed_none h (by decide +kernel)).symm))
theorem bad_12 {one : Str} (h : goodName (tl one) = true) : BadR (badRow 12 one) := by
  have hT : 84 ∉ tl one := name_free h (by decide)
  have e0 : badRow 12 one = ("zz" : Str) ++ Txt.replace (Txt.replace (" out 0 ONE/01" : Str) "ONE" one) "TWO" (twoOf one) := rfl
  have e1 : tl (Txt.replace (" out 0 ONE/01" : Str) "ONE" one) = [32, 111, 117, 116, 32, 48, 32] ++ (tl one ++ [47, 48, 49]) := by
    rw [repl_at (k := 7) (by decide +kernel) (by decide +kernel), (by decide +kernel : (tl (" out 0 ONE/01" : Str)).take 7 = [32, 111, 117, 116, 32, 48, 32]), (by decide +kernel : (tl (" out 0 ONE/01" : Str)).drop (7 + ("ONE" : Str).length) = [47, 48, 49])]
  have e2 : tl (Txt.replace (Txt.replace (" out 0 ONE/01" : Str) "ONE" one) "TWO" (twoOf one)) = [32, 111, 117, 116, 32, 48, 32] ++ (tl one ++ [47, 48, 49]) := by
    rw [two_none, e1]
    rw [e1, List.mem_append, List.mem_append]
    rintro (z | z | z)
    · exact absurd z (by decide)
    · exact hT z
    · exact absurd z (by decide)
  have e3 : tl (badRow 12 one) = tl ("zz" : Str) ++ tl (Txt.replace (Txt.replace (" out 0 ONE/01" : Str) "ONE" one) "TWO" (twoOf one)) := by rw [e0, tl_append]
  rw [e2] at e3
  refine bad_fin (ws := [("zz" : Str), ("out" : Str), ("0" : Str), ((one ++ ("/" : Str)) ++ ("01" : Str))]) (by
    rw [e3]
    simp only [List.map_cons, List.map_nil, joinL, tl_append, (by decide +kernel : tl (" " : Str) = [32]), (by decide +kernel : tl ("/" : Str) = [47]), (by decide +kernel : tl ("0" : Str) = [48]), (by decide +kernel : tl ("01" : Str) = [48, 49]), (by decide +kernel : tl ("out" : Str) = [111, 117, 116]), (by decide +kernel : tl ("zz" : Str) = [122, 122]), List.append_assoc, List.cons_append, List.nil_append, List.append_nil]) (by simp) (List.forall_mem_cons.mpr ⟨(by decide +kernel : (tl ("zz" : Str) ≠ [] ∧ ∀ c ∈ tl ("zz" : Str), 33 ≤ c) ∧ ("zz" : Str).length ≤ 20), List.forall_mem_cons.mpr ⟨(by decide +kernel : (tl ("out" : Str) ≠ [] ∧ ∀ c ∈ tl ("out" : Str), 33 ≤ c) ∧ ("out" : Str).length ≤ 20), List.forall_mem_cons.mpr ⟨(by decide +kernel : (tl ("0" : Str) ≠ [] ∧ ∀ c ∈ tl ("0" : Str), 33 ≤ c) ∧ ("0" : Str).length ≤ 20), List.forall_mem_cons.mpr ⟨pl_slash h (by decide +kernel) (by decide +kernel), List.forall_mem_nil _⟩⟩⟩⟩) (by simp) (pn_feed (List.mem_singleton.mpr (feed_none h (by decide +kernel)).symm))
theorem bad_13 {one : Str} (h : goodName (tl one) = true) : BadR (badRow 13 one) := by
  have hT : 84 ∉ tl one := name_free h (by decide)
  have e0 : badRow 13 one = ("zz" : Str) ++ Txt.replace (Txt.replace (" out 0 ONE/1/1" : Str) "ONE" one) "TWO" (twoOf one) := rfl
  have e1 : tl (Txt.replace (" out 0 ONE/1/1" : Str) "ONE" one) = [32, 111, 117, 116, 32, 48, 32] ++ (tl one ++ [47, 49, 47, 49]) := by
    rw [repl_at (k := 7) (by decide +kernel) (by decide +kernel), (by decide +kernel : (tl (" out 0 ONE/1/1" : Str)).take 7 = [32, 111, 117, 116, 32, 48, 32]), (by decide +kernel : (tl (" out 0 ONE/1/1" : Str)).drop (7 + ("ONE" : Str).length) = [47, 49, 47, 49])]
  have e2 : tl (Txt.replace (Txt.replace (" out 0 ONE/1/1" : Str) "ONE" one) "TWO" (twoOf one)) = [32, 111, 117, 116, 32, 48, 32] ++ (tl one ++ [47, 49, 47, 49]) := by
    rw [two_none, e1]
    rw [e1, List.mem_append, List.mem_append]
    rintro (z | z | z)
    · exact absurd z (by decide)
    · exact hT z
    · exact absurd z (by decide)
  have e3 : tl (badRow 13 one) = tl ("zz" : Str) ++ tl (Txt.replace (Txt.replace (" out 0 ONE/1/1" : Str) "ONE" one) "TWO" (twoOf one)) := by rw [e0, tl_append]
  rw [e2] at e3
  refine bad_fin (ws := [("zz" : Str), ("out" : Str), ("0" : Str), ((one ++ ("/" : Str)) ++ ("1/1" : Str))]) (by
    rw [e3]
    simp only [List.map_cons, List.map_nil, joinL, tl_append, (by decide +kernel : tl (" " : Str) = [32]), (by decide +kernel : tl ("/" : Str) = [47]), (by decide +kernel : tl ("0" : Str) = [48]), (by decide +kernel : tl ("1/1" : Str) = [49, 47, 49]), (by decide +kernel : tl ("out" : Str) = [111, 117, 116]), (by decide +kernel : tl ("zz" : Str) = [122, 122]), List.append_assoc, List.cons_append, List.nil_append, List.append_nil]) (by simp) (List.forall_mem_cons.mpr ⟨(by decide +kernel : (tl ("zz" : Str) ≠ [] ∧ ∀ c ∈ tl ("zz" : Str), 33 ≤ c) ∧ ("zz" : Str).length ≤ 20), List.forall_mem_cons.mpr ⟨(by decide +kernel : (tl ("out" : Str) ≠ [] ∧ ∀ c ∈ tl ("out" : Str), 33 ≤ c) ∧ ("out" : Str).length ≤ 20), List.forall_mem_cons.mpr ⟨(by decide +kernel : (tl ("0" : Str) ≠ [] ∧ ∀ c ∈ tl ("0" : Str), 33 ≤ c) ∧ ("0" : Str).length ≤ 20), List.forall_mem_cons.mpr ⟨pl_slash h (by decide +kernel) (by decide +kernel), List.forall_mem_nil _⟩⟩⟩⟩) (by simp) (pn_feed (List.mem_singleton.mpr (feed_none h (by decide +kernel)).symm))
theorem bad_14 {one : Str} (h : goodName (tl one) = true) : BadR (badRow 14 one) := by
  have hT : 84 ∉ tl one := name_free h (by decide)
  have e0 : badRow 14 one = ("zz" : Str) ++ Txt.replace (Txt.replace (" and -1 TWO" : Str) "ONE" one) "TWO" (twoOf one) := rfl
  have e1 : tl (Txt.replace (" and -1 TWO" : Str) "ONE" one) = [32, 97, 110, 100, 32, 45, 49, 32, 84, 87, 79] := by
    rw [repl_none (by decide +kernel)]
    decide +kernel
  have e2 : tl (Txt.replace (Txt.replace (" and -1 TWO" : Str) "ONE" one) "TWO" (twoOf one)) = [32, 97, 110, 100, 32, 45, 49, 32] ++ (tl (twoOf one) ++ []) := two_one (by rw [e1] <;> rfl) (by decide) (by decide)
  have e3 : tl (badRow 14 one) = tl ("zz" : Str) ++ tl (Txt.replace (Txt.replace (" and -1 TWO" : Str) "ONE" one) "TWO" (twoOf one)) := by rw [e0, tl_append]
  rw [e2] at e3
  refine bad_fin (ws := [("zz" : Str), ("and" : Str), ("-1" : Str), one, one]) (by
    rw [e3]
    unfold twoOf
    simp only [List.map_cons, List.map_nil, joinL, tl_append, (by decide +kernel : tl (" " : Str) = [32]), (by decide +kernel : tl ("-1" : Str) = [45, 49]), (by decide +kernel : tl ("and" : Str) = [97, 110, 100]), (by decide +kernel : tl ("zz" : Str) = [122, 122]), List.append_assoc, List.cons_append, List.nil_append, List.append_nil]) (by simp) (List.forall_mem_cons.mpr ⟨(by decide +kernel : (tl ("zz" : Str) ≠ [] ∧ ∀ c ∈ tl ("zz" : Str), 33 ≤ c) ∧ ("zz" : Str).length ≤ 20), List.forall_mem_cons.mpr ⟨(by decide +kernel : (tl ("and" : Str) ≠ [] ∧ ∀ c ∈ tl ("and" : Str), 33 ≤ c) ∧ ("and" : Str).length ≤ 20), List.forall_mem_cons.mpr ⟨(by decide +kernel : (tl ("-1" : Str) ≠ [] ∧ ∀ c ∈ tl ("-1" : Str), 33 ≤ c) ∧ ("-1" : Str).length ≤ 20), List.forall_mem_cons.mpr ⟨⟨plain_name h, name_le h⟩, List.forall_mem_cons.mpr ⟨⟨plain_name h, name_le h⟩, List.forall_mem_nil _⟩⟩⟩⟩⟩) (by simp) (pn_num (by decide +kernel))
theorem bad_15 {one : Str} (h : goodName (tl one) = true) : BadR (badRow 15 one) := by
  have hT : 84 ∉ tl one := name_free h (by decide)
  have e0 : badRow 15 one = ("zz" : Str) ++ Txt.replace (Txt.replace (" out 0 A" : Str) "ONE" one) "TWO" (twoOf one) := rfl
  have e1 : tl (Txt.replace (" out 0 A" : Str) "ONE" one) = [32, 111, 117, 116, 32, 48, 32, 65] := by
    rw [repl_none (by decide +kernel)]
    decide +kernel
  have e2 : tl (Txt.replace (Txt.replace (" out 0 A" : Str) "ONE" one) "TWO" (twoOf one)) = [32, 111, 117, 116, 32, 48, 32, 65] := by
    rw [two_none, e1]
    rw [e1]
    decide
  have e3 : tl (badRow 15 one) = tl ("zz" : Str) ++ tl (Txt.replace (Txt.replace (" out 0 A" : Str) "ONE" one) "TWO" (twoOf one)) := by rw [e0, tl_append]
  rw [e2] at e3
  refine bad_fin (ws := [("zz" : Str), ("out" : Str), ("0" : Str), ("A" : Str)]) (by
    rw [e3]
    simp only [List.map_cons, List.map_nil, joinL, tl_append, (by decide +kernel : tl (" " : Str) = [32]), (by decide +kernel : tl ("0" : Str) = [48]), (by decide +kernel : tl ("A" : Str) = [65]), (by decide +kernel : tl ("out" : Str) = [111, 117, 116]), (by decide +kernel : tl ("zz" : Str) = [122, 122]), List.append_assoc, List.cons_append, List.nil_append, List.append_nil]) (by simp) (List.forall_mem_cons.mpr ⟨(by decide +kernel : (tl ("zz" : Str) ≠ [] ∧ ∀ c ∈ tl ("zz" : Str), 33 ≤ c) ∧ ("zz" : Str).length ≤ 20), List.forall_mem_cons.mpr ⟨(by decide +kernel : (tl ("out" : Str) ≠ [] ∧ ∀ c ∈ tl ("out" : Str), 33 ≤ c) ∧ ("out" : Str).length ≤ 20), List.forall_mem_cons.mpr ⟨(by decide +kernel : (tl ("0" : Str) ≠ [] ∧ ∀ c ∈ tl ("0" : Str), 33 ≤ c) ∧ ("0" : Str).length ≤ 20), List.forall_mem_cons.mpr ⟨(by decide +kernel : (tl ("A" : Str) ≠ [] ∧ ∀ c ∈ tl ("A" : Str), 33 ≤ c) ∧ ("A" : Str).length ≤ 20), List.forall_mem_nil _⟩⟩⟩⟩) (by simp) (pn_feed (List.mem_singleton.mpr (by decide +kernel)))
theorem bad_16 {one : Str} (h : goodName (tl one) = true) : BadR (badRow 16 one) := by
  have hT : 84 ∉ tl one := name_free h (by decide)
  have e3 : tl (badRow 16 one) = (tl ("Qq" : Str) ++ tl (" and 1 " : Str)) ++ tl (twoOf one) := by
    show tl ((("Qq" : Str) ++ " and 1 ") ++ twoOf one) = _
    rw [tl_append, tl_append]
  rw [(by decide +kernel : tl (" and 1 " : Str) = [32, 97, 110, 100, 32, 49, 32])] at e3
  refine bad_fin (ws := [("Qq" : Str), ("and" : Str), ("1" : Str), one, one]) (by
    rw [e3]
    unfold twoOf
    simp only [List.map_cons, List.map_nil, joinL, tl_append, (by decide +kernel : tl (" " : Str) = [32]), (by decide +kernel : tl ("1" : Str) = [49]), (by decide +kernel : tl ("Qq" : Str) = [81, 113]), (by decide +kernel : tl ("and" : Str) = [97, 110, 100]), List.append_assoc, List.cons_append, List.nil_append, List.append_nil]) (by simp) (List.forall_mem_cons.mpr ⟨(by decide +kernel : (tl ("Qq" : Str) ≠ [] ∧ ∀ c ∈ tl ("Qq" : Str), 33 ≤ c) ∧ ("Qq" : Str).length ≤ 20), List.forall_mem_cons.mpr ⟨(by decide +kernel : (tl ("and" : Str) ≠ [] ∧ ∀ c ∈ tl ("and" : Str), 33 ≤ c) ∧ ("and" : Str).length ≤ 20), List.forall_mem_cons.mpr ⟨(by decide +kernel : (tl ("1" : Str) ≠ [] ∧ ∀ c ∈ tl ("1" : Str), 33 ≤ c) ∧ ("1" : Str).length ≤ 20), List.forall_mem_cons.mpr ⟨⟨plain_name h, name_le h⟩, List.forall_mem_cons.mpr ⟨⟨plain_name h, name_le h⟩, List.forall_mem_nil _⟩⟩⟩⟩⟩) (by simp) (pn_name (by decide +kernel))
theorem bad_17 {one : Str} (h : goodName (tl one) = true) : BadR (badRow 17 one) := by
  have hT : 84 ∉ tl one := name_free h (by decide)
  have e3 : tl (badRow 17 one) = (tl ("aaaaaaaaa" : Str) ++ tl (" and 1 " : Str)) ++ tl (twoOf one) := by
    show tl ((("aaaaaaaaa" : Str) ++ " and 1 ") ++ twoOf one) = _
    rw [tl_append, tl_append]
  rw [(by decide +kernel : tl (" and 1 " : Str) = [32, 97, 110, 100, 32, 49, 32])] at e3
  refine bad_fin (ws := [("aaaaaaaaa" : Str), ("and" : Str), ("1" : Str), one, one]) (by
    rw [e3]
    unfold twoOf
    simp only [List.map_cons, List.map_nil, joinL, tl_append, (by decide +kernel : tl (" " : Str) = [32]), (by decide +kernel : tl ("1" : Str) = [49]), (by decide +kernel : tl ("aaaaaaaaa" : Str) = [97, 97, 97, 97, 97, 97, 97, 97, 97]), (by decide +kernel : tl ("and" : Str) = [97, 110, 100]), List.append_assoc, List.cons_append, List.nil_append, List.append_nil]) (by simp) (List.forall_mem_cons.mpr ⟨(by decide +kernel : (tl ("aaaaaaaaa" : Str) ≠ [] ∧ ∀ c ∈ tl ("aaaaaaaaa" : Str), 33 ≤ c) ∧ ("aaaaaaaaa" : Str).length ≤ 20), List.forall_mem_cons.mpr ⟨(by decide +kernel : (tl ("and" : Str) ≠ [] ∧ ∀ c ∈ tl ("and" : Str), 33 ≤ c) ∧ ("and" : Str).length ≤ 20), List.forall_mem_cons.mpr ⟨(by decide +kernel : (tl ("1" : Str) ≠ [] ∧ ∀ c ∈ tl ("1" : Str), 33 ≤ c) ∧ ("1" : Str).length ≤ 20), List.forall_mem_cons.mpr ⟨⟨plain_name h, name_le h⟩, List.forall_mem_cons.mpr ⟨⟨plain_name h, name_le h⟩, List.forall_mem_nil _⟩⟩⟩⟩⟩) (by simp) (pn_name (by decide +kernel))
theorem bad_all {one : Str} (h : goodName (tl one) = true) : ∀ which < 18, BadR (badRow which one) := fun which hw => by
  match which, hw with
  | 0, _ => exact bad_0 h
  | 1, _ => exact bad_1 h
  | 2, _ => exact bad_2 h
  | 3, _ => exact bad_3 h
  | 4, _ => exact bad_4 h
  | 5, _ => exact bad_5 h
  | 6, _ => exact bad_6 h
  | 7, _ => exact bad_7 h
  | 8, _ => exact bad_8 h
  | 9, _ => exact bad_9 h
  | 10, _ => exact bad_10 h
  | 11, _ => exact bad_11 h
  | 12, _ => exact bad_12 h
  | 13, _ => exact bad_13 h
  | 14, _ => exact bad_14 h
  | 15, _ => exact bad_15 h
  | 16, _ => exact bad_16 h
  | 17, _ => exact bad_17 h
  | n + 18, hw => exact absurd hw (by omega)
end SW


/-! ### texts of many parts -/
namespace SW
open PySem PySem.Spec PyProof.Rows L2 He TL
def spMany : Sp := fun vs H Q _ => vs = [] ∧ ∀ H', Same H H' → Q (.bl true) H'
def bRow (k : Nat) : Str := (("b" : Str) ++ Str.ofString (toString (k : Int))) ++ (" out 0 a" : Str)
theorem bRow_eq : ∀ k < 59, bRow k = shownRow (bP (bName k)) ∧ ("b" : Str).length + (Str.ofString (toString (k : Int))).length ≤ 10 ∧ (("b" : Str) ++ Str.ofString (toString (k : Int))).length + (" out 0 a" : Str).length ≤ 30 := by decide +kernel
theorem a_rows : ("a in 0" : Str) :: (List.range 59).map bRow = aPs.map shownRow := by
  unfold aPs
  rw [List.map_cons, List.map_map]
  refine congr (congrArg List.cons (by decide +kernel)) (List.map_congr_left fun k hk => (bRow_eq k (List.mem_range.mp hk)).1)
section
variable {P : Program} {w : World} {K : PySem.W.Frag} {mg : Str → Option Value} {base : Heap}
theorem ok_law_many (T : Txt K mg) : Ok P w K mg base 7 (ga K "_law_many") [] spMany := by
  have G_law_refused := ok_law_refused (P := P) (w := w) (base := base) T
  refine mkOk T.F_law_many sc_law_many (fun _ _ _ _ _ _ us hl => match us, hl with | [], _ => rfl) (by rintro vs H Q E ⟨rfl, _⟩; rfl) (fun cdv A outer s H vs Q E hr h => ?_)
  obtain ⟨rfl, q⟩ := h
  have hu := hu_of hr
  refine ⟨_, (pss_cons (ps_set (i := 0) sc_law_many.nd rfl (by first | exact Or.inl rfl | exact Or.inr rfl) (pe_op op_cat (pe_lst (pa_cons pe_str pa_nil)) (pe_lc (own := [("_law_k", 1)]) rfl sc_law_many.nd (pi_range1 (by rfl) T.f_range (pa_cons pe_int pa_nil)) (blkOk_by (own := [("_law_k", 1)]) (N := ["_law_rows", "_law_k", "_law_text_here"]) (sc := defScope s_law_many) (by decide +kernel)) (fun _ _ _ _ _ => (pg_name (i := 1) sc_law_many.nd rfl (by first | exact Or.inl rfl | exact Or.inr rfl))) (fun _ _ _ _ _ => pts_nil) (fun _ _ _ _ _ => (pe_op op_add_str (pe_op op_add_str pe_str (pe_callTy call_str_int (by rfl) T.f_str (by decide +kernel) (pa_cons (pv 1) pa_nil))) pe_str)))))
      (pss_cons (ps_set (i := 2) sc_law_many.nd rfl (by first | exact Or.inl rfl | exact Or.inr rfl) (pe_join pe_str (pv 0)))
      (pss_cons (ps_if (PW.pt (pw_or (pt_cmpR (neDK (K := K) hr.units) (pe_callO G_law_refused (hr.mono (by decide)) T.g_law_refused (pa_cons (pv 2) pa_nil)) (pe_tup (pa_cons pe_str (pa_cons (pe_un un_neg pe_int) pa_nil))) (nomark _)) (pw_or1 (pt_cmpR (neDK (K := K) hr.units) (pe_callO G_law_refused (hr.mono (by decide)) T.g_law_refused (pa_cons (pe_op op_add_str (pv 2) pe_str) pa_nil)) (pe_tup (pa_cons pe_str (pa_cons (pe_un un_neg pe_int) pa_nil))) (nomark _))))) (pss_one (ps_ret pe_bl)) pss_nil)
      (pss_one (ps_ret (pe_and (pe_cmpR (eqDK (K := K) hr.units) (pe_callO G_law_refused (hr.mono (by decide)) T.g_law_refused (pa_cons (pe_op op_add_str (pv 2) pe_str) pa_nil)) (pe_tup (pa_cons pe_str (pa_cons pe_int pa_nil))) (nomark _)) (pe_one (pe_cmpR (eqDK (K := K) hr.units) (pe_callO G_law_refused (hr.mono (by decide)) T.g_law_refused (pa_cons pe_str pa_nil)) (pe_tup (pa_cons pe_str (pa_cons (pe_un un_neg pe_int) pa_nil))) (nomark _))))))))), ?_⟩
  have big : ∀ {n : Nat}, n ≤ 1000 → n ≤ sizeLine := fun h => Nat.le_trans h (by decide)
  refine ⟨(by show 1 ≤ sizeLine; decide), fun p0 hp0 => ?_⟩
  have s1 := Same.new (o := .lst [.str "a in 0"]) hp0
  have e1 : upd H p0 (.lst [.str "a in 0"]) p0 = _ := upd_same
  revert s1 e1
  generalize upd H p0 (HO.lst [.str "a in 0"]) = H1
  intro s1 e1
  refine ⟨(59 : Int), rfl, by decide, by decide, fun D hD => ?_⟩
  refine lc_range (lo := 0) (n := 59) (fun j H' => H' D = some (.lst ((List.range j).map fun k => V.str (bRow k))) ∧ Same H1 H') ⟨upd_same, Same.new hD⟩ ?_ ?_
  · rintro j H' hj ⟨e2, s2⟩
    obtain ⟨_, b1, b2⟩ := bRow_eq j hj
    have ej : (0 : Int) + (j : Int) = (j : Int) := by omega
    refine ⟨rfl, iteT (B := True) ?_⟩
    rw [ej]
    refine ⟨_, rfl, _, rfl, dgt _ (Nat.lt_of_lt_of_le (by omega : (j : Int).natAbs < 10000) (by decide)), _, _, rfl, rfl, big (by omega), _, _, rfl, rfl, big (by omega), ?_⟩
    refine ⟨_, e2, ?_, ?_, fun b o e => ?_⟩
    · rw [List.length_map, List.length_range]
      exact small1000 (by omega)
    · rw [upd_same, List.range_succ, List.map_append] <;> rfl
    · rw [upd_ne (ne_of_none e hD)]
      exact s2 b o e
  · rintro H2 ⟨e2, s2⟩
    have s12 := s1.trans s2
    refine ⟨p0, D, _, _, rfl, rfl, s2 _ _ e1, e2, ?_, fun p3 hp3 => ?_⟩
    · rw [List.length_map, List.length_range]
      show 1 + 59 ≤ sizeLine
      decide
    have er : ([V.str "a in 0"] ++ (List.range 59).map fun k => V.str (bRow k)) = (aPs.map shownRow).map V.str := by
      rw [← a_rows, List.map_cons, List.map_map] <;> rfl
    rw [er]
    have s3 := s12.trans (Same.new (o := .lst ((aPs.map shownRow).map V.str)) hp3)
    have e3 : upd H2 p3 (.lst ((aPs.map shownRow).map V.str)) p3 = _ := upd_same
    revert s3 e3
    generalize upd H2 p3 (HO.lst ((aPs.map shownRow).map V.str)) = H3
    intro s3 e3
    refine ⟨⟨_, rfl⟩, _, rfl, _, p3, aPs.map shownRow, rfl, rfl, .inl (SqL.of e3), ?_, ?_⟩
    · exact join_fits (fun r hr => by
        obtain ⟨q, hq, rfl⟩ := List.mem_map.mp hr
        exact (a_okp q hq).len) (by rw [List.length_map, a_len]; decide)
    obtain ⟨t1, v1⟩ := a_fine
    obtain ⟨t2, v2⟩ := a_many
    obtain ⟨t3, v3⟩ := a_bad
    obtain ⟨t4, v4⟩ := none_many
    have g2 := hu
    have x2 : Txt.join "\n" (aPs.map shownRow) ++ ("\n\nc out 0 a\nb1" : Str) = Txt.join "\n" (aPs.map shownRow ++ [("" : Str), shownRow (bP "c"), ("b1" : Str)]) := by
      rw [join_app (by unfold aPs; simp) (by simp), ← app3]
      exact congrArg _ (by decide +kernel)
    have x3 : Txt.join "\n" (aPs.map shownRow) ++ ("\nc out 0" : Str) = Txt.join "\n" (aPs.map shownRow ++ [("c out 0" : Str)]) := by
      rw [join_app (by unfold aPs; simp) (by simp), ← app3]
      exact congrArg _ (by decide +kernel)
    have ts := t1.len
    have huge : ∀ {n : Nat}, n ≤ 200000 → n ≤ sizeLine := fun h => Nat.le_trans h (by decide)
    have l2 : ("\n\nc out 0 a\nb1" : Str).length ≤ 100 ∧ ("\nc out 0" : Str).length ≤ 100 := by decide +kernel
    generalize Txt.join "\n" (aPs.map shownRow) = text at *
    refine ⟨_, rfl, text, .fine, rfl, t1, v1, fun r1 H4 s4 e4 => ⟨_, rfl, (by show 2 ≤ sizeLine; decide), fun u1 hu1 => told_ne (by decide +kernel) (Same.new hu1 _ _ e4) upd_same ⟨false, rfl, iteF ?_⟩⟩⟩
    have s5 := (s3.trans s4).trans (Same.new (o := .tup [.str "", .int (-1)]) hu1)
    refine ⟨_, rfl, _, _, rfl, rfl, huge (by omega), _, .many, rfl, by rw [x2]; exact t2, by rw [x2]; exact v2, fun r2 H6 s6 e6 => ⟨_, rfl, (by show 2 ≤ sizeLine; decide), fun u2 hu2 => told_ne (by decide +kernel) (Same.new hu2 _ _ e6) upd_same ⟨false, rfl, iteF ?_⟩⟩⟩
    have s7 := (s5.trans s6).trans (Same.new (o := .tup [.str "many", .int (-1)]) hu2)
    refine ⟨_, rfl, _, _, rfl, rfl, huge (by omega), _, .bad 60, rfl, by rw [x3]; exact t3, by rw [x3]; exact v3, fun r3 H8 s8 e8 => ⟨(by show 2 ≤ sizeLine; decide), fun u3 hu3 => told_eq (by decide +kernel) (Same.new hu3 _ _ e8) upd_same ?_⟩⟩
    have s9 := (s7.trans s8).trans (Same.new (o := .tup [.str "row", .int 60]) hu3)
    refine ⟨true, rfl, iteT ?_⟩
    refine ⟨_, .many, rfl, t4, v4, fun r4 H10 s10 e10 => ⟨_, rfl, (by show 2 ≤ sizeLine; decide), fun u4 hu4 => told_eq (by decide +kernel) (Same.new hu4 _ _ e10) upd_same ?_⟩⟩
    exact q _ ((s9.trans s10).trans (Same.new hu4))
end
end SW


/-! ### a ring put ahead -/
namespace SW
open PySem PySem.Spec PyProof.Rows L2 He TL
def ringStr (n k : Nat) : Str := ((((("zz" : Str) ++ Str.ofString (toString (k : Int))) ++ (" and 1 " : Str)) ++ ("zz" : Str)) ++ Str.ofString (toString (((k + 1) % n : Nat) : Int))) ++ (" zz0/2" : Str)
theorem ringStr_eq : ∀ n < 6, ∀ k < n, ringStr n k = shownRow (ringP n k) := by decide +kernel
theorem ring_strs {n : Nat} (hn : n ≤ 5) : (List.range n).map (ringStr n) = (ringPs n).map shownRow := by
  unfold ringPs
  rw [List.map_map]
  exact List.map_congr_left fun k hk => ringStr_eq n (by omega) k (List.mem_range.mp hk)
def spRinged : Sp := fun vs H Q _ => ∃ (G : Hp) (a : Addr) (cell : Int) (most : Nat) (mark : Int) (ls : List Lp) (nn : Nat), vs = [.ref a, .int cell] ∧ Same G H ∧ LawAt3 G a ls nn ∧ LawOk most mark ls ∧ most ≤ 40 ∧
  ∀ n H', 1 ≤ n → n ≤ 5 → Same H H' → Q (.str (Txt.join "\n" (ringRows n ls))) H'
section
variable {P : Program} {w : World} {K : PySem.W.Frag} {mg : Str → Option Value} {base : Heap}
theorem ok_law_ringed (T : Txt K mg) : Ok P w K mg base 2 (ga K "_law_ringed") ["_law_parts", "_law_cell"] spRinged := by
  have G_law_draw := ok_draw (P := P) (w := w) (base := base) T
  have G_law_text := ok_law_text3 (P := P) (w := w) (base := base) T
  refine mkOk T.F_law_ringed sc_law_ringed (fun _ _ _ _ _ _ us hl => match us, hl with | [_, _], _ => rfl) (by rintro vs H Q E ⟨_, _, _, _, _, _, _, rfl, _⟩; rfl) (fun cdv A outer s H vs Q E hr h => ?_)
  obtain ⟨G, a, cell, most, mark, ls, nn, rfl, sg, hla, hok, hm, q⟩ := h
  have hu := hu_of hr
  refine ⟨_, (pss_cons (ps_set (i := 2) sc_law_ringed.nd rfl (by first | exact Or.inl rfl | exact Or.inr rfl) (pe_op op_add pe_int (pe_callO G_law_draw (hr.mono (by decide)) T.g_law_draw (pa_cons (pv 1) (pa_cons pe_int (pa_cons pe_int pa_nil))))))
      (pss_cons (ps_setLc (i := 3) (own := [("_law_k", 4)]) rfl sc_law_ringed.nd rfl rfl (sw_true rfl rfl rfl (by decide +kernel)) (pi_range1 (by rfl) T.f_range (pa_cons (pv 2) pa_nil)) (blkOk_by (own := [("_law_k", 4)]) (N := ["_law_parts", "_law_cell", "_law_size", "_law_rows", "_law_k"]) (sc := defScope s_law_ringed) (by decide +kernel)) (fun _ _ _ _ _ => (pg_name (i := 4) sc_law_ringed.nd rfl (by first | exact Or.inl rfl | exact Or.inr rfl))) (fun _ _ _ _ _ => pts_nil) (fun _ _ _ _ _ => (pe_op op_add_str (pe_op op_add_str (pe_op op_add_str (pe_op op_add_str (pe_op op_add_str pe_str (pe_callTy call_str_int (by rfl) T.f_str (by decide +kernel) (pa_cons (pv 4) pa_nil))) pe_str) pe_str) (pe_callTy call_str_int (by rfl) T.f_str (by decide +kernel) (pa_cons (pe_op op_mod (pe_op op_add (pv 4) pe_int) (pv 2)) pa_nil))) pe_str)))
      (pss_one (ps_ret (pe_op op_add_str (pe_op op_add_str (pe_join pe_str (pv 3)) pe_str) (pe_callO G_law_text (hr.mono (by decide)) T.g_law_text (pa_cons (pv 0) pa_nil))))))), ?_⟩
  have big : ∀ {n : Nat}, n ≤ 1000 → n ≤ sizeLine := fun h => Nat.le_trans h (by decide)
  have la : ∀ a b : Str, (a ++ b).length = a.length + b.length := fun a b => by rw [len_tl, tl_append, List.length_append, ← len_tl, ← len_tl]
  have d0 := draw_lo cell 7 (show (0 : Int) < 5 by decide)
  have d1 := draw_hi cell 7 (show (0 : Int) < 5 by decide)
  refine ⟨_, rfl, cell, 7, 5, rfl, by decide, by decide, fun H1 s1 => ?_⟩
  generalize draw cell 7 5 = y at d0 d1
  obtain ⟨n, hn, hn1, hn5⟩ : ∃ n : Nat, 1 + y = (n : Int) ∧ 1 ≤ n ∧ n ≤ 5 := ⟨(1 + y).toNat, by omega, by omega, by omega⟩
  refine ⟨_, _, rfl, rfl, ?_⟩
  dsimp only
  rw [hn]
  refine ⟨_, rfl, (n : Int), rfl, by omega, by omega, fun D hD => ?_⟩
  rw [show ((n : Nat) : Int).toNat = n from rfl]
  have lz : ("zz" : Str).length = 2 ∧ (" and 1 " : Str).length = 7 ∧ (" zz0/2" : Str).length = 6 := by decide +kernel
  refine lc_range (lo := 0) (n := n) (fun j H' => H' D = some (.lst ((List.range j).map fun k => V.str (ringStr n k))) ∧ Same H1 H') ⟨upd_same, Same.new hD⟩ ?_ ?_
  · rintro j H' hj ⟨e2, s2⟩
    have ej : (0 : Int) + (j : Int) = (j : Int) := by omega
    have em : ((j : Int) + 1) % (n : Int) = (((j + 1) % n : Nat) : Int) := by rw [Int.natCast_emod] <;> rfl
    have hjn : (j + 1) % n < n := Nat.mod_lt _ (by omega)
    have n1 := num_len (n := (j : Int)) (by omega) (by omega)
    have n2 := num_len (n := (((j + 1) % n : Nat) : Int)) (by omega) (by omega)
    refine ⟨rfl, iteT (B := True) ?_⟩
    rw [ej]
    refine ⟨_, rfl, _, rfl, dgt _ (Nat.lt_of_lt_of_le (by omega : (j : Int).natAbs < 10000) (by decide)), _, _, rfl, rfl, big (by omega), _, _, rfl, rfl, big (by rw [la]; omega), _, _, rfl, rfl, big (by rw [la, la]; omega), ?_⟩
    refine ⟨_, rfl, _, _, rfl, rfl, _, rfl, _, _, rfl, rfl, (by omega : (0 : Int) < (n : Int)), ?_⟩
    dsimp only
    rw [em]
    refine ⟨_, rfl, dgt _ (Nat.lt_of_lt_of_le (by omega : (((j + 1) % n : Nat) : Int).natAbs < 10000) (by decide)), _, _, rfl, rfl, big (by rw [la, la, la]; omega), _, _, rfl, rfl, big (by rw [la, la, la, la]; omega), ?_⟩
    refine ⟨_, e2, ?_, ?_, fun b o e => ?_⟩
    · rw [List.length_map, List.length_range]
      exact small1000 (by omega)
    · rw [upd_same, List.range_succ, List.map_append] <;> rfl
    · rw [upd_ne (ne_of_none e hD)]
      exact s2 b o e
  · rintro H2 ⟨e2, s2⟩
    have s12 := s1.trans s2
    have er : ((List.range n).map fun k => V.str (ringStr n k)) = ((ringPs n).map shownRow).map V.str := by
      rw [← ring_strs hn5, List.map_map] <;> rfl
    rw [er] at e2
    have hlen := hok.len hm
    have ok1 : ∀ r ∈ (ringPs n).map shownRow, r.length ≤ 600 := fun r hr => by
      obtain ⟨p, hp, rfl⟩ := List.mem_map.mp hr
      exact (ring_okp hok hm hn5 p (List.mem_append_left _ hp)).len
    refine ⟨⟨_, rfl⟩, _, rfl, _, D, (ringPs n).map shownRow, rfl, rfl, .inl (SqL.of e2), join_fits ok1 (by rw [List.length_map, ring_len]; omega), ?_⟩
    have huge : ∀ {n : Nat}, n ≤ 400000 → n ≤ sizeLine := fun h => Nat.le_trans h (by decide)
    obtain ⟨t1, _⟩ := fine_verd hok hm
    have l1 := t1.len
    have l2 : (Txt.join "\n" ((ringPs n).map shownRow)).length ≤ 100000 := by
      have h1 := join_len "\n" ((ringPs n).map shownRow)
      have h2 := sum_le (fun x : Str => x.length) 600 _ ok1
      have h3 : ("\n" : Str).length = 1 := by decide +kernel
      rw [h3] at h1
      rw [List.length_map, ring_len] at h1 h2
      have h4 := Nat.mul_le_mul_right 600 hn5
      omega
    have l3 : ("\n" : Str).length = 1 := by decide +kernel
    refine ⟨_, _, rfl, rfl, huge (by omega), _, rfl, G, a, most, mark, ls, nn, rfl, sg.trans s12, hla, hok, by omega, fun H3 s3 => ⟨_, _, rfl, rfl, huge (by rw [la]; unfold shownText; omega), ?_⟩⟩
    have ej : Txt.join "\n" (ringRows n ls) = (Txt.join "\n" ((ringPs n).map shownRow) ++ "\n") ++ shownText (worksOf ls) := by
      unfold ringRows shownText
      rw [List.map_append, join_app (fun z => by have := congrArg List.length z; rw [List.length_map, ring_len, List.length_nil] at this; omega) (fun z => (hok.good (by omega)).ne (List.map_eq_nil_iff.mp z))]
    rw [← ej]
    exact q n _ hn1 hn5 (s12.trans s3)
end
end SW


/-! ### the law's texts and their verdicts: plain Lean -/
namespace SW
open PySem PySem.Spec PyProof.Rows L2 He TL
theorem cut_take3 (xs : List V) (n : Nat) : cutV xs none (some (n : Int)) = xs.take n := by
  unfold cutV
  rw [HT.sIx_none, HT.sIx_nat, List.drop_zero, Nat.sub_zero]
  by_cases h : n ≤ xs.length
  · rw [Nat.min_eq_left h]
  · rw [Nat.min_eq_right (by omega), List.take_of_length_le (by omega), List.take_of_length_le (by omega)]
def rowsB (ls : List Lp) (k : Nat) (bad : Str) : List Str := ((worksOf ls).map shownRow).take k ++ bad :: ((worksOf ls).map shownRow).drop k
theorem rowsB_ne (ls : List Lp) (k : Nat) (bad : Str) : rowsB ls k bad ≠ [] := by unfold rowsB; simp
theorem rowsB_eq (ls : List Lp) (k : Nat) (bad : Str) : rowsB ls k bad = (([] ++ (worksOf ls).take k).map shownRow) ++ bad :: ((worksOf ls).drop k).map shownRow := by
  unfold rowsB
  rw [List.nil_append, List.map_take, List.map_drop]
section
variable {most : Nat} {mark : Int} {ls : List Lp} {k : Nat} {bad : Str}
theorem bad1 (h : LawOk most mark ls) (hm : most ≤ 40) (hk : k ≤ (worksOf ls).length) (hb : BadR bad) : SmallT (Txt.join "\n" (rowsB ls k bad)) ∧ Verd (Txt.join "\n" (rowsB ls k bad)) (.bad k) := by
  have g := h.good (by omega : most ≤ 59)
  have hl := h.len hm
  have := bad_verd (pre := []) (hs := []) (ps := worksOf ls) (k := k) (bad := bad) (fun r hr => by cases hr) (fun q hq => g.okp hq) g.wf.nd (by simp; omega) (by simp) hk hb.1 hb.2.1 hb.2.2
  rw [List.nil_append, ← rowsB_eq, List.length_nil, List.length_nil, Nat.zero_add, Nat.zero_add] at this
  exact this
theorem bad2 (h : LawOk most mark ls) (hm : most ≤ 40) (hk : k ≤ (worksOf ls).length) (hb : BadR bad) : SmallT (" \n\n" ++ Txt.join "\n" (rowsB ls k bad)) ∧ Verd (" \n\n" ++ Txt.join "\n" (rowsB ls k bad)) (.bad (k + 2)) := by
  have g := h.good (by omega : most ≤ 59)
  have hl := h.len hm
  have := bad_verd (pre := [(" " : Str), ""]) (hs := []) (ps := worksOf ls) (k := k) (bad := bad) (fun r hr => by
    rcases List.mem_cons.mp hr with rfl | hr
    · exact ⟨words_blank (a := 1) (by decide +kernel), by decide +kernel⟩
    · rw [List.mem_singleton.mp hr]
      exact ⟨words_blank (a := 0) (by decide +kernel), by decide +kernel⟩) (fun q hq => g.okp hq) g.wf.nd (by simp; omega) (by simp) hk hb.1 hb.2.1 hb.2.2
  rw [← rowsB_eq] at this
  have e : Txt.join "\n" ([(" " : Str), ""] ++ rowsB ls k bad) = (" \n\n" : Str) ++ Txt.join "\n" (rowsB ls k bad) := by
    show Txt.join "\n" (" " :: "" :: rowsB ls k bad) = _
    rw [join_cons _ (by simp), join_cons _ (rowsB_ne _ _ _)]
    refine ext_tl ?_
    rw [tl_append, tl_append, tl_append, tl_append, tl_append, (by decide +kernel : tl (" \n\n" : Str) = [32, 10, 10]), tl_blank, tl_nl, tl_emp] <;> rfl
  rw [e] at this
  rw [show ([(" " : Str), ""].length + (([] : List Pd).length + k)) = k + 2 by show 2 + (0 + k) = _; omega] at this
  exact this
theorem zy_row : shownRow (zyP "none") = ("zy out 0 none" : Str) := by decide +kernel
theorem zy_nodup (h : LawOk most mark ls) (hm : most ≤ 59) : (([zyP "none"] ++ worksOf ls).map Pd.name).Nodup := List.nodup_cons.mpr ⟨h.no_zy hm, (h.good hm).wf.nd⟩
theorem bad3 (h : LawOk most mark ls) (hm : most ≤ 40) (hk : k ≤ (worksOf ls).length) (hb : BadR bad) : SmallT ("zy out 0 none\n" ++ Txt.join "\n" (rowsB ls k bad)) ∧ Verd ("zy out 0 none\n" ++ Txt.join "\n" (rowsB ls k bad)) (.bad (k + 1)) := by
  have g := h.good (by omega : most ≤ 59)
  have hl := h.len hm
  have := bad_verd (pre := []) (hs := [zyP "none"]) (ps := worksOf ls) (k := k) (bad := bad) (fun r hr => by cases hr) (fun q hq => by
    rcases List.mem_append.mp hq with hq | hq
    · rw [List.mem_singleton.mp hq]
      exact ok_zy good_none
    · exact g.okp hq) (zy_nodup h (by omega)) (by simp; omega) (by simp) hk hb.1 hb.2.1 hb.2.2
  have e : Txt.join "\n" ([] ++ ((([zyP "none"] ++ (worksOf ls).take k).map shownRow) ++ bad :: ((worksOf ls).drop k).map shownRow)) = ("zy out 0 none\n" : Str) ++ Txt.join "\n" (rowsB ls k bad) := by
    show Txt.join "\n" (shownRow (zyP "none") :: ((worksOf ls).take k).map shownRow ++ bad :: ((worksOf ls).drop k).map shownRow) = _
    have e2 : ((worksOf ls).take k).map shownRow ++ bad :: ((worksOf ls).drop k).map shownRow = rowsB ls k bad := by rw [rowsB_eq, List.nil_append]
    rw [List.cons_append, e2, join_cons _ (rowsB_ne _ _ _), zy_row]
    exact congrArg (· ++ _) (by decide +kernel)
  rw [e] at this
  rw [show (([] : List Str).length + ([zyP "none"].length + k)) = k + 1 by show 0 + (1 + k) = _; omega] at this
  exact this
theorem row_zy (one : Str) : ("zy out 0 " : Str) ++ one = shownRow (zyP one) := ext_tl (by
  unfold shownRow
  rw [tl_join', tl_append, tl_blank]
  show tl ("zy out 0 " : Str) ++ tl one = tl ("zy" : Str) ++ ([32] ++ (tl (Kd.word ⟨.snk, 0⟩) ++ ([32] ++ (tl (Str.ofString (toString (0 : Int))) ++ ([32] ++ tl one)))))
  rw [(by decide +kernel : tl ("zy out 0 " : Str) = tl ("zy" : Str) ++ ([32] ++ (tl (Kd.word ⟨.snk, 0⟩) ++ ([32] ++ (tl (Str.ofString (toString (0 : Int))) ++ [32])))))]
  simp only [List.append_assoc])
theorem row_none (one z : Str) : ((((("zz odd 1 " : Str) ++ one) ++ (" " : Str)) ++ z) ++ ("/1" : Str)) = shownRow (noneP one z) := ext_tl (by
  unfold shownRow
  rw [tl_join', tl_append, tl_append, tl_append, tl_append, tl_blank]
  show (((tl ("zz odd 1 " : Str) ++ tl one) ++ [32]) ++ tl z) ++ tl ("/1" : Str) = tl ("zz" : Str) ++ ([32] ++ (tl (Kd.word ⟨.odd, 0⟩) ++ ([32] ++ (tl (Str.ofString (toString (1 : Int))) ++ ([32] ++ (tl one ++ ([32] ++ tl ((z ++ ("/" : Str)) ++ Str.ofString (toString (1 : Int))))))))))
  rw [tl_append, tl_append, (by decide +kernel : tl ("zz odd 1 " : Str) = tl ("zz" : Str) ++ ([32] ++ (tl (Kd.word ⟨.odd, 0⟩) ++ ([32] ++ (tl (Str.ofString (toString (1 : Int))) ++ [32]))))), (by decide +kernel : tl ("/1" : Str) = tl ("/" : Str) ++ tl (Str.ofString (toString (1 : Int))))]
  simp only [List.append_assoc])
theorem row_in (one : Str) : one ++ (" in 0" : Str) = shownRow (srcP one) := ext_tl (by
  unfold shownRow
  rw [tl_join', tl_append, tl_blank]
  show tl one ++ tl (" in 0" : Str) = tl one ++ ([32] ++ (tl (Kd.word ⟨.src, 0⟩) ++ ([32] ++ tl (Str.ofString (toString (0 : Int))))))
  rw [(by decide +kernel : tl (" in 0" : Str) = [32] ++ (tl (Kd.word ⟨.src, 0⟩) ++ ([32] ++ tl (Str.ofString (toString (0 : Int))))))])
theorem join_last {rows : List Str} (h : rows ≠ []) (r : Str) : Txt.join "\n" (rows ++ [r]) = (Txt.join "\n" rows ++ "\n") ++ r := by
  rw [join_app h (by simp)]
  exact congrArg _ (ext_tl (by rw [tl_join'] <;> rfl))
theorem ringRows_ne {n : Nat} (h : LawOk most mark ls) (hm : most ≤ 59) : ringRows n ls ≠ [] := fun z => by
  have := congrArg List.length z
  rw [ringRows_len, List.length_nil] at this
  exact (h.good hm).ne (List.eq_nil_of_length_eq_zero (by omega))
theorem ring_last1 {n : Nat} (h : LawOk most mark ls) (hm : most ≤ 59) : Txt.join "\n" (ringRows n ls) ++ ("\nzy out 0 none" : Str) = Txt.join "\n" (ringRows n ls ++ [shownRow (zyP "none")]) := by
  rw [join_last (ringRows_ne h hm), ← app3]
  exact congrArg _ (by decide +kernel)
theorem ring_last2 {n : Nat} (h : LawOk most mark ls) (hm : most ≤ 59) : ((Txt.join "\n" (ringRows n ls) ++ ("\n" : Str)) ++ nameAt ls 0) ++ (" in 0" : Str) = Txt.join "\n" (ringRows n ls ++ [shownRow (srcP (nameAt ls 0))]) := by
  rw [join_last (ringRows_ne h hm), ← app3, row_in]
end
end SW


/-! ### law k03 -/
namespace SW
open PySem PySem.Spec PyProof.Rows L2 He TL
def spLaw (K : PySem.W.Frag) : Sp := fun vs H Q _ => ∃ (a : Addr) (ns : List Int), vs = [.ref a] ∧ SqL K H a (ns.map V.int) ∧ ns.length ≤ 63 ∧ ∀ H', Q (.bl true) H'
section
variable {P : Program} {w : World} {K : PySem.W.Frag} {mg : Str → Option Value} {base : Heap}
def lawLevel : Nat := 9
set_option maxHeartbeats 4000000 in
theorem ok_law (T : Txt K mg) : Ok P w K mg base lawLevel (ga K "law") ["_law_script"] (spLaw K) := by
  have G_law_many := ok_law_many (P := P) (w := w) (base := base) T
  have G_law_works := ok_law_works3 (P := P) (w := w) (base := base) T
  have G_law_text := ok_law_text3 (P := P) (w := w) (base := base) T
  have G_law_draw := ok_draw (P := P) (w := w) (base := base) T
  have G_law_bad := ok_law_badN (P := P) (w := w) (base := base) T
  have G_law_refused := ok_law_refused (P := P) (w := w) (base := base) T
  have G_law_ringed := ok_law_ringed (P := P) (w := w) (base := base) T
  refine mkOk T.F_law sc_law (fun _ _ _ _ _ _ us hl => match us, hl with | [_], _ => rfl) (by rintro vs H Q E ⟨_, _, rfl, _⟩; rfl) (fun cdv A outer s H vs Q E hr h => ?_)
  obtain ⟨a, ns, rfl, hS, hlen, q⟩ := h
  have hu := hu_of hr
  refine ⟨_, (pss_ofN (pssn_cons (psn_of (ps_if (pt_not (pt_val (pe_call0O G_law_many (hr.mono (by decide)) T.g_law_many))) (pss_one (ps_ret pe_bl)) pss_nil))
      (pssn_cons (psn_set (i := 1) sc_law.nd rfl (by first | exact Or.inl rfl | exact Or.inr rfl) (pen_callO G_law_works (hr.mono (by decide)) T.g_law_works (pan_cons (pen_of (pv 0)) (pan_cons (pen_of pe_int) pan_nil))))
      (pssn_cons (psn_of (ps_set (i := 2) sc_law.nd rfl (by first | exact Or.inl rfl | exact Or.inr rfl) (pe_split (pe_callO G_law_text (hr.mono (by decide)) T.g_law_text (pa_cons (pv 1) pa_nil)) pe_str)))
      (pssn_cons (psn_for PassesOwn.never rfl (pi_range1 (by rfl) T.f_range (pa_cons (pe_callB (call_min2 rfl) (by rfl) T.f_min (by decide +kernel) (pa_cons (pe_callB (lenQ (K := K)) (by rfl) T.f_len (by decide +kernel) (pa_cons (pv 0) pa_nil)) (pa_cons pe_int pa_nil))) pa_nil)) (pg_name (i := 3) sc_law.nd rfl (by first | exact Or.inl rfl | exact Or.inr rfl))
      (pssn_cons (psn_of (ps_set (i := 4) sc_law.nd rfl (by first | exact Or.inl rfl | exact Or.inr rfl) (pe_op op_add (pe_ix (ixL (K := K)) (pv 0) (pv 3) (fun _ _ => rfl)) (pe_op op_mul pe_int (pv 3)))))
      (pssn_cons (psn_of (ps_set (i := 5) sc_law.nd rfl (by first | exact Or.inl rfl | exact Or.inr rfl) (pe_callO G_law_draw (hr.mono (by decide)) T.g_law_draw (pa_cons (pv 4) (pa_cons pe_int (pa_cons (pe_op op_add (pe_callB (lenQ (K := K)) (by rfl) T.f_len (by decide +kernel) (pa_cons (pv 2) pa_nil)) pe_int) pa_nil))))))
      (pssn_cons (psn_set (i := 6) sc_law.nd rfl (by first | exact Or.inl rfl | exact Or.inr rfl) (pen_callO G_law_bad (hr.mono (by decide)) T.g_law_bad (pan_cons (pen_of (pe_callO G_law_draw (hr.mono (by decide)) T.g_law_draw (pa_cons (pv 4) (pa_cons pe_int (pa_cons pe_int pa_nil))))) (pan_cons (pen_ix0 (pe_ix (ixL (K := K)) (pv 1) pe_int (fun _ _ => rfl)) pe_int (fun _ _ => rfl)) pan_nil))))
      (pssn_cons (psn_of (ps_set (i := 7) sc_law.nd rfl (by first | exact Or.inl rfl | exact Or.inr rfl) (pe_join pe_str (pe_op op_cat (pe_op op_cat (pe_slice (slL (K := K)) (pv 2) po_none (po_some (pv 5))) (pe_lst (pa_cons (pv 6) pa_nil))) (pe_slice (slL (K := K)) (pv 2) (po_some (pv 5)) po_none)))))
      (pssn_cons (psn_of (ps_if (PW.pt (pw_or (pt_cmpR (neDK (K := K) hr.units) (pe_callO G_law_refused (hr.mono (by decide)) T.g_law_refused (pa_cons (pv 7) pa_nil)) (pe_tup (pa_cons pe_str (pa_cons (pv 5) pa_nil))) (nomark _)) (pw_or1 (pt_cmpR (neDK (K := K) hr.units) (pe_callO G_law_refused (hr.mono (by decide)) T.g_law_refused (pa_cons (pe_op op_add_str pe_str (pv 7)) pa_nil)) (pe_tup (pa_cons pe_str (pa_cons (pe_op op_add (pv 5) pe_int) pa_nil))) (nomark _))))) (pss_one (ps_ret pe_bl)) pss_nil))
      (pssn_cons (psn_of (ps_if (pt_cmpR (neDK (K := K) hr.units) (pe_callO G_law_refused (hr.mono (by decide)) T.g_law_refused (pa_cons (pe_op op_add_str pe_str (pv 7)) pa_nil)) (pe_tup (pa_cons pe_str (pa_cons (pe_op op_add (pv 5) pe_int) pa_nil))) (nomark _)) (pss_one (ps_ret pe_bl)) pss_nil))
      (pssn_cons (psn_of (ps_set (i := 8) sc_law.nd rfl (by first | exact Or.inl rfl | exact Or.inr rfl) (pe_ix (ixT (K := K)) (pe_ix (ixL (K := K)) (pv 1) pe_int (fun _ _ => rfl)) pe_int (fun _ _ => rfl))))
      (pssn_cons (psn_of (ps_set (i := 9) sc_law.nd rfl (by first | exact Or.inl rfl | exact Or.inr rfl) (pe_op op_add_str (pe_op op_add_str (pe_op op_add_str (pe_op op_add_str pe_str (pv 8)) pe_str) (pe_ix (ixT (K := K)) (pe_tup (pa_cons pe_str (pa_cons pe_str pa_nil))) (pe_callO G_law_draw (hr.mono (by decide)) T.g_law_draw (pa_cons (pv 4) (pa_cons pe_int (pa_cons pe_int pa_nil)))) (fun _ _ => rfl))) pe_str)))
      (pssn_cons (psn_of (ps_set (i := 10) sc_law.nd rfl (by first | exact Or.inl rfl | exact Or.inr rfl) (pe_op op_cat (pe_op op_cat (pe_slice (slL (K := K)) (pv 2) po_none (po_some (pv 5))) (pe_lst (pa_cons (pv 9) pa_nil))) (pe_slice (slL (K := K)) (pv 2) (po_some (pv 5)) po_none))))
      (pssn_cons (psn_of (ps_set (i := 7) sc_law.nd rfl (by first | exact Or.inl rfl | exact Or.inr rfl) (pe_join pe_str (pe_op op_cat (pe_lst (pa_cons (pe_op op_add_str pe_str (pv 8)) pa_nil)) (pv 10)))))
      (pssn_cons (psn_of (ps_if (pt_cmpR (neDK (K := K) hr.units) (pe_callO G_law_refused (hr.mono (by decide)) T.g_law_refused (pa_cons (pv 7) pa_nil)) (pe_tup (pa_cons pe_str (pa_cons (pe_op op_add (pv 5) pe_int) pa_nil))) (nomark _)) (pss_one (ps_ret pe_bl)) pss_nil))
      (pssn_cons (psn_of (ps_set (i := 11) sc_law.nd rfl (by first | exact Or.inl rfl | exact Or.inr rfl) (pe_callO G_law_ringed (hr.mono (by decide)) T.g_law_ringed (pa_cons (pv 1) (pa_cons (pv 4) pa_nil)))))
      (pssn_cons (psn_of (ps_set (i := 12) sc_law.nd rfl (by first | exact Or.inl rfl | exact Or.inr rfl) (pe_callB (lenQ (K := K)) (by rfl) T.f_len (by decide +kernel) (pa_cons (pe_split (pv 11) pe_str) pa_nil))))
      (pssn_cons (psn_of (ps_if (pt_cmpR (neDK (K := K) hr.units) (pe_callO G_law_refused (hr.mono (by decide)) T.g_law_refused (pa_cons (pv 11) pa_nil)) (pe_tup (pa_cons pe_str (pa_cons (pe_un un_neg pe_int) pa_nil))) (nomark _)) (pss_one (ps_ret pe_bl)) pss_nil))
      (pssn_cons (psn_of (ps_if (pt_cmpR (neDK (K := K) hr.units) (pe_callO G_law_refused (hr.mono (by decide)) T.g_law_refused (pa_cons (pe_op op_add_str (pv 11) pe_str) pa_nil)) (pe_tup (pa_cons pe_str (pa_cons (pv 12) pa_nil))) (nomark _)) (pss_one (ps_ret pe_bl)) pss_nil))
      (pssn_one (psn_of (ps_if (pt_cmpR (neDK (K := K) hr.units) (pe_callO G_law_refused (hr.mono (by decide)) T.g_law_refused (pa_cons (pe_op op_add_str (pe_op op_add_str (pe_op op_add_str (pv 11) pe_str) (pe_ix (ixT (K := K)) (pe_ix (ixL (K := K)) (pv 1) pe_int (fun _ _ => rfl)) pe_int (fun _ _ => rfl))) pe_str) pa_nil)) (pe_tup (pa_cons pe_str (pa_cons (pv 12) pa_nil))) (nomark _)) (pss_one (ps_ret pe_bl)) pss_nil)))))))))))))))))))
      (pssn_one (psn_of (ps_ret (pe_cmpR (eqDK (K := K) hr.units) (pe_callO G_law_refused (hr.mono (by decide)) T.g_law_refused (pa_cons (pe_join pe_str (pv 2)) pa_nil)) (pe_tup (pa_cons pe_str (pa_cons (pe_un un_neg pe_int) pa_nil))) (nomark _)))))))))), ?_⟩
  refine ⟨rfl, fun H0 s0 => ⟨true, rfl, iteF ?_⟩⟩
  refine ⟨_, rfl, fun u1 hu1 => fun u2 hu2 => ⟨H0, a, ns, 10, rfl, Same.refl _, s0.seq hS, by decide, by decide, fun pq mark ls G1 H1 n1 g1 _ la1 ok1 => ?_⟩⟩
  have gd := ok1.good (by decide)
  have hlw : (worksOf ls).length ≤ 11 := by
    unfold worksOf
    rw [List.length_map]
    have := ok1.hi
    omega
  have huge : ∀ {n : Nat}, n ≤ 400000 → n ≤ sizeLine := fun h => Nat.le_trans h (by decide)
  have la : ∀ a b : Str, (a ++ b).length = a.length + b.length := fun a b => by rw [len_tl, tl_append, List.length_append, ← len_tl, ← len_tl]
  obtain ⟨tF, vF⟩ := fine_verd ok1 (by decide)
  have lF := tF.len
  refine ⟨_, rfl, G1, pq, 10, mark, ls, n1, rfl, g1.gh, la1, ok1, by decide, fun H2 s2 => ?_⟩
  refine ⟨⟨_, rfl⟩, _, _, rfl, rfl, rfl, huge (by unfold shownText; omega), fun ra hra => ?_⟩
  have er : Txt.split (shownText (worksOf ls)) "\n" = (worksOf ls).map shownRow := gd.rows
  rw [er]
  have s3 : Same H1 (upd H2 ra (.lst (((worksOf ls).map shownRow).map V.str))) := s2.trans (Same.new hra)
  have e3 : upd H2 ra (.lst (((worksOf ls).map shownRow).map V.str)) ra = _ := upd_same
  revert s3 e3
  generalize upd H2 ra (HO.lst (((worksOf ls).map shownRow).map V.str)) = H3
  intro s3 e3
  have hS3 : SqL K H3 a (ns.map V.int) := (g1.hh.trans s3).seq (s0.seq hS)
  refine ⟨_, rfl, a, _, rfl, .inl hS3, ?_⟩
  obtain ⟨turns, ht, ht12, htl⟩ : ∃ turns : Nat, (if (12 : Int) < (((ns.map V.int).length : Nat) : Int) then (12 : Int) else (((ns.map V.int).length : Nat) : Int)) = (turns : Int) ∧ turns ≤ 12 ∧ turns ≤ ns.length := by
    rw [List.length_map]
    by_cases h : (12 : Int) < (ns.length : Int)
    · exact ⟨12, by rw [if_pos h] <;> rfl, Nat.le_refl _, by omega⟩
    · exact ⟨ns.length, by rw [if_neg h], by omega, Nat.le_refl _⟩
  refine ⟨_, _, rfl, ?_⟩
  rw [ht]
  refine ⟨(turns : Int), rfl, by omega, by omega, ?_⟩
  rw [show ((turns : Nat) : Int).toNat = turns from rfl]
  -- the first name
  have ⟨lvs, hlq, hlA, fp, fo, ftk, fus, fm, fname, fxs, hf1, hfp, hfc, hfd, hfl, hft0, hft1⟩ := la1
  obtain ⟨l0, hl0, ft, fl, fvs, hfe, hfi⟩ := hlA.get hf1
  cases hfe
  obtain ⟨fo2, hfo2⟩ := hfi.ob
  have hnm : fname = nameAt ls 0 := by
    rw [hfp] at hfo2
    cases hfo2
    exact (nameAt_of hl0).symm
  subst hnm
  have hg1 := ok1.good1 (by decide)
  have hone8 := name_len hg1
  have hone0 : (nameAt ls 0).length ≠ 0 := fun z => name_ne hg1 (List.eq_nil_of_length_eq_zero (by rw [← len_tl]; exact z))
  have hat0 : atI lvs 0 = some (.ref fp) := atI_nat (j := 0) hf1
  have hoN : (("ONE" : Str) == nameAt ls 0) = false := beq_eq_false_iff_ne.mpr fun z => name_free hg1 (s := 79) (by decide) (by rw [← z]; decide +kernel)
  have htN : (("TWO" : Str) == twoOf (nameAt ls 0)) = false := beq_eq_false_iff_ne.mpr fun z => by
    have h1 : 32 ∈ tl (twoOf (nameAt ls 0)) := by
      unfold twoOf
      rw [tl_append, tl_append, tl_blank]
      simp
    rw [← z] at h1
    exact absurd h1 (by decide +kernel)
  refine for_rangeN (lo := 0) (n := turns) (fun i σ H' b => ∃ v3 v4 v5 v6 v7 v8 v9 v10 v11 v12, σ = [some (.ref a), some (.ref pq), some (.ref ra), v3, v4, v5, v6, v7, v8, v9, v10, v11, v12] ∧ Same H3 H' ∧ n1 ≤ b) ⟨_, _, _, _, _, _, _, _, _, _, rfl, Same.refl _, Nat.le_refl _⟩ ?_ ?_
  · rintro i σ H4 b hi ⟨v3, v4, v5, v6, v7, v8, v9, v10, v11, v12, rfl, s4, hb⟩
    have ei : (0 : Int) + (i : Int) = (i : Int) := by omega
    rw [ei]
    have hS4 := s4.seq hS3
    have hin : i < ns.length := by omega
    refine ⟨_, rfl, _, rfl, a, _, _, .int ns[i], rfl, rfl, hS4, atI_nat (by rw [List.getElem?_map, List.getElem?_eq_getElem hin] <;> rfl), _, rfl, _, _, rfl, rfl, .inl ⟨by decide, by decide⟩, _, _, rfl, rfl, ?_⟩
    dsimp only
    generalize ns[i] + 977 * (i : Int) = cell
    have e4 := s4 _ _ e3
    refine ⟨_, rfl, _, rfl, ra, _, rfl, .inl (SqL.of e4), _, _, rfl, rfl, cell, 8, ((((worksOf ls).map shownRow).length : Nat) : Int) + 1, by rw [List.length_map] <;> rfl, by decide, by omega, fun H5 s5 => ?_⟩
    have d0 := draw_lo cell 8 (show (0 : Int) < ((((worksOf ls).map shownRow).length : Nat) : Int) + 1 by omega)
    have d1 := draw_hi cell 8 (show (0 : Int) < ((((worksOf ls).map shownRow).length : Nat) : Int) + 1 by omega)
    generalize draw cell 8 (((((worksOf ls).map shownRow).length : Nat) : Int) + 1) = dr at d0 d1
    obtain ⟨place, rfl⟩ := Int.eq_ofNat_of_zero_le d0
    have hpl : place ≤ ((worksOf ls).map shownRow).length := by omega
    have hpl2 : place ≤ (worksOf ls).length := by rw [List.length_map] at hpl; exact hpl
    clear d0 d1
    have s45 := s4.trans s5
    have d2 := draw_lo cell 9 (show (0 : Int) < 18 by decide)
    have d3 := draw_hi cell 9 (show (0 : Int) < 18 by decide)
    refine ⟨_, rfl, cell, 9, 18, rfl, by decide, by decide, fun H6 s6 => fun u3 hu3 => ?_⟩
    generalize draw cell 9 18 = dw at d2 d3 hu3
    obtain ⟨which, rfl⟩ := Int.eq_ofNat_of_zero_le d2
    obtain ⟨tw, rfl⟩ := hu3
    have s46 := s45.trans s6
    have G6 : Same G1 H6 := g1.gh.trans (s3.trans s46)
    refine ⟨_, rfl, pq, lvs, _, .ref fp, rfl, rfl, SqL.of (G6 _ _ hlq), hat0, fp, fo, .str (nameAt ls 0), fxs, .str (nameAt ls 0) ftk, fus, fm, rfl, rfl, G6 _ _ hfp, hfc, hfd, ⟨_, rfl⟩, hfl, ?_⟩
    refine ⟨which, nameAt ls 0, ftk, tw, rfl, rfl, by omega, hone0, hone8, hft0, Nat.lt_of_lt_of_le hft1 hb, hoN, htN, fun u4 H7 b7 hb7 s7 => ?_⟩
    have hb7' : n1 ≤ b7 := Nat.le_trans hb hb7
    have hwlt : which < 18 := by omega
    clear d2 d3
    have s47 := s46.trans s7
    have hB : BadR (badRow which (nameAt ls 0)) := bad_all hg1 which hwlt
    obtain ⟨t1, w1⟩ := bad1 ok1 (by decide) hpl2 hB
    obtain ⟨t2, w2⟩ := bad2 ok1 (by decide) hpl2 hB
    obtain ⟨t3, w3⟩ := bad3 ok1 (by decide) hpl2 hB
    generalize badRow which (nameAt ls 0) = bad at *
    refine ⟨⟨_, rfl⟩, _, rfl, _, rfl, _, rfl, ra, _, rfl, SqL.of (s47 _ _ e3), fun p1 hp1 => ?_⟩
    rw [cut_take3]
    have s48 := s47.trans (Same.new (o := .lst ((((worksOf ls).map shownRow).map V.str).take place)) hp1)
    have e8 : upd H7 p1 (.lst ((((worksOf ls).map shownRow).map V.str).take place)) p1 = _ := upd_same
    revert s48 e8
    show _ → _ → _
    generalize upd H7 p1 (HO.lst ((((worksOf ls).map shownRow).map V.str).take place)) = H8
    intro s48 e8
    refine ⟨_, rfl, (by show 1 ≤ sizeLine; decide), fun p2 hp2 => ?_⟩
    have s49 := s48.trans (Same.new (o := .lst [.str bad]) hp2)
    have f9 : upd H8 p2 (.lst [.str bad]) p2 = _ := upd_same
    have e9 := Same.new (o := .lst [.str bad]) hp2 _ _ e8
    revert s49 f9 e9
    show _ → _ → _ → _
    generalize upd H8 p2 (HO.lst [.str bad]) = H9
    intro s49 f9 e9
    refine ⟨p1, p2, _, _, rfl, rfl, e9, f9, ?_, fun p3 hp3 => ?_⟩
    · rw [List.length_take, List.length_map, List.length_map]
      exact huge (by show min place _ + 1 ≤ 400000; omega)
    have s410 := s49.trans (Same.new (o := .lst ((((worksOf ls).map shownRow).map V.str).take place ++ [.str bad])) hp3)
    have e10 : upd H9 p3 (.lst ((((worksOf ls).map shownRow).map V.str).take place ++ [.str bad])) p3 = _ := upd_same
    revert s410 e10
    show _ → _ → _
    generalize upd H9 p3 (HO.lst ((((worksOf ls).map shownRow).map V.str).take place ++ [.str bad])) = H10
    intro s410 e10
    refine ⟨_, rfl, _, rfl, _, rfl, ra, _, rfl, SqL.of (s410 _ _ e3), fun p4 hp4 => ?_⟩
    rw [cut_drop]
    have s411 := s410.trans (Same.new (o := .lst ((((worksOf ls).map shownRow).map V.str).drop place)) hp4)
    have f11 : upd H10 p4 (.lst ((((worksOf ls).map shownRow).map V.str).drop place)) p4 = _ := upd_same
    have e11 := Same.new (o := .lst ((((worksOf ls).map shownRow).map V.str).drop place)) hp4 _ _ e10
    revert s411 f11 e11
    show _ → _ → _ → _
    generalize upd H10 p4 (HO.lst ((((worksOf ls).map shownRow).map V.str).drop place)) = H11
    intro s411 f11 e11
    refine ⟨p3, p4, _, _, rfl, rfl, e11, f11, ?_, fun p5 hp5 => ?_⟩
    · rw [List.length_append, List.length_take, List.length_drop, List.length_map, List.length_map]
      exact huge (by show min place _ + 1 + _ ≤ 400000; omega)
    have ex1 : ((((worksOf ls).map shownRow).map V.str).take place ++ [.str bad]) ++ (((worksOf ls).map shownRow).map V.str).drop place = (rowsB ls place bad).map V.str := by
      unfold rowsB
      rw [List.map_append, List.map_cons, List.map_take, List.map_drop, List.append_assoc] <;> rfl
    rw [ex1]
    have s412 := s411.trans (Same.new (o := .lst ((rowsB ls place bad).map V.str)) hp5)
    have e12 : upd H11 p5 (.lst ((rowsB ls place bad).map V.str)) p5 = _ := upd_same
    revert s412 e12
    show _ → _ → _
    generalize upd H11 p5 (HO.lst ((rowsB ls place bad).map V.str)) = H12
    intro s412 e12
    have okW : ∀ r ∈ (worksOf ls).map shownRow, r.length ≤ 600 := fun r hr => by
      obtain ⟨z, hz, rfl⟩ := List.mem_map.mp hr
      exact (gd.okp hz).len
    have fitB : ∀ z : Str, z.length ≤ 600 → ((rowsB ls place z).map (·.length)).sum + (rowsB ls place z).length * ("\n" : Str).length ≤ 16777216 := fun z hz => by
      refine join_fits (fun r hr => ?_) ?_
      · unfold rowsB at hr
        rcases List.mem_append.mp hr with hr | hr
        · exact okW r (List.mem_of_mem_take hr)
        · rcases List.mem_cons.mp hr with rfl | hr
          · exact hz
          · exact okW r (List.mem_of_mem_drop hr)
      · unfold rowsB
        rw [List.length_append, List.length_cons, List.length_take, List.length_drop, List.length_map]
        omega
    refine ⟨_, p5, rowsB ls place bad, rfl, rfl, .inl (SqL.of e12), fitB bad hB.2.2.1, ?_⟩
    have lb := t1.len
    have lc : (" \n\n" : Str).length ≤ 100 ∧ ("zy out 0 none\n" : Str).length ≤ 100 := by decide +kernel
    generalize Txt.join "\n" (rowsB ls place bad) = textB at *
    refine ⟨_, rfl, textB, .bad place, rfl, t1, w1, fun r1 H13 s13 e13 => ⟨_, rfl, (by show 2 ≤ sizeLine; decide), fun u5 hu5 => told_ne (x := "row") (i := ((place : Nat) : Int)) (by decide +kernel) (Same.new hu5 _ _ e13) upd_same ⟨false, rfl, iteF ?_⟩⟩⟩
    have s413 := (s412.trans s13).trans (Same.new (o := .tup [.str "row", .int (place : Nat)]) hu5)
    refine ⟨_, rfl, _, _, rfl, rfl, huge (by omega), _, .bad (place + 2), rfl, t2, w2, fun r2 H14 s14 e14 => ⟨_, rfl, _, _, rfl, rfl, (by show 2 ≤ sizeLine; decide), fun u6 hu6 => told_ne (x := "row") (i := ((place + 2 : Nat) : Int)) (by decide +kernel) (Same.new hu6 _ _ e14) upd_same ⟨false, rfl, iteF ?_⟩⟩⟩
    have s414 := (s413.trans s14).trans (Same.new (o := .tup [.str "row", .int ((place : Nat) + 2)]) hu6)
    refine ⟨_, rfl, _, _, rfl, rfl, huge (by omega), _, .bad (place + 1), rfl, t3, w3, fun r3 H15 s15 e15 => ⟨_, rfl, _, _, rfl, rfl, (by show 2 ≤ sizeLine; decide), fun u7 hu7 => told_ne (x := "row") (i := ((place + 1 : Nat) : Int)) (by decide +kernel) (Same.new hu7 _ _ e15) upd_same ⟨false, rfl, iteF ?_⟩⟩⟩
    have s415 := (s414.trans s15).trans (Same.new (o := .tup [.str "row", .int ((place : Nat) + 1)]) hu7)
    revert s415
    show _ → _
    generalize upd H15 u7 (HO.tup [.str "row", .int ((place : Nat) + 1)]) = H16
    intro s416
    have G16 : Same G1 H16 := g1.gh.trans (s3.trans s416)
    refine ⟨_, rfl, pq, lvs, _, .ref fp, rfl, rfl, SqL.of (G16 _ _ hlq), hat0, fp, _, _, .str (nameAt ls 0), rfl, rfl, .inl (.inr ⟨fo, G16 _ _ hfp⟩), at0 _ _, ?_⟩
    have lw : ("zz odd 1 " : Str).length ≤ 100 ∧ (" " : Str).length ≤ 100 ∧ ("/1" : Str).length ≤ 100 ∧ ("none" : Str).length ≤ 100 ∧ ("zy" : Str).length ≤ 100 ∧ ("zy out 0 " : Str).length ≤ 100 := by decide +kernel
    refine ⟨_, rfl, _, _, rfl, rfl, huge (by omega), _, _, rfl, rfl, huge (by rw [la]; omega), (by show 2 ≤ sizeLine; decide), fun tz htz => ?_⟩
    have d4 := draw_lo cell 10 (show (0 : Int) < 2 by decide)
    have d5 := draw_hi cell 10 (show (0 : Int) < 2 by decide)
    refine ⟨_, rfl, cell, 10, 2, rfl, by decide, by decide, fun H17 s17 => ?_⟩
    generalize draw cell 10 2 = dz at d4 d5
    obtain ⟨z, hz, haz, hzl⟩ : ∃ z : Str, (z = "none" ∨ z = "zy") ∧ atI [V.str "none", V.str "zy"] dz = some (.str z) ∧ z.length ≤ 100 := by
      rcases (by omega : dz = 0 ∨ dz = 1) with rfl | rfl
      · exact ⟨"none", .inl rfl, at0 _ _, lw.2.2.2.1⟩
      · exact ⟨"zy", .inr rfl, at1 _ _ _, lw.2.2.2.2.1⟩
    refine ⟨tz, _, _, .str z, rfl, rfl, SqT.of (s17 _ _ upd_same), haz, _, _, rfl, rfl, huge (by rw [la, la]; omega), _, _, rfl, rfl, huge (by rw [la, la, la]; omega), ?_⟩
    have s417 := (s416.trans (Same.new htz)).trans s17
    rw [row_none]
    have oN : OkP (noneP (nameAt ls 0) z) := ok_none hg1 (by rcases hz with rfl | rfl; exact good_none; exact good_zy)
    have lN := oN.len
    obtain ⟨t4, w4⟩ := part_verd ok1 (by decide) hpl2 hz
    have eN : shownRow (zyP (nameAt ls 0)) :: (((worksOf ls).map shownRow).take place ++ shownRow (noneP (nameAt ls 0) z) :: ((worksOf ls).map shownRow).drop place) = [shownRow (zyP (nameAt ls 0))] ++ rowsB ls place (shownRow (noneP (nameAt ls 0) z)) := rfl
    rw [eN] at t4 w4
    have lZ := (ok_zy hg1).len
    have rz := row_zy (nameAt ls 0)
    generalize shownRow (noneP (nameAt ls 0) z) = rowN at *
    refine ⟨_, rfl, _, rfl, _, rfl, ra, _, rfl, SqL.of (s417 _ _ e3), fun p1 hp1 => ?_⟩
    rw [cut_take3]
    have s418 := s417.trans (Same.new (o := .lst ((((worksOf ls).map shownRow).map V.str).take place)) hp1)
    have e18 : upd H17 p1 (.lst ((((worksOf ls).map shownRow).map V.str).take place)) p1 = _ := upd_same
    revert s418 e18
    show _ → _ → _
    generalize upd H17 p1 (HO.lst ((((worksOf ls).map shownRow).map V.str).take place)) = H18
    intro s418 e18
    refine ⟨_, rfl, (by show 1 ≤ sizeLine; decide), fun p2 hp2 => ?_⟩
    have s419 := s418.trans (Same.new (o := .lst [.str rowN]) hp2)
    have f19 : upd H18 p2 (.lst [.str rowN]) p2 = _ := upd_same
    have e19 := Same.new (o := .lst [.str rowN]) hp2 _ _ e18
    revert s419 f19 e19
    show _ → _ → _ → _
    generalize upd H18 p2 (HO.lst [.str rowN]) = H19
    intro s419 f19 e19
    refine ⟨p1, p2, _, _, rfl, rfl, e19, f19, ?_, fun p3 hp3 => ?_⟩
    · rw [List.length_take, List.length_map, List.length_map]
      exact huge (by show min place _ + 1 ≤ 400000; omega)
    have s420 := s419.trans (Same.new (o := .lst ((((worksOf ls).map shownRow).map V.str).take place ++ [.str rowN])) hp3)
    have e20 : upd H19 p3 (.lst ((((worksOf ls).map shownRow).map V.str).take place ++ [.str rowN])) p3 = _ := upd_same
    revert s420 e20
    show _ → _ → _
    generalize upd H19 p3 (HO.lst ((((worksOf ls).map shownRow).map V.str).take place ++ [.str rowN])) = H20
    intro s420 e20
    refine ⟨_, rfl, _, rfl, _, rfl, ra, _, rfl, SqL.of (s420 _ _ e3), fun p4 hp4 => ?_⟩
    rw [cut_drop]
    have s421 := s420.trans (Same.new (o := .lst ((((worksOf ls).map shownRow).map V.str).drop place)) hp4)
    have f21 : upd H20 p4 (.lst ((((worksOf ls).map shownRow).map V.str).drop place)) p4 = _ := upd_same
    have e21 := Same.new (o := .lst ((((worksOf ls).map shownRow).map V.str).drop place)) hp4 _ _ e20
    revert s421 f21 e21
    show _ → _ → _ → _
    generalize upd H20 p4 (HO.lst ((((worksOf ls).map shownRow).map V.str).drop place)) = H21
    intro s421 f21 e21
    refine ⟨p3, p4, _, _, rfl, rfl, e21, f21, ?_, fun p5 hp5 => ?_⟩
    · rw [List.length_append, List.length_take, List.length_drop, List.length_map, List.length_map]
      exact huge (by show min place _ + 1 + _ ≤ 400000; omega)
    have ex2 : ((((worksOf ls).map shownRow).map V.str).take place ++ [.str rowN]) ++ (((worksOf ls).map shownRow).map V.str).drop place = (rowsB ls place rowN).map V.str := by
      unfold rowsB
      rw [List.map_append, List.map_cons, List.map_take, List.map_drop, List.append_assoc] <;> rfl
    rw [ex2]
    have s422 := s421.trans (Same.new (o := .lst ((rowsB ls place rowN).map V.str)) hp5)
    have e22 : upd H21 p5 (.lst ((rowsB ls place rowN).map V.str)) p5 = _ := upd_same
    revert s422 e22
    show _ → _ → _
    generalize upd H21 p5 (HO.lst ((rowsB ls place rowN).map V.str)) = H22
    intro s422 e22
    refine ⟨⟨_, rfl⟩, _, rfl, _, _, rfl, rfl, huge (by omega), (by show 1 ≤ sizeLine; decide), fun p6 hp6 => ?_⟩
    rw [rz]
    have s423 := s422.trans (Same.new (o := .lst [.str (shownRow (zyP (nameAt ls 0)))]) hp6)
    have f23 : upd H22 p6 (.lst [.str (shownRow (zyP (nameAt ls 0)))]) p6 = _ := upd_same
    have e23 := Same.new (o := .lst [.str (shownRow (zyP (nameAt ls 0)))]) hp6 _ _ e22
    revert s423 f23 e23
    show _ → _ → _ → _
    generalize upd H22 p6 (HO.lst [.str (shownRow (zyP (nameAt ls 0)))]) = H23
    intro s423 f23 e23
    have lRB : (rowsB ls place rowN).length ≤ 12 := by
      unfold rowsB
      rw [List.length_append, List.length_cons, List.length_take, List.length_drop, List.length_map]
      omega
    refine ⟨_, rfl, p6, p5, _, _, rfl, rfl, f23, e23, ?_, fun p7 hp7 => ?_⟩
    · rw [List.length_map]
      exact huge (by show 1 + _ ≤ 400000; omega)
    have ex3 : [V.str (shownRow (zyP (nameAt ls 0)))] ++ (rowsB ls place rowN).map V.str = ([shownRow (zyP (nameAt ls 0))] ++ rowsB ls place rowN).map V.str := by
      rw [List.map_append] <;> rfl
    rw [ex3]
    have s424 := s423.trans (Same.new (o := .lst (([shownRow (zyP (nameAt ls 0))] ++ rowsB ls place rowN).map V.str)) hp7)
    have e24 : upd H23 p7 (.lst (([shownRow (zyP (nameAt ls 0))] ++ rowsB ls place rowN).map V.str)) p7 = _ := upd_same
    revert s424 e24
    show _ → _ → _
    generalize upd H23 p7 (HO.lst (([shownRow (zyP (nameAt ls 0))] ++ rowsB ls place rowN).map V.str)) = H24
    intro s424 e24
    refine ⟨_, p7, _, rfl, rfl, .inl (SqL.of e24), join_fits (fun r hr => ?_) (by rw [List.length_append]; show 1 + _ ≤ 150; omega), ?_⟩
    · rcases List.mem_append.mp hr with hr | hr
      · rw [List.mem_singleton.mp hr]
        exact lZ
      · unfold rowsB at hr
        rcases List.mem_append.mp hr with hr | hr
        · exact okW r (List.mem_of_mem_take hr)
        · rcases List.mem_cons.mp hr with rfl | hr
          · exact lN
          · exact okW r (List.mem_of_mem_drop hr)
    generalize Txt.join "\n" ([shownRow (zyP (nameAt ls 0))] ++ rowsB ls place rowN) = textN at *
    refine ⟨_, rfl, textN, .part (place + 1), rfl, t4, w4, fun r4 H25 s25 e25 => ⟨_, rfl, _, _, rfl, rfl, (by show 2 ≤ sizeLine; decide), fun u8 hu8 => told_ne (x := "part") (i := ((place + 1 : Nat) : Int)) (by decide +kernel) (Same.new hu8 _ _ e25) upd_same ⟨false, rfl, iteF ?_⟩⟩⟩
    have s425 := (s424.trans s25).trans (Same.new (o := .tup [.str "part", .int ((place : Nat) + 1)]) hu8)
    revert s425
    show _ → _
    generalize upd H25 u8 (HO.tup [.str "part", .int ((place : Nat) + 1)]) = H26
    intro s426
    have G26 : Same G1 H26 := g1.gh.trans (s3.trans s426)
    refine ⟨_, rfl, _, rfl, G1, pq, cell, 10, mark, ls, n1, rfl, G26, la1, ok1, by decide, fun nr H27 hn1 hn5 s27 => ?_⟩
    have s427 := s426.trans s27
    obtain ⟨t5, w5, e5⟩ := ring_verd ok1 (by decide) hn1 hn5
    obtain ⟨t6, w6⟩ := ring_part ok1 (by decide) hn5
    obtain ⟨t7, w7⟩ := ring_twice ok1 (by decide) hn5
    rw [← ring_last1 ok1 (by decide)] at t6 w6
    rw [← ring_last2 ok1 (by decide)] at t7 w7
    have l5 := t5.len
    generalize Txt.join "\n" (ringRows nr ls) = textR at *
    have lx : ("\nzy out 0 none" : Str).length ≤ 100 ∧ ("\n" : Str).length ≤ 100 ∧ (" in 0" : Str).length ≤ 100 := by decide +kernel
    refine ⟨_, rfl, ⟨_, rfl⟩, _, _, rfl, rfl, rfl, huge (by omega), fun p8 hp8 => ?_⟩
    have e5' : Txt.split textR "\n" = ringRows nr ls := e5
    rw [e5']
    refine ⟨p8, _, rfl, .inl (SqL.of upd_same), ?_⟩
    rw [List.length_map]
    generalize (ringRows nr ls).length = last at w6 w7 ⊢
    have s428 := s427.trans (Same.new (o := .lst ((ringRows nr ls).map V.str)) hp8)
    refine ⟨_, rfl, textR, .ring, rfl, t5, w5, fun r5 H29 s29 e29 => ⟨_, rfl, (by show 2 ≤ sizeLine; decide), fun u9 hu9 => told_ne (x := "ring") (i := -1) (by decide +kernel) (Same.new hu9 _ _ e29) upd_same ⟨false, rfl, iteF ?_⟩⟩⟩
    have s429 := (s428.trans s29).trans (Same.new (o := .tup [.str "ring", .int (-1)]) hu9)
    refine ⟨_, rfl, _, _, rfl, rfl, huge (by omega), _, .part last, rfl, t6, w6, fun r6 H30 s30 e30 => ⟨_, rfl, (by show 2 ≤ sizeLine; decide), fun u10 hu10 => told_ne (x := "part") (i := ((last : Nat) : Int)) (by decide +kernel) (Same.new hu10 _ _ e30) upd_same ⟨false, rfl, iteF ?_⟩⟩⟩
    have s430 := (s429.trans s30).trans (Same.new (o := .tup [.str "part", .int ((last : Nat) : Int)]) hu10)
    have G30 := g1.gh.trans (s3.trans s430)
    refine ⟨_, rfl, _, _, rfl, rfl, huge (by omega), _, rfl, pq, lvs, _, .ref fp, rfl, rfl, SqL.of (G30 _ _ hlq), hat0, fp, _, _, .str (nameAt ls 0), rfl, rfl, .inl (.inr ⟨fo, G30 _ _ hfp⟩), at0 _ _, _, _, rfl, rfl, huge (by rw [la]; omega), _, _, rfl, rfl, huge (by rw [la, la]; omega), _, .bad last, rfl, t7, w7, fun r7 H31 s31 e31 => ⟨_, rfl, (by show 2 ≤ sizeLine; decide), fun u11 hu11 => told_ne (x := "row") (i := ((last : Nat) : Int)) (by decide +kernel) (Same.new hu11 _ _ e31) upd_same ⟨false, rfl, iteF ?_⟩⟩⟩
    have s431 := (s430.trans s31).trans (Same.new (o := .tup [.str "row", .int ((last : Nat) : Int)]) hu11)
    exact ⟨_, _, _, _, _, _, _, _, _, _, rfl, s431, hb7'⟩
  · rintro σ H4 b ⟨v3, v4, v5, v6, v7, v8, v9, v10, v11, v12, rfl, s4, hb⟩
    have okW : ∀ r ∈ (worksOf ls).map shownRow, r.length ≤ 600 := fun r hr => by
      obtain ⟨z, hz, rfl⟩ := List.mem_map.mp hr
      exact (gd.okp hz).len
    refine ⟨⟨_, rfl⟩, _, rfl, _, ra, _, rfl, rfl, .inl (SqL.of (s4 _ _ e3)), join_fits okW (by rw [List.length_map]; omega), _, .fine, rfl, tF, vF, fun r1 H5 s5 e5 => ⟨_, rfl, (by show 2 ≤ sizeLine; decide), fun u5 hu5 => told_eq (x := "") (i := -1) (by decide +kernel) (Same.new hu5 _ _ e5) upd_same ?_⟩⟩
    exact fun _ _ => q _
end
end SW


/-! ### the end -/
namespace SW
open PySem PySem.Spec PyProof.Rows L2 He
theorem facts {P : Program} {w : World} {K : PySem.W.Frag} {h : Heap} {mg : Str → Option Value} {f : Addr} (X : K.In h) (G : h.Ns mainGlobals mg) (hfa : mg ("law" : Str) = some (.ref f)) (c : SaysD fa fn K) (x : exB K = true) :
    ∃ fd : FuncData, (∀ (s : Shared) (v : Value), BindsTo s fd ⟨[v], []⟩ [("_law_script", v)]) ∧ ∀ base : Heap, K.In base → base.Ns mainGlobals mg → FnOk P w K mg base CX0 lawLevel f fd ["_law_script"] (spLaw K) := by
  have T : Txt K mg := ⟨c, x, h, X, G⟩
  obtain ⟨fd, F⟩ := T.F_law
  have e := hfa.symm.trans T.g_law
  cases e
  have b := FunD.bindsA (ps := ["_law_script"]) F fun _ _ _ _ _ _ us hl => match us, hl with | [_], _ => rfl
  exact ⟨fd, fun s v => b s [v] rfl, fun base _ _ => (ok_law T).at F⟩
end SW
open PySem PySem.W PySem.Calls PyProof.Rows
theorem PySem.Challenge.cw_storeway_k03_refused_holds : PySem.Challenge.rw_storeway_k03_refused.Holds := by
  w_on; o_law
  refine HandSHeadRun.head_any (r := OpenLaw.row PySem.Challenge.rw_storeway_k03_refused) (q := view (OpenLaw.row PySem.Challenge.rw_storeway_k03_refused).prog [42]) (H := SW.hk) (ob := SW.ob) (M := 8000) (loose := SW.names) (d := HandSHeadRun.topDef (OpenLaw.row PySem.Challenge.rw_storeway_k03_refused).prog 42) (kwd := []) SW.ob_eq
    (by kernel_rfl) (fun s => by kernel_rfl) SW.run (by kernel_rfl) (by kernel_rfl) (by kernel_rfl) (by rfl) (by first | assumption | decide +kernel) (by decide +kernel) ⟨rfl, rfl, rfl, rfl, rfl, by decide +kernel⟩ ?hw ?hc
  case hw => w_witness2
  case hc =>
    refine L2.walk_ofE (l := PySem.Challenge.rw_storeway_k03_refused) (n := 63) (k := SW.lawLevel) (x := "_law_script") (CX := L2.CX0) rfl (by decide) (by kernel_rfl) ⟨rfl, by decide, by decide⟩ ?F (fun _ _ _ _ z => z)
    intro w mg fa h Y G hmg0
    obtain ⟨K, KX, c, x⟩ := Y
    have hmg : mg ("law" : PySem.Str) = some (.ref fa) := by
      have e : (HandSHeadRun.topDef (OpenLaw.row PySem.Challenge.rw_storeway_k03_refused).prog 42).name = ("law" : PySem.Str) := by kernel_rfl
      rw [← e]
      exact hmg0
    obtain ⟨fd, hb, hF⟩ := SW.facts (P := (PySem.Challenge.rw_storeway_k03_refused).prog) (w := w) KX G hmg c x
    exact ⟨K, fd, SW.spLaw K, KX, hb, fun H a ns hl _ hS => ⟨a, ns, rfl, hS, hl, fun _ => rfl⟩, hF⟩

