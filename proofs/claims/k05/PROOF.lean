import PyProof.Rows.All
import Wide.All
import OpenK.AllK
import Wide.FinOn
import KE.KStateDown
import Lean
import HandS.ForMost
import HandS.ForExc
import HandS.Steps
import HandS.Evl
import HandS.Ends
import HandS.More
import HandS.Words
import HandS.WordsExc
import HandS.Defaults
import HandS.StrMore
import HandS.Wide
import HandS.IsInst
import HandS.Flow
import HandS.Deep
import HandS.Conv
import HandS.Head0
import HandS.Head1
import HandS.Head2
import HandS.HeadEnd
import HandS.HeadHook1
import HandS.HeadHook2
import HandS.HeadHook3
import HandS.HeadHook4
import HandS.Walk
import HandS.DeepEq
import HandS.SortKw
import HandS.ExcIs
import KE.DataMinMax
import HandS.Strs
import PyProof.Rows.SortShellAny
import KE.DataMinKey
import HandS.Lambda
import HandS.EndTab
import HandS.HeadWalk
import PySem.Challenge.RW_storeway_k05_the_beat
set_option Elab.async false
set_option linter.all false
set_option maxRecDepth 100000
set_option maxHeartbeats 4000000
/-! ### what all laws share: nothing of one program -/
namespace SW
open PySem PySem.Spec PyProof.Rows L2 He

/-- one of many readings -/
theorem pe_ex {ι : Type} {X : Cx} {e : Expr} {t : ι → TE} (h : ∀ i, PE X e (t i)) : PE X e (fun σ H Q => ∃ i, t i σ H Q) := ⟨fun pins s σ H Q I ⟨i, q⟩ => (h i).run pins s σ H Q I q⟩
theorem pe_or2 {X : Cx} {e : Expr} {t u : TE} (h : PE X e t) (h' : PE X e u) : PE X e (fun σ H Q => t σ H Q ∨ u σ H Q) := ⟨fun pins s σ H Q I z => z.elim (fun q => h.run pins s σ H Q I q) (fun q => h'.run pins s σ H Q I q)⟩

/-- a def that lets no exception out, with no defaults -/
structure Ok (P : Program) (w : World) (K : PySem.W.Frag) (mg : Str → Option Value) (base : Heap) (k : Nat) (f : Addr) (ps : List Str) (sp : Sp) : Prop where
  ex : ∃ fd, (∃ (oc : Value) (od : Option Addr) (osl : Array (Option Value)), K.lookup f = some ⟨oc, od, .func fd, osl⟩) ∧ FnOk P w K mg base CX0 k f fd ps sp ∧ Binds K fd ps []
  kp : PySem.W.keepIn K (.ref f) = true

section
variable {P : Program} {w : World} {K : PySem.W.Frag} {mg : Str → Option Value} {base : Heap} {k : Nat} {f : Addr} {ps N : List Str} {sp sp' : Sp} {x qual : Str} {params : Arguments} {body : List Stmt} {scope : Scope}
theorem mkOk (F : ∃ fd, FunD K x qual params body scope [] [] f fd) (S : FnScope N ps scope)
    (hb : ∀ (kV doc pm : Value) (an : Option Addr) (cdv ct : Value) (us : List Value), us.length = ps.length → bindArgs (PySem.W.fnOf x qual params body scope .none kV doc pm an cdv ct) ⟨us, []⟩ = pure (ps.zip us))
    (len : ∀ vs H Q E, sp vs H Q E → vs.length = ps.length)
    (hbody : ∀ (cdv : Value) (A : Around) (outer : List Env) (s : Shared) (H : Hp) (vs : List V) (Q : VK) (E : XK), Room k (A.deeper (envOfC qual scope s.heap.objs.size f cdv)) → sp vs H Q E →
      ∃ t, PSs (cxOf CX0 P w K mg base N qual scope f cdv A outer s H E).nox body t ∧ t { nx := fun _ H' => Q .non H', rt := Q } (start N vs) H) : Ok P w K mg base (k + 1) f ps sp := by
  obtain ⟨fd, F⟩ := F
  refine ⟨⟨fd, (by obtain ⟨oc, od, _, _, _, _, _, _, _, osl, _, lk, _⟩ := F.ex; exact ⟨oc, od, osl, lk⟩), F.ok S len fun cdv A outer s H vs Q E hr h => ?_, F.bindsN hb⟩, F.kp⟩
  obtain ⟨t, ht, q⟩ := hbody cdv A outer s H vs Q E hr h
  exact ⟨t, ht.nox, q⟩
theorem Ok.mono (G : Ok P w K mg base k f ps sp) {j : Nat} (h : k ≤ j) : Ok P w K mg base j f ps sp := by
  obtain ⟨⟨fd, l, F, b⟩, kp⟩ := G
  exact ⟨⟨fd, l, F.mono h, b⟩, kp⟩
theorem Ok.imp (G : Ok P w K mg base k f ps sp) (h : ∀ vs H Q E, sp' vs H Q E → sp vs H Q E) : Ok P w K mg base k f ps sp' := by
  obtain ⟨⟨fd, l, F, b⟩, kp⟩ := G
  exact ⟨⟨fd, l, F.imp h, b⟩, kp⟩
theorem Ok.at (G : Ok P w K mg base k f ps sp) {x qual : Str} {params : Arguments} {body : List Stmt} {scope : Scope} {fd : FuncData} (F : FunD K x qual params body scope [] [] f fd) : FnOk P w K mg base CX0 k f fd ps sp := by
  obtain ⟨⟨fd', ⟨oc, od, osl, l⟩, F', b⟩, kp⟩ := G
  obtain ⟨oc', od', _, _, _, _, _, _, _, osl', _, lk, _⟩ := F.ex
  rw [lk] at l
  cases l
  exact F'
end

section
variable {X : Cx} {k : Nat} {f C : Addr} {ps : List Str} {sp : Sp} {x m : Str} {p pos apos : Pos} {e o : Expr} {es : List Expr} {ta : TE} {t : TA}
theorem pe_callO (G : Ok X.prog X.w X.K X.mg X.base k f ps sp) (hr : Room k X.A) (hm : X.mg x = some (.ref f)) (ha : PA X (e :: es) t) (hg : Gl X x := by rfl)
    (hdb : (x == ("__debug__" : Str)) = false := by decide) (he : starEach (e :: es) X.env = (false, eval e X.env) :: starEach es X.env := by rfl) (hpl : (backTo pos (starEach es X.env)).any (·.1) = false := by rfl) :
    PE X (.Call (.Name x p) (e :: es) [] pos) (tCall sp [] E0 t) := by
  obtain ⟨⟨fd, _, F, b⟩, kp⟩ := G
  exact pe_call F hr hg hm kp b .nil pass0 ha hdb he hpl
theorem pe_call0O (G : Ok X.prog X.w X.K X.mg X.base k f ps sp) (hr : Room k X.A) (hm : X.mg x = some (.ref f)) (hg : Gl X x := by rfl) (hdb : (x == ("__debug__" : Str)) = false := by decide) : PE X (.Call (.Name x p) [] [] pos) (tCall sp [] E0 tNil) := by
  obtain ⟨⟨fd, _, F, b⟩, kp⟩ := G
  exact pe_call0 F hr hg hm kp b .nil pass0 hdb
theorem pe_makeO (M : Mk X.K C f) (G : Ok X.prog X.w X.K X.mg X.base k f ps sp) (hr : Room (k + 1) X.A) (hm : X.mg x = some (.ref C)) (ha : PA X (e :: es) t) (hg : Gl X x := by rfl)
    (hdb : (x == ("__debug__" : Str)) = false := by decide) (he : starEach (e :: es) X.env = (false, eval e X.env) :: starEach es X.env := by rfl) (hpl : (backTo pos (starEach es X.env)).any (·.1) = false := by rfl) :
    PE X (.Call (.Name x p) (e :: es) [] pos) (tMake C sp [] E0 t) := by
  obtain ⟨⟨fd, _, F, b⟩, kp⟩ := G
  exact pe_make M F hr hg hm b .nil pass0 ha hdb he hpl
end
theorem Ok.use {P : Program} {w : World} {K : PySem.W.Frag} {mg : Str → Option Value} {base : Heap} {k : Nat} {f : Addr} {ps : List Str} {sp : Sp} {R : Prop} (G : Ok P w K mg base k f ps sp)
    (h : ∀ fd, FnOk P w K mg base CX0 k f fd ps sp → Binds K fd ps [] → R) : R := by
  obtain ⟨⟨fd, _, F, b⟩, _⟩ := G
  exact h fd F b

/-! ### C() of a class without an own __init__ -/
structure MkO (K : PySem.W.Frag) (C : Addr) : Prop where
  makes : PySem.W.makesIn K C = true
  init : PySem.W.findIn K (.ref C) "__init__" = some (some (.builtin "object.__init__"))
  kp : PySem.W.keepIn K (.ref C) = true
def tMakeO (C : Addr) : TE := fun _ H Q => ∀ x dx, H x = none → H dx = none → dx ≠ x → Q (.ref x) (upd (upd H dx (.own x)) x (.ins C dx []))
section
variable {X : Cx} {C : Addr}
theorem run_makeO {pins : List (Addr × Obj)} {σ : L2.St} {H : Hp} {s : Shared} {Q : VK} (M : MkO X.K C) (I : Inv X pins σ H s)
    (h : ∀ x dx, H x = none → H dx = none → dx ≠ x → Q (.ref x) (upd (upd H dx (.own x)) x (.ins C dx []))) :
    wpAny (model X.prog X.w) X.A (call (.ref C) []) (EP X pins σ Q) X.xe s := by
  have hq := h (s.heap.objs.size + 1) s.heap.objs.size (I.hok.fresh (Nat.le_succ _)) (I.hok.fresh (Nat.le_refl _)) (Nat.ne_of_lt (Nat.lt_succ_self _))
  have I2 := Inv.made (C := C) I
  have Y := PySem.W.makes_of (M := model X.prog X.w) I.kIn M.makes
  refine wpAny_call (make_map0 I.kIn M.makes M.init (fun self => PySem.W.Looks.of_pure (PySem.W.oi_bind self)) ?_)
  have hx : ((s.heap.push PySem.W.emptyDict).push (PySem.W.instObj C s.heap.objs.size)).get? (s.heap.objs.size + 1) = some (PySem.W.instObj C s.heap.objs.size) := by heap_get
  have t1 : PySem.W.Looks (model X.prog X.w) ((s.heap.push PySem.W.emptyDict).push (PySem.W.instObj C s.heap.objs.size)) (typeOf (.ref (s.heap.objs.size + 1))) (.ref C) := (PySem.W.Looks.ld hx).andThen .now
  have t2 : PySem.W.Looks (model X.prog X.w) ((s.heap.push PySem.W.emptyDict).push (PySem.W.instObj C s.heap.objs.size)) (isInstance (.ref (s.heap.objs.size + 1)) (.type "object")) true :=
    t1.andThen (Y.top.keeps fun b o e => Heap.get?_push_of_some _ (Heap.get?_push_of_some _ e))
  refine codeAny_call_builtin PySem.W.oi_plain PySem.W.entry_oi (@PySem.W.check_slot (model X.prog X.w) _ _ _ "object.__init__" "object" "__init__" (.ref (s.heap.objs.size + 1)) [] [] _ PySem.W.oi_kind PySem.W.oi_split t2 (PySem.W.oi_args (.ref (s.heap.objs.size + 1))) ?_)
  rw [PySem.W.oi_run]
  exact wpAny_pure (And.intro rfl ⟨V.ref (s.heap.objs.size + 1), _, I2, rfl, hq⟩)
theorem pe_makeO0 {x : Str} {p pos : Pos} (M : MkO X.K C) (hm : X.mg x = some (.ref C)) (hg : Gl X x := by rfl) (hdb : (x == ("__debug__" : Str)) = false := by decide) :
    PE X (.Call (.Name x p) [] [] pos) (tMakeO C) := by
  refine ⟨fun pins s σ H Q I h => ?_⟩
  refine wpAny_Call_Name_kw (ld_glob I hg hm ?_ hdb)
  exact PySem.W.callWith_K0 I.kIn M.kp (run_makeO M I h)
end

/-! ### further facts of the top -/
def moB (x : Str) (K : PySem.W.Frag) : Bool := PySem.W.makesIn K (ga K x) && (eqO (PySem.W.findIn K (.ref (ga K x)) "__init__") (some (some (.builtin "object.__init__"))) && PySem.W.keepIn K (.ref (ga K x)))
theorem moB_ok {x : Str} {K : PySem.W.Frag} (h : moB x K = true) : MkO K (ga K x) := by
  obtain ⟨h1, h2⟩ := ba h
  obtain ⟨h2, h3⟩ := ba h2
  exact ⟨h1, eqO_ok h2, h3⟩
structure IsC (K : PySem.W.Frag) (C D : Addr) (b : Bool) : Prop where
  ha : PySem.W.findIn K (.ref C) "__class__" = some (some (.builtin "object.__class__"))
  hn : PySem.W.specialIn K (.builtin "object.__class__") "__get__" = some (some (.builtin "getset_descriptor.__get__"))
  ht : PySem.W.takesIn K (.builtin "object.__class__") = some true
  hm : PySem.W.mroIn K C (.type "object") = some true
  k : PySem.W.kitOne K (.ref C) (.ref D) = some b
theorem IsC.ty {K : PySem.W.Frag} {C D a dx : Addr} {b : Bool} {H : Hp} {fs : List (Str × V)} (h : IsC K C D b) (cl : Cls K C) (e : H a = some (.ins C dx fs)) : TyX K H (.ref a) (.ref C) :=
  .base (.ins e cl h.ha h.hn h.ht h.hm)
def isB (c d : Str) (b : Bool) (K : PySem.W.Frag) : Bool := eqO (PySem.W.findIn K (.ref (ga K c)) "__class__") (some (some (.builtin "object.__class__"))) &&
  (eqO (PySem.W.specialIn K (.builtin "object.__class__") "__get__") (some (some (.builtin "getset_descriptor.__get__"))) && (decide (PySem.W.takesIn K (.builtin "object.__class__") = some true) &&
  (decide (PySem.W.mroIn K (ga K c) (.type "object") = some true) && decide (PySem.W.kitOne K (.ref (ga K c)) (.ref (ga K d)) = some b))))
theorem isB_ok {c d : Str} {b : Bool} {K : PySem.W.Frag} (h : isB c d b K = true) : IsC K (ga K c) (ga K d) b := by
  obtain ⟨h1, h⟩ := ba h
  obtain ⟨h2, h⟩ := ba h
  obtain ⟨h3, h⟩ := ba h
  obtain ⟨h4, h5⟩ := ba h
  exact ⟨eqO_ok h1, eqO_ok h2, of_decide_eq_true h3, of_decide_eq_true h4, of_decide_eq_true h5⟩
theorem exs_at {K : PySem.W.Frag} {l : List (PySem.W.Frag → Bool)} (h : (l.all fun f => f K) = true) (i : Nat) {f : PySem.W.Frag → Bool} (e : l[i]? = some f) : f K = true :=
  List.all_eq_true.mp h f (List.mem_of_getElem? e)

/-! ### the head's facts over all that the top has made -/
def KR (n : Nat) (g : Addr → Option Obj) : PySem.W.Frag := frT g (List.range n)
def obsR (n : Nat) (fa : List Fa) (fn : List DefD) (ex : PySem.W.Frag → Bool) (g : Addr → Option Obj) : AlD × Bool := (obsD fa fn (KR n g), ex (KR n g))
def hookR (n : Nat) (fa : List Fa) (fn : List DefD) (ex : PySem.W.Frag → Bool) : PySem.W.Hook where
  α := AlD × Bool
  obs := fun s => obsR n fa fn ex s.heap.get?
  val := fun _ => (valD fn, true)
  says := fun _ h => ∃ K : PySem.W.Frag, K.In h ∧ SaysD fa fn K ∧ ex K = true
  of := fun _ _ e => ⟨_, frT_in, congrArg (fun z : AlD × Bool => z.1) e, congrArg (fun z : AlD × Bool => z.2) e⟩
  keeps := fun _ _ _ ⟨K, hK, c, e⟩ k => ⟨K, PySem.W.Frag.In.keeps hK k, c, e⟩
theorem obsR_eq {n : Nat} {fa : List Fa} {fn : List DefD} {ex : PySem.W.Frag → Bool} (s : PySem.W.SharedT) : obsR n fa fn ex (HandSHeadRun.getT s) = (hookR n fa fn ex).obs s.abs := by
  have e : HandSHeadRun.getT s = s.abs.heap.get? := funext (HandSHeadRun.getT_eq s)
  rw [e] <;> rfl
theorem run_join {r : PySem.W.OpenRow} {q : Program} {H : PySem.W.Hook} {ob : PySem.W.SharedT → H.α} {M : Nat} {loose : List PySem.Str} {w : World}
    (h1 : ∀ os : OsState, (HandSHeadRun.endF (HandSHeadRun.stepQ (HandSHeadRun.denQ HandSHeadRun.tabQ) r.prog w) M r.prog w os).map (fun s => (HandSHeadRun.looksF r.prog (PySem.W.boot_heap w.params) s.abs, HandSHeadRun.seenQ q loose (importedModules r.prog.main.body) (fun s => PySem.W.xlAt q [] s && PySem.W.recOk r.toRowW.records s) s.abs)) = some (true, PySem.W.openGood q loose))
    (h2 : ∀ os : OsState, (HandSHeadRun.endF (HandSHeadRun.stepQ (HandSHeadRun.denQ HandSHeadRun.tabQ) r.prog w) M r.prog w os).map ob = some (H.val w)) : HandSHeadRun.RunEq r q H ob M loose w := by
  intro os
  have a := h1 os
  have b := h2 os
  cases e : HandSHeadRun.endF (HandSHeadRun.stepQ (HandSHeadRun.denQ HandSHeadRun.tabQ) r.prog w) M r.prog w os with
  | none =>
    rw [e] at b
    cases b
  | some s =>
    rw [e] at a b
    have a1 := Option.some.inj a
    have b1 : ob s = H.val w := Option.some.inj b
    have a2 := congrArg (fun z => z.1) a1
    have a3 := congrArg (fun z => z.2) a1
    show some (_, _, _) = some (_, _, _)
    exact congrArg some (Prod.ext a2 (Prod.ext a3 b1))

/-! ### rules whose reading names K itself (a comprehension's block has its own context) -/
section
variable {X : Cx} {K : PySem.W.Frag}
theorem ixL (h : X.K = K := by rfl) : IxR X (rIxL K) := by subst h; exact ix_list
theorem ixT (h : X.K = K := by rfl) : IxR X (rIxT K) := by subst h; exact ix_tup
theorem slL (h : X.K = K := by rfl) : SlR X (rSlL K) := by subst h; exact sl_list
theorem lenQ (h : X.K = K := by rfl) : CallR X (.builtin "len") (fun xs H Q => ∃ p ys, xs = [.ref p] ∧ (SqL K H p ys ∨ SqT K H p ys) ∧ Q (.int ys.length) H) := by subst h; exact call_len_seq
theorem isiK (h : X.K = K := by rfl) : CallR X (.builtin "isinstance") (rIsi K) := by subst h; exact call_isi
theorem listOf (h : X.K = K := by rfl) : CallR X (.type "list") (fun xs H Q => ∃ p ys, xs = [.ref p] ∧ (SqL K H p ys ∨ SqT K H p ys) ∧ ∀ l, H l = none → Q (.ref l) (upd H l (.lst ys))) := by subst h; exact call_list_of
theorem inQ (h : X.K = K := by rfl) : OpR X (compareOp .In) (rIn K false) := by subst h; exact op_in_seq
theorem notInQ (h : X.K = K := by rfl) : OpR X (compareOp .NotIn) (rIn K true) := by subst h; exact op_notIn_seq
theorem eqDK (hu : X.A.units + 64 < cLine) (h : X.K = K := by rfl) : OpR X (compareOp .Eq) (rEqD K) := by subst h; exact op_eqD hu
theorem neDK (hu : X.A.units + 64 < cLine) (h : X.K = K := by rfl) : OpR X (compareOp .NotEq) (rNeD K) := by subst h; exact op_neD hu
theorem inDK (hu : X.A.units + 65 < cLine) (h : X.K = K := by rfl) : OpR X (compareOp .In) (rInD K) := by subst h; exact op_inD hu
theorem indexK (h : X.K = K := by rfl) : MtR X "list.index" (rIndex K) := by subst h; exact mt_index
theorem sumK (hc : X.calm = true) (h : X.K = K := by rfl) : CallR X (.builtin "sum") (rSum K) := by subst h; exact cr_sum hc
theorem maxK (hc : X.calm = true) (h : X.K = K := by rfl) : CallR X (.builtin "max") (rMax K) := by subst h; exact cr_max hc
theorem minK (hc : X.calm = true) (h : X.K = K := by rfl) : CallR X (.builtin "min") (rMin K) := by subst h; exact cr_min hc
theorem pe_fldK {e : Expr} {ta : TE} {f : Str} {pos : Pos} (he : PE X e ta) (hb : attributeBase e f X.env (eval e X.env) = eval e X.env) (h : X.K = K := by rfl) : PE X (.Attribute e f pos) (tFld K ta f) := by subst h; exact pe_fld he hb
theorem piL {tg l : Expr} {tl : TE} (hl : PE X l tl) (h : X.K = K := by rfl) : PI X tg l (iList K tl) := by subst h; exact pi_list hl
theorem piT {tg l : Expr} {tl : TE} (hl : PE X l tl) (h : X.K = K := by rfl) : PI X tg l (iTup K tl) := by subst h; exact pi_tup hl
end
theorem new_obj {H : Hp} {x dx C : Addr} (n : H x = none) (m : H dx = none) : Same H (upd (upd H dx (.own x)) x (.ins C dx [])) ∧ (upd (upd H dx (.own x)) x (.ins C dx [])) x = some (.ins C dx []) :=
  ⟨fun b o e => by rw [upd_ne (ne_of_none e n), upd_ne (ne_of_none e m)]; exact e, upd_same⟩
theorem Same.new {H : Hp} {p : Addr} {o : HO} (h : H p = none) : Same H (upd H p o) := fun b u e => by rw [upd_ne (ne_of_none e h)]; exact e
theorem hu65 {k : Nat} {A : Around} (hr : Room k A) : A.units + 65 < cLine := by
  have := hr.un
  omega
end SW
/-! ### exceptions: defs that may raise, isinstance of what is caught -/
namespace SW
open PySem PySem.Spec PyProof.Rows L2 He
/-- a def that may raise, with no defaults -/
structure OkX (P : Program) (w : World) (K : PySem.W.Frag) (mg : Str → Option Value) (base : Heap) (k : Nat) (f : Addr) (ps : List Str) (sp : Sp) : Prop where
  ex : ∃ fd, FnOk P w K mg base (L2.CX P w) k f fd ps sp ∧ Binds K fd ps []
  kp : PySem.W.keepIn K (.ref f) = true
section
variable {P : Program} {w : World} {K : PySem.W.Frag} {mg : Str → Option Value} {base : Heap} {k : Nat} {f : Addr} {ps N : List Str} {sp sp' : Sp} {x qual : Str} {params : Arguments} {body : List Stmt} {scope : Scope}
theorem mkOkX (F : ∃ fd, FunD K x qual params body scope [] [] f fd) (S : FnScope N ps scope)
    (hb : ∀ (kV doc pm : Value) (an : Option Addr) (cdv ct : Value) (us : List Value), us.length = ps.length → bindArgs (PySem.W.fnOf x qual params body scope .none kV doc pm an cdv ct) ⟨us, []⟩ = pure (ps.zip us))
    (len : ∀ vs H Q E, sp vs H Q E → vs.length = ps.length)
    (hbody : ∀ (cdv : Value) (A : Around) (outer : List Env) (s : Shared) (H : Hp) (vs : List V) (Q : VK) (E : XK), Room k (A.deeper (envOfC qual scope s.heap.objs.size f cdv)) → sp vs H Q E →
      ∃ t, PSs (cxOf (L2.CX P w) P w K mg base N qual scope f cdv A outer s H E) body t ∧ t { nx := fun _ H' => Q .non H', rt := Q } (start N vs) H) : OkX P w K mg base (k + 1) f ps sp := by
  obtain ⟨fd, F⟩ := F
  exact ⟨⟨fd, F.ok S len fun cdv A outer s H vs Q E hr h => hbody cdv A outer s H vs Q E hr h, F.bindsN hb⟩, F.kp⟩
theorem OkX.mono (G : OkX P w K mg base k f ps sp) {j : Nat} (h : k ≤ j) : OkX P w K mg base j f ps sp := by
  obtain ⟨⟨fd, F, b⟩, kp⟩ := G
  exact ⟨⟨fd, F.mono h, b⟩, kp⟩
end
theorem pe_callX {X : Cx} {k : Nat} {f : Addr} {ps : List Str} {sp : Sp} {x : Str} {p pos : Pos} {e : Expr} {es : List Expr} {t : TA} {E : L2.St → XK} (G : OkX X.prog X.w X.K X.mg X.base k f ps sp) (hr : Room k X.A) (hm : X.mg x = some (.ref f)) (hx : ∀ σ, PassesAt (L2.CX X.prog X.w) X σ (E σ)) (ha : PA X (e :: es) t) (hg : Gl X x := by rfl)
    (hdb : (x == ("__debug__" : Str)) = false := by decide) (he : starEach (e :: es) X.env = (false, eval e X.env) :: starEach es X.env := by rfl) (hpl : (backTo pos (starEach es X.env)).any (·.1) = false := by rfl) :
    PE X (.Call (.Name x p) (e :: es) [] pos) (tCallS sp E t) := by
  obtain ⟨⟨fd, F, b⟩, kp⟩ := G
  exact pe_callS F hr hg hm kp b hx ha hdb he hpl
/-- an own exception class without an own __init__ -/
structure ExcF (K : PySem.W.Frag) (C : Addr) : Prop where
  x : PySem.W.excIn K C [.type "ValueError", .type "Exception", .type "BaseException", .type "object"] "ValueError.__new__" = true
  kp : PySem.W.keepIn K (.ref C) = true
  sb : PySem.W.subIn K (.ref C) (.type "BaseException") = some true
  ty : PySem.W.typeIn K (.ref C) = some (.type "type")
theorem ps_raiseF {X : Cx} {W : WX} {K : PySem.W.Frag} {C : Addr} {x m : Str} {j : Nat} {p p2 pos pos' : Pos} (F : ExcF K C) (hc : X.calm = true) (tk : Takes X W) (gC : X.mg x = some (.ref C)) (hg : Gl X x := by rfl) (hK : X.K = K := by rfl) (hdb : (x == ("__debug__" : Str)) = false := by decide) :
    PS X (.Raise (some (.Call (.Name x p) [.Constant (.str m) j p2] [] pos)) none pos') (fun _ σ H => W (.ref C) none σ H) := by
  subst hK
  exact ps_raise hc tk (pmk_own PySem.F.excBase_ValueError F.x gC F.kp (raises_own F.sb F.ty) hg hdb)
/-- isinstance of what a suite holds -/
def rIsEx (K : PySem.W.Frag) (a : Addr) (cls : Value) (d : Option Addr) : List V → Hp → VK → Prop := fun xs H Q => ∃ (D : Addr) (c : V) (cv : Value) (b : Bool), xs = [.ref a, c] ∧ cls = .ref D ∧ d = none ∧ ExcC K D ∧ (∀ u, RelV c u → u = cv) ∧ PySem.W.kitOne K (.ref D) cv = some b ∧ Q (.bl b) H
theorem call_isEx {X : Cx} {K : PySem.W.Frag} {a : Addr} {cls : Value} {d : Option Addr} {oe : Obj} {pn : List (Addr × Obj)} (hz : Zc cls d oe) (hf : ∃ vs, oe.data = .fields vs) (hK : X.K = K := by rfl) : CallR (X.suite a ((a, oe) :: pn)) (.builtin "isinstance") (rIsEx K a cls d) := by
  subst hK
  intro pins s σ H xs us Q I r h
  obtain ⟨D, c, cv, b, rfl, rfl, rfl, C, h1, h2, q⟩ := h
  exact call_isE C hz hf pins s σ H _ us Q I r ⟨c, cv, b, rfl, h1, h2, q⟩
def excfB (x : Str) (K : PySem.W.Frag) : Bool := PySem.W.excIn K (ga K x) [.type "ValueError", .type "Exception", .type "BaseException", .type "object"] "ValueError.__new__" && (PySem.W.keepIn K (.ref (ga K x)) &&
  (decide (PySem.W.subIn K (.ref (ga K x)) (.type "BaseException") = some true) && decide (PySem.W.typeIn K (.ref (ga K x)) = some (.type "type"))))
theorem excfB_ok {x : Str} {K : PySem.W.Frag} (h : excfB x K = true) : ExcF K (ga K x) := by
  obtain ⟨h1, h⟩ := ba h
  obtain ⟨h2, h⟩ := ba h
  obtain ⟨h3, h4⟩ := ba h
  exact ⟨h1, h2, of_decide_eq_true h3, of_decide_eq_true h4⟩
def exccB (x : Str) (K : PySem.W.Frag) : Bool := eqO (PySem.W.findIn K (.ref (ga K x)) "__getattribute__") (some (some (.builtin "BaseException.__getattribute__"))) && (eqO (PySem.W.findIn K (.ref (ga K x)) "__getattr__") (some none) &&
  (decide (PySem.W.subIn K (.ref (ga K x)) (.type "BaseException") = some true) && (PySem.W.hasDictIn K (ga K x) && (eqO (PySem.W.findIn K (.ref (ga K x)) "__class__") (some (some (.builtin "object.__class__"))) &&
  (eqO (PySem.W.specialIn K (.builtin "object.__class__") "__get__") (some (some (.builtin "getset_descriptor.__get__"))) && (decide (PySem.W.takesIn K (.builtin "object.__class__") = some true) && decide (PySem.W.mroIn K (ga K x) (.type "object") = some true)))))))
theorem exccB_ok {x : Str} {K : PySem.W.Frag} (h : exccB x K = true) : ExcC K (ga K x) := by
  obtain ⟨h1, h⟩ := ba h
  obtain ⟨h2, h⟩ := ba h
  obtain ⟨h3, h⟩ := ba h
  obtain ⟨h4, h⟩ := ba h
  obtain ⟨h5, h⟩ := ba h
  obtain ⟨h6, h⟩ := ba h
  obtain ⟨h7, h8⟩ := ba h
  exact ⟨eqO_ok h1, eqO_ok h2, of_decide_eq_true h3, h4, eqO_ok h5, eqO_ok h6, of_decide_eq_true h7, of_decide_eq_true h8⟩
def exmB (x y : Str) (b : Bool) (K : PySem.W.Frag) : Bool := decide (PySem.W.exmOne K (.ref (ga K x)) (.ref (ga K y)) = some b)
theorem exmB_ok {x y : Str} {b : Bool} {K : PySem.W.Frag} (h : exmB x y b K = true) : PySem.W.exmOne K (.ref (ga K x)) (.ref (ga K y)) = some b := of_decide_eq_true h
def kitB (x y : Str) (b : Bool) (K : PySem.W.Frag) : Bool := decide (PySem.W.kitOne K (.ref (ga K x)) (.ref (ga K y)) = some b)
theorem kitB_ok {x y : Str} {b : Bool} {K : PySem.W.Frag} (h : kitB x y b K = true) : PySem.W.kitOne K (.ref (ga K x)) (.ref (ga K y)) = some b := of_decide_eq_true h
def kitVB (x : Str) (K : PySem.W.Frag) : Bool := decide (PySem.W.kitOne K (.ref (ga K x)) (.type "ValueError") = some true)
theorem kitVB_ok {x : Str} {K : PySem.W.Frag} (h : kitVB x K = true) : PySem.W.kitOne K (.ref (ga K x)) (.type "ValueError") = some true := of_decide_eq_true h
end SW

namespace SW
open PySem PySem.Spec PyProof.Rows L2 He
def top (i : Nat) : Stmt := PySem.Challenge.pw_storeway_k05_the_beat.main.body.getD i (.Pass ⟨0, 0, 0, 0⟩)
abbrev s_wall : Stmt := top 0
abbrev s_BadRow_init : Stmt := inClass (top 3) 0
abbrev s_NoPart_init : Stmt := inClass (top 4) 0
abbrev s_Kind_lines : Stmt := inClass (top 8) 0
abbrev s_Kind_joined : Stmt := inClass (top 8) 1
abbrev s_Kind_word : Stmt := inClass (top 8) 2
abbrev s_Kind_made : Stmt := inClass (top 8) 3
abbrev s_Source_lines : Stmt := inClass (top 9) 0
abbrev s_Source_word : Stmt := inClass (top 9) 1
abbrev s_Sink_lines : Stmt := inClass (top 10) 0
abbrev s_Sink_joined : Stmt := inClass (top 10) 1
abbrev s_Sink_word : Stmt := inClass (top 10) 2
abbrev s_Both_joined : Stmt := inClass (top 11) 0
abbrev s_Both_word : Stmt := inClass (top 11) 1
abbrev s_Either_joined : Stmt := inClass (top 12) 0
abbrev s_Either_word : Stmt := inClass (top 12) 1
abbrev s_Odd_joined : Stmt := inClass (top 13) 0
abbrev s_Odd_word : Stmt := inClass (top 13) 1
abbrev s_Plus_joined : Stmt := inClass (top 14) 0
abbrev s_Plus_word : Stmt := inClass (top 14) 1
abbrev s_Pick_lines : Stmt := inClass (top 15) 0
abbrev s_Pick_joined : Stmt := inClass (top 15) 1
abbrev s_Pick_word : Stmt := inClass (top 15) 2
abbrev s_Up_init : Stmt := inClass (top 16) 0
abbrev s_Up_lines : Stmt := inClass (top 16) 1
abbrev s_Up_joined : Stmt := inClass (top 16) 2
abbrev s_Up_word : Stmt := inClass (top 16) 3
abbrev s_Down_init : Stmt := inClass (top 17) 0
abbrev s_Down_lines : Stmt := inClass (top 17) 1
abbrev s_Down_joined : Stmt := inClass (top 17) 2
abbrev s_Down_word : Stmt := inClass (top 17) 3
abbrev s_number_in : Stmt := top 18
abbrev s_kind_by : Stmt := top 19
abbrev s_Part_init : Stmt := inClass (top 22) 0
abbrev s_Part_end : Stmt := inClass (top 22) 1
abbrev s_Works_init : Stmt := inClass (top 23) 0
abbrev s_Works_names : Stmt := inClass (top 23) 1
abbrev s_Works_part : Stmt := inClass (top 23) 2
abbrev s_Works_kind : Stmt := inClass (top 23) 3
abbrev s_Works_time : Stmt := inClass (top 23) 4
abbrev s_Works_lines : Stmt := inClass (top 23) 5
abbrev s_Works_stored : Stmt := inClass (top 23) 6
abbrev s_good_name : Stmt := top 24
abbrev s_feed_of : Stmt := top 25
abbrev s_part_of : Stmt := top 26
abbrev s_settled : Stmt := top 27
abbrev s_read : Stmt := top 28
abbrev s_best_feed : Stmt := top 30
abbrev s_arrivals : Stmt := top 31
abbrev s_beat : Stmt := top 32
abbrev s_longest : Stmt := top 33
abbrev s_law_cell_at : Stmt := top 35
abbrev s_law_draw : Stmt := top 36
abbrev s_law_asks : Stmt := top 37
abbrev s_law_name : Stmt := top 38
abbrev s_law_word : Stmt := top 39
abbrev s_law_works : Stmt := top 40
abbrev s_law_text : Stmt := top 41
abbrev s_law_timed : Stmt := top 42
abbrev s_law : Stmt := top 43
theorem sc_wall : FnScope ["k"] ["k"] (defScope s_wall) := ⟨rfl, rfl, rfl, by decide +kernel, rfl, by decide +kernel, by decide +kernel⟩
theorem sc_BadRow_init : FnScope ["self", "row"] ["self", "row"] (defScope s_BadRow_init) := ⟨rfl, rfl, rfl, by decide +kernel, rfl, by decide +kernel, by decide +kernel⟩
theorem sc_NoPart_init : FnScope ["self", "row"] ["self", "row"] (defScope s_NoPart_init) := ⟨rfl, rfl, rfl, by decide +kernel, rfl, by decide +kernel, by decide +kernel⟩
theorem sc_Kind_lines : FnScope ["self"] ["self"] (defScope s_Kind_lines) := ⟨rfl, rfl, rfl, by decide +kernel, rfl, by decide +kernel, by decide +kernel⟩
theorem sc_Kind_joined : FnScope ["self", "numbers"] ["self", "numbers"] (defScope s_Kind_joined) := ⟨rfl, rfl, rfl, by decide +kernel, rfl, by decide +kernel, by decide +kernel⟩
theorem sc_Kind_word : FnScope ["self"] ["self"] (defScope s_Kind_word) := ⟨rfl, rfl, rfl, by decide +kernel, rfl, by decide +kernel, by decide +kernel⟩
theorem sc_Kind_made : FnScope ["self", "numbers", "width"] ["self", "numbers", "width"] (defScope s_Kind_made) := ⟨rfl, rfl, rfl, by decide +kernel, rfl, by decide +kernel, by decide +kernel⟩
theorem sc_Source_lines : FnScope ["self"] ["self"] (defScope s_Source_lines) := ⟨rfl, rfl, rfl, by decide +kernel, rfl, by decide +kernel, by decide +kernel⟩
theorem sc_Source_word : FnScope ["self"] ["self"] (defScope s_Source_word) := ⟨rfl, rfl, rfl, by decide +kernel, rfl, by decide +kernel, by decide +kernel⟩
theorem sc_Sink_lines : FnScope ["self"] ["self"] (defScope s_Sink_lines) := ⟨rfl, rfl, rfl, by decide +kernel, rfl, by decide +kernel, by decide +kernel⟩
theorem sc_Sink_joined : FnScope ["self", "numbers"] ["self", "numbers"] (defScope s_Sink_joined) := ⟨rfl, rfl, rfl, by decide +kernel, rfl, by decide +kernel, by decide +kernel⟩
theorem sc_Sink_word : FnScope ["self"] ["self"] (defScope s_Sink_word) := ⟨rfl, rfl, rfl, by decide +kernel, rfl, by decide +kernel, by decide +kernel⟩
theorem sc_Both_joined : FnScope ["self", "numbers"] ["self", "numbers"] (defScope s_Both_joined) := ⟨rfl, rfl, rfl, by decide +kernel, rfl, by decide +kernel, by decide +kernel⟩
theorem sc_Both_word : FnScope ["self"] ["self"] (defScope s_Both_word) := ⟨rfl, rfl, rfl, by decide +kernel, rfl, by decide +kernel, by decide +kernel⟩
theorem sc_Either_joined : FnScope ["self", "numbers"] ["self", "numbers"] (defScope s_Either_joined) := ⟨rfl, rfl, rfl, by decide +kernel, rfl, by decide +kernel, by decide +kernel⟩
theorem sc_Either_word : FnScope ["self"] ["self"] (defScope s_Either_word) := ⟨rfl, rfl, rfl, by decide +kernel, rfl, by decide +kernel, by decide +kernel⟩
theorem sc_Odd_joined : FnScope ["self", "numbers"] ["self", "numbers"] (defScope s_Odd_joined) := ⟨rfl, rfl, rfl, by decide +kernel, rfl, by decide +kernel, by decide +kernel⟩
theorem sc_Odd_word : FnScope ["self"] ["self"] (defScope s_Odd_word) := ⟨rfl, rfl, rfl, by decide +kernel, rfl, by decide +kernel, by decide +kernel⟩
theorem sc_Plus_joined : FnScope ["self", "numbers"] ["self", "numbers"] (defScope s_Plus_joined) := ⟨rfl, rfl, rfl, by decide +kernel, rfl, by decide +kernel, by decide +kernel⟩
theorem sc_Plus_word : FnScope ["self"] ["self"] (defScope s_Plus_word) := ⟨rfl, rfl, rfl, by decide +kernel, rfl, by decide +kernel, by decide +kernel⟩
theorem sc_Pick_lines : FnScope ["self"] ["self"] (defScope s_Pick_lines) := ⟨rfl, rfl, rfl, by decide +kernel, rfl, by decide +kernel, by decide +kernel⟩
theorem sc_Pick_joined : FnScope ["self", "numbers"] ["self", "numbers"] (defScope s_Pick_joined) := ⟨rfl, rfl, rfl, by decide +kernel, rfl, by decide +kernel, by decide +kernel⟩
theorem sc_Pick_word : FnScope ["self"] ["self"] (defScope s_Pick_word) := ⟨rfl, rfl, rfl, by decide +kernel, rfl, by decide +kernel, by decide +kernel⟩
theorem sc_Up_init : FnScope ["self", "count"] ["self", "count"] (defScope s_Up_init) := ⟨rfl, rfl, rfl, by decide +kernel, rfl, by decide +kernel, by decide +kernel⟩
theorem sc_Up_lines : FnScope ["self"] ["self"] (defScope s_Up_lines) := ⟨rfl, rfl, rfl, by decide +kernel, rfl, by decide +kernel, by decide +kernel⟩
theorem sc_Up_joined : FnScope ["self", "numbers"] ["self", "numbers"] (defScope s_Up_joined) := ⟨rfl, rfl, rfl, by decide +kernel, rfl, by decide +kernel, by decide +kernel⟩
theorem sc_Up_word : FnScope ["self"] ["self"] (defScope s_Up_word) := ⟨rfl, rfl, rfl, by decide +kernel, rfl, by decide +kernel, by decide +kernel⟩
theorem sc_Down_init : FnScope ["self", "count"] ["self", "count"] (defScope s_Down_init) := ⟨rfl, rfl, rfl, by decide +kernel, rfl, by decide +kernel, by decide +kernel⟩
theorem sc_Down_lines : FnScope ["self"] ["self"] (defScope s_Down_lines) := ⟨rfl, rfl, rfl, by decide +kernel, rfl, by decide +kernel, by decide +kernel⟩
theorem sc_Down_joined : FnScope ["self", "numbers"] ["self", "numbers"] (defScope s_Down_joined) := ⟨rfl, rfl, rfl, by decide +kernel, rfl, by decide +kernel, by decide +kernel⟩
theorem sc_Down_word : FnScope ["self"] ["self"] (defScope s_Down_word) := ⟨rfl, rfl, rfl, by decide +kernel, rfl, by decide +kernel, by decide +kernel⟩
theorem sc_number_in : FnScope ["figures", "most"] ["figures", "most"] (defScope s_number_in) := ⟨rfl, rfl, rfl, by decide +kernel, rfl, by decide +kernel, by decide +kernel⟩
theorem sc_kind_by : FnScope ["word", "kind", "head", "mark", "figures", "count"] ["word"] (defScope s_kind_by) := ⟨rfl, rfl, rfl, by decide +kernel, rfl, by decide +kernel, by decide +kernel⟩
theorem sc_Part_init : FnScope ["self", "name", "kind", "time", "feeds"] ["self", "name", "kind", "time", "feeds"] (defScope s_Part_init) := ⟨rfl, rfl, rfl, by decide +kernel, rfl, by decide +kernel, by decide +kernel⟩
theorem sc_Part_end : FnScope ["self"] ["self"] (defScope s_Part_end) := ⟨rfl, rfl, rfl, by decide +kernel, rfl, by decide +kernel, by decide +kernel⟩
theorem sc_Works_init : FnScope ["self", "parts"] ["self", "parts"] (defScope s_Works_init) := ⟨rfl, rfl, rfl, by decide +kernel, rfl, by decide +kernel, by decide +kernel⟩
theorem sc_Works_names : FnScope ["self", "part"] ["self"] (defScope s_Works_names) := ⟨rfl, rfl, rfl, by decide +kernel, rfl, by decide +kernel, by decide +kernel⟩
theorem sc_Works_part : FnScope ["self", "name"] ["self", "name"] (defScope s_Works_part) := ⟨rfl, rfl, rfl, by decide +kernel, rfl, by decide +kernel, by decide +kernel⟩
theorem sc_Works_kind : FnScope ["self", "name"] ["self", "name"] (defScope s_Works_kind) := ⟨rfl, rfl, rfl, by decide +kernel, rfl, by decide +kernel, by decide +kernel⟩
theorem sc_Works_time : FnScope ["self", "name"] ["self", "name"] (defScope s_Works_time) := ⟨rfl, rfl, rfl, by decide +kernel, rfl, by decide +kernel, by decide +kernel⟩
theorem sc_Works_lines : FnScope ["self", "told", "part", "feed"] ["self"] (defScope s_Works_lines) := ⟨rfl, rfl, rfl, by decide +kernel, rfl, by decide +kernel, by decide +kernel⟩
theorem sc_Works_stored : FnScope ["self", "counts"] ["self", "counts"] (defScope s_Works_stored) := ⟨rfl, rfl, rfl, by decide +kernel, rfl, by decide +kernel, by decide +kernel⟩
theorem sc_good_name : FnScope ["name"] ["name"] (defScope s_good_name) := ⟨rfl, rfl, rfl, by decide +kernel, rfl, by decide +kernel, by decide +kernel⟩
theorem sc_feed_of : FnScope ["word", "name", "mark", "figures", "count"] ["word"] (defScope s_feed_of) := ⟨rfl, rfl, rfl, by decide +kernel, rfl, by decide +kernel, by decide +kernel⟩
theorem sc_part_of : FnScope ["words", "kind", "time", "feeds", "word", "part"] ["words"] (defScope s_part_of) := ⟨rfl, rfl, rfl, by decide +kernel, rfl, by decide +kernel, by decide +kernel⟩
theorem sc_settled : FnScope ["works", "order", "done", "found", "part", "ready", "feed"] ["works"] (defScope s_settled) := ⟨rfl, rfl, rfl, by decide +kernel, rfl, by decide +kernel, by decide +kernel⟩
theorem sc_read : FnScope ["text", "parts", "rows", "kinds", "place", "row", "words", "word", "part", "feed", "works"] ["text"] (defScope s_read) := ⟨rfl, rfl, rfl, by decide +kernel, rfl, by decide +kernel, by decide +kernel⟩
theorem sc_best_feed : FnScope ["part", "times", "found", "feed"] ["part", "times"] (defScope s_best_feed) := ⟨rfl, rfl, rfl, by decide +kernel, rfl, by decide +kernel, by decide +kernel⟩
theorem sc_arrivals : FnScope ["works", "times", "part", "ahead"] ["works"] (defScope s_arrivals) := ⟨rfl, rfl, rfl, by decide +kernel, rfl, by decide +kernel, by decide +kernel⟩
theorem sc_beat : FnScope ["works"] ["works"] (defScope s_beat) := ⟨rfl, rfl, rfl, by decide +kernel, rfl, by decide +kernel, by decide +kernel⟩
theorem sc_longest : FnScope ["works", "times", "name", "way"] ["works"] (defScope s_longest) := ⟨rfl, rfl, rfl, by decide +kernel, rfl, by decide +kernel, by decide +kernel⟩
theorem sc_law_cell_at : FnScope ["_law_script", "_law_k"] ["_law_script", "_law_k"] (defScope s_law_cell_at) := ⟨rfl, rfl, rfl, by decide +kernel, rfl, by decide +kernel, by decide +kernel⟩
theorem sc_law_draw : FnScope ["_law_cell", "_law_k", "_law_many", "_law_primes"] ["_law_cell", "_law_k", "_law_many"] (defScope s_law_draw) := ⟨rfl, rfl, rfl, by decide +kernel, rfl, by decide +kernel, by decide +kernel⟩
theorem sc_law_asks : FnScope ["_law_word_here"] ["_law_word_here"] (defScope s_law_asks) := ⟨rfl, rfl, rfl, by decide +kernel, rfl, by decide +kernel, by decide +kernel⟩
theorem sc_law_name : FnScope ["_law_k", "_law_mark", "_law_two"] ["_law_k", "_law_mark"] (defScope s_law_name) := ⟨rfl, rfl, rfl, by decide +kernel, rfl, by decide +kernel, by decide +kernel⟩
theorem sc_law_word : FnScope ["_law_cell", "_law_k", "_law_kind", "_law_words"] ["_law_cell", "_law_k"] (defScope s_law_word) := ⟨rfl, rfl, rfl, by decide +kernel, rfl, by decide +kernel, by decide +kernel⟩
theorem sc_law_works : FnScope ["_law_script", "_law_most", "_law_mark", "_law_many", "_law_words", "_law_k", "_law_froms", "_law_parts", "_law_feeds", "_law_j", "_law_cell", "_law_place", "_law_held", "_law_time"] ["_law_script", "_law_most"] (defScope s_law_works) := ⟨rfl, rfl, rfl, by decide +kernel, rfl, by decide +kernel, by decide +kernel⟩
theorem sc_law_text : FnScope ["_law_parts", "_law_rows", "_law_part", "_law_row", "_law_feed"] ["_law_parts"] (defScope s_law_text) := ⟨rfl, rfl, rfl, by decide +kernel, rfl, by decide +kernel, by decide +kernel⟩
theorem sc_law_timed : FnScope ["_law_parts", "_law_times", "_law_part", "_law_time", "_law_ahead", "_law_feed"] ["_law_parts", "_law_times"] (defScope s_law_timed) := ⟨rfl, rfl, rfl, by decide +kernel, rfl, by decide +kernel, by decide +kernel⟩
theorem sc_law : FnScope ["_law_script", "_law_parts", "_law_works_here", "_law_times", "_law_most", "_law_part", "_law_way", "_law_names", "_law_total", "_law_k"] ["_law_script"] (defScope s_law) := ⟨rfl, rfl, rfl, by decide +kernel, rfl, by decide +kernel, by decide +kernel⟩
def d_wall : He.DefD := ⟨("_wall", none), "_wall", "_wall", defArgs s_wall, defBody s_wall, defScope s_wall, [], []⟩
def d_BadRow_init : He.DefD := ⟨("BadRow", some "__init__"), "__init__", "BadRow.__init__", defArgs s_BadRow_init, defBody s_BadRow_init, defScope s_BadRow_init, [], []⟩
def d_NoPart_init : He.DefD := ⟨("NoPart", some "__init__"), "__init__", "NoPart.__init__", defArgs s_NoPart_init, defBody s_NoPart_init, defScope s_NoPart_init, [], []⟩
def d_Kind_lines : He.DefD := ⟨("Kind", some "lines"), "lines", "Kind.lines", defArgs s_Kind_lines, defBody s_Kind_lines, defScope s_Kind_lines, [], []⟩
def d_Kind_joined : He.DefD := ⟨("Kind", some "joined"), "joined", "Kind.joined", defArgs s_Kind_joined, defBody s_Kind_joined, defScope s_Kind_joined, [], []⟩
def d_Kind_word : He.DefD := ⟨("Kind", some "word"), "word", "Kind.word", defArgs s_Kind_word, defBody s_Kind_word, defScope s_Kind_word, [], []⟩
def d_Kind_made : He.DefD := ⟨("Kind", some "made"), "made", "Kind.made", defArgs s_Kind_made, defBody s_Kind_made, defScope s_Kind_made, [], []⟩
def d_Source_lines : He.DefD := ⟨("Source", some "lines"), "lines", "Source.lines", defArgs s_Source_lines, defBody s_Source_lines, defScope s_Source_lines, [], []⟩
def d_Source_word : He.DefD := ⟨("Source", some "word"), "word", "Source.word", defArgs s_Source_word, defBody s_Source_word, defScope s_Source_word, [], []⟩
def d_Sink_lines : He.DefD := ⟨("Sink", some "lines"), "lines", "Sink.lines", defArgs s_Sink_lines, defBody s_Sink_lines, defScope s_Sink_lines, [], []⟩
def d_Sink_joined : He.DefD := ⟨("Sink", some "joined"), "joined", "Sink.joined", defArgs s_Sink_joined, defBody s_Sink_joined, defScope s_Sink_joined, [], []⟩
def d_Sink_word : He.DefD := ⟨("Sink", some "word"), "word", "Sink.word", defArgs s_Sink_word, defBody s_Sink_word, defScope s_Sink_word, [], []⟩
def d_Both_joined : He.DefD := ⟨("Both", some "joined"), "joined", "Both.joined", defArgs s_Both_joined, defBody s_Both_joined, defScope s_Both_joined, [], []⟩
def d_Both_word : He.DefD := ⟨("Both", some "word"), "word", "Both.word", defArgs s_Both_word, defBody s_Both_word, defScope s_Both_word, [], []⟩
def d_Either_joined : He.DefD := ⟨("Either", some "joined"), "joined", "Either.joined", defArgs s_Either_joined, defBody s_Either_joined, defScope s_Either_joined, [], []⟩
def d_Either_word : He.DefD := ⟨("Either", some "word"), "word", "Either.word", defArgs s_Either_word, defBody s_Either_word, defScope s_Either_word, [], []⟩
def d_Odd_joined : He.DefD := ⟨("Odd", some "joined"), "joined", "Odd.joined", defArgs s_Odd_joined, defBody s_Odd_joined, defScope s_Odd_joined, [], []⟩
def d_Odd_word : He.DefD := ⟨("Odd", some "word"), "word", "Odd.word", defArgs s_Odd_word, defBody s_Odd_word, defScope s_Odd_word, [], []⟩
def d_Plus_joined : He.DefD := ⟨("Plus", some "joined"), "joined", "Plus.joined", defArgs s_Plus_joined, defBody s_Plus_joined, defScope s_Plus_joined, [], []⟩
def d_Plus_word : He.DefD := ⟨("Plus", some "word"), "word", "Plus.word", defArgs s_Plus_word, defBody s_Plus_word, defScope s_Plus_word, [], []⟩
def d_Pick_lines : He.DefD := ⟨("Pick", some "lines"), "lines", "Pick.lines", defArgs s_Pick_lines, defBody s_Pick_lines, defScope s_Pick_lines, [], []⟩
def d_Pick_joined : He.DefD := ⟨("Pick", some "joined"), "joined", "Pick.joined", defArgs s_Pick_joined, defBody s_Pick_joined, defScope s_Pick_joined, [], []⟩
def d_Pick_word : He.DefD := ⟨("Pick", some "word"), "word", "Pick.word", defArgs s_Pick_word, defBody s_Pick_word, defScope s_Pick_word, [], []⟩
def d_Up_init : He.DefD := ⟨("Up", some "__init__"), "__init__", "Up.__init__", defArgs s_Up_init, defBody s_Up_init, defScope s_Up_init, [], []⟩
def d_Up_lines : He.DefD := ⟨("Up", some "lines"), "lines", "Up.lines", defArgs s_Up_lines, defBody s_Up_lines, defScope s_Up_lines, [], []⟩
def d_Up_joined : He.DefD := ⟨("Up", some "joined"), "joined", "Up.joined", defArgs s_Up_joined, defBody s_Up_joined, defScope s_Up_joined, [], []⟩
def d_Up_word : He.DefD := ⟨("Up", some "word"), "word", "Up.word", defArgs s_Up_word, defBody s_Up_word, defScope s_Up_word, [], []⟩
def d_Down_init : He.DefD := ⟨("Down", some "__init__"), "__init__", "Down.__init__", defArgs s_Down_init, defBody s_Down_init, defScope s_Down_init, [], []⟩
def d_Down_lines : He.DefD := ⟨("Down", some "lines"), "lines", "Down.lines", defArgs s_Down_lines, defBody s_Down_lines, defScope s_Down_lines, [], []⟩
def d_Down_joined : He.DefD := ⟨("Down", some "joined"), "joined", "Down.joined", defArgs s_Down_joined, defBody s_Down_joined, defScope s_Down_joined, [], []⟩
def d_Down_word : He.DefD := ⟨("Down", some "word"), "word", "Down.word", defArgs s_Down_word, defBody s_Down_word, defScope s_Down_word, [], []⟩
def d_number_in : He.DefD := ⟨("number_in", none), "number_in", "number_in", defArgs s_number_in, defBody s_number_in, defScope s_number_in, [], []⟩
def d_kind_by : He.DefD := ⟨("kind_by", none), "kind_by", "kind_by", defArgs s_kind_by, defBody s_kind_by, defScope s_kind_by, [], []⟩
def d_Part_init : He.DefD := ⟨("Part", some "__init__"), "__init__", "Part.__init__", defArgs s_Part_init, defBody s_Part_init, defScope s_Part_init, [], []⟩
def d_Part_end : He.DefD := ⟨("Part", some "end"), "end", "Part.end", defArgs s_Part_end, defBody s_Part_end, defScope s_Part_end, [], []⟩
def d_Works_init : He.DefD := ⟨("Works", some "__init__"), "__init__", "Works.__init__", defArgs s_Works_init, defBody s_Works_init, defScope s_Works_init, [], []⟩
def d_Works_names : He.DefD := ⟨("Works", some "names"), "names", "Works.names", defArgs s_Works_names, defBody s_Works_names, defScope s_Works_names, [], []⟩
def d_Works_part : He.DefD := ⟨("Works", some "part"), "part", "Works.part", defArgs s_Works_part, defBody s_Works_part, defScope s_Works_part, [], []⟩
def d_Works_kind : He.DefD := ⟨("Works", some "kind"), "kind", "Works.kind", defArgs s_Works_kind, defBody s_Works_kind, defScope s_Works_kind, [], []⟩
def d_Works_time : He.DefD := ⟨("Works", some "time"), "time", "Works.time", defArgs s_Works_time, defBody s_Works_time, defScope s_Works_time, [], []⟩
def d_Works_lines : He.DefD := ⟨("Works", some "lines"), "lines", "Works.lines", defArgs s_Works_lines, defBody s_Works_lines, defScope s_Works_lines, [], []⟩
def d_Works_stored : He.DefD := ⟨("Works", some "stored"), "stored", "Works.stored", defArgs s_Works_stored, defBody s_Works_stored, defScope s_Works_stored, [], []⟩
def d_good_name : He.DefD := ⟨("good_name", none), "good_name", "good_name", defArgs s_good_name, defBody s_good_name, defScope s_good_name, [], []⟩
def d_feed_of : He.DefD := ⟨("feed_of", none), "feed_of", "feed_of", defArgs s_feed_of, defBody s_feed_of, defScope s_feed_of, [], []⟩
def d_part_of : He.DefD := ⟨("part_of", none), "part_of", "part_of", defArgs s_part_of, defBody s_part_of, defScope s_part_of, [], []⟩
def d_settled : He.DefD := ⟨("settled", none), "settled", "settled", defArgs s_settled, defBody s_settled, defScope s_settled, [], []⟩
def d_read : He.DefD := ⟨("read", none), "read", "read", defArgs s_read, defBody s_read, defScope s_read, [], []⟩
def d_best_feed : He.DefD := ⟨("best_feed", none), "best_feed", "best_feed", defArgs s_best_feed, defBody s_best_feed, defScope s_best_feed, [], []⟩
def d_arrivals : He.DefD := ⟨("arrivals", none), "arrivals", "arrivals", defArgs s_arrivals, defBody s_arrivals, defScope s_arrivals, [], []⟩
def d_beat : He.DefD := ⟨("beat", none), "beat", "beat", defArgs s_beat, defBody s_beat, defScope s_beat, [], []⟩
def d_longest : He.DefD := ⟨("longest", none), "longest", "longest", defArgs s_longest, defBody s_longest, defScope s_longest, [], []⟩
def d_law_cell_at : He.DefD := ⟨("_law_cell_at", none), "_law_cell_at", "_law_cell_at", defArgs s_law_cell_at, defBody s_law_cell_at, defScope s_law_cell_at, [], []⟩
def d_law_draw : He.DefD := ⟨("_law_draw", none), "_law_draw", "_law_draw", defArgs s_law_draw, defBody s_law_draw, defScope s_law_draw, [], []⟩
def d_law_asks : He.DefD := ⟨("_law_asks", none), "_law_asks", "_law_asks", defArgs s_law_asks, defBody s_law_asks, defScope s_law_asks, [], []⟩
def d_law_name : He.DefD := ⟨("_law_name", none), "_law_name", "_law_name", defArgs s_law_name, defBody s_law_name, defScope s_law_name, [], []⟩
def d_law_word : He.DefD := ⟨("_law_word", none), "_law_word", "_law_word", defArgs s_law_word, defBody s_law_word, defScope s_law_word, [], []⟩
def d_law_works : He.DefD := ⟨("_law_works", none), "_law_works", "_law_works", defArgs s_law_works, defBody s_law_works, defScope s_law_works, [], []⟩
def d_law_text : He.DefD := ⟨("_law_text", none), "_law_text", "_law_text", defArgs s_law_text, defBody s_law_text, defScope s_law_text, [], []⟩
def d_law_timed : He.DefD := ⟨("_law_timed", none), "_law_timed", "_law_timed", defArgs s_law_timed, defBody s_law_timed, defScope s_law_timed, [], []⟩
def d_law : He.DefD := ⟨("law", none), "law", "law", defArgs s_law, defBody s_law, defScope s_law, [], []⟩
def d_Source_joined : He.DefD := ⟨("Source", some "joined"), "joined", "Kind.joined", defArgs s_Kind_joined, defBody s_Kind_joined, defScope s_Kind_joined, [], []⟩
def d_Source_made : He.DefD := ⟨("Source", some "made"), "made", "Kind.made", defArgs s_Kind_made, defBody s_Kind_made, defScope s_Kind_made, [], []⟩
def d_Sink_made : He.DefD := ⟨("Sink", some "made"), "made", "Kind.made", defArgs s_Kind_made, defBody s_Kind_made, defScope s_Kind_made, [], []⟩
def d_Both_lines : He.DefD := ⟨("Both", some "lines"), "lines", "Kind.lines", defArgs s_Kind_lines, defBody s_Kind_lines, defScope s_Kind_lines, [], []⟩
def d_Both_made : He.DefD := ⟨("Both", some "made"), "made", "Kind.made", defArgs s_Kind_made, defBody s_Kind_made, defScope s_Kind_made, [], []⟩
def d_Either_lines : He.DefD := ⟨("Either", some "lines"), "lines", "Kind.lines", defArgs s_Kind_lines, defBody s_Kind_lines, defScope s_Kind_lines, [], []⟩
def d_Either_made : He.DefD := ⟨("Either", some "made"), "made", "Kind.made", defArgs s_Kind_made, defBody s_Kind_made, defScope s_Kind_made, [], []⟩
def d_Odd_lines : He.DefD := ⟨("Odd", some "lines"), "lines", "Kind.lines", defArgs s_Kind_lines, defBody s_Kind_lines, defScope s_Kind_lines, [], []⟩
def d_Odd_made : He.DefD := ⟨("Odd", some "made"), "made", "Kind.made", defArgs s_Kind_made, defBody s_Kind_made, defScope s_Kind_made, [], []⟩
def d_Plus_lines : He.DefD := ⟨("Plus", some "lines"), "lines", "Kind.lines", defArgs s_Kind_lines, defBody s_Kind_lines, defScope s_Kind_lines, [], []⟩
def d_Plus_made : He.DefD := ⟨("Plus", some "made"), "made", "Kind.made", defArgs s_Kind_made, defBody s_Kind_made, defScope s_Kind_made, [], []⟩
def d_Pick_made : He.DefD := ⟨("Pick", some "made"), "made", "Kind.made", defArgs s_Kind_made, defBody s_Kind_made, defScope s_Kind_made, [], []⟩
def d_Up_made : He.DefD := ⟨("Up", some "made"), "made", "Kind.made", defArgs s_Kind_made, defBody s_Kind_made, defScope s_Kind_made, [], []⟩
def d_Down_made : He.DefD := ⟨("Down", some "made"), "made", "Kind.made", defArgs s_Kind_made, defBody s_Kind_made, defScope s_Kind_made, [], []⟩
def fn : List He.DefD := [d_wall, d_BadRow_init, d_NoPart_init, d_Kind_lines, d_Kind_joined, d_Kind_word, d_Kind_made, d_Source_lines, d_Source_word, d_Sink_lines, d_Sink_joined, d_Sink_word, d_Both_joined, d_Both_word, d_Either_joined, d_Either_word, d_Odd_joined, d_Odd_word, d_Plus_joined, d_Plus_word, d_Pick_lines, d_Pick_joined, d_Pick_word, d_Up_init, d_Up_lines, d_Up_joined, d_Up_word, d_Down_init, d_Down_lines, d_Down_joined, d_Down_word, d_number_in, d_kind_by, d_Part_init, d_Part_end, d_Works_init, d_Works_names, d_Works_part, d_Works_kind, d_Works_time, d_Works_lines, d_Works_stored, d_good_name, d_feed_of, d_part_of, d_settled, d_read, d_best_feed, d_arrivals, d_beat, d_longest, d_law_cell_at, d_law_draw, d_law_asks, d_law_name, d_law_word, d_law_works, d_law_text, d_law_timed, d_law, d_Source_joined, d_Source_made, d_Sink_made, d_Both_lines, d_Both_made, d_Either_lines, d_Either_made, d_Odd_lines, d_Odd_made, d_Plus_lines, d_Plus_made, d_Pick_made, d_Up_made, d_Down_made]
def fa : List He.Fa := [.glo "_wall", .glo "WorksError", .glo "BadRow", .glo "NoPart", .glo "TooMany", .glo "Ring", .glo "Kind", .glo "Source", .glo "Sink", .glo "Both", .glo "Either", .glo "Odd", .glo "Plus", .glo "Pick", .glo "Up", .glo "Down", .glo "number_in", .glo "kind_by", .int "MOST" 60, .glo "Part", .glo "Works", .glo "good_name", .glo "feed_of", .glo "part_of", .glo "settled", .glo "read", .glo "best_feed", .glo "arrivals", .glo "beat", .glo "longest", .glo "_law_cell_at", .glo "_law_draw", .glo "_law_asks", .glo "_law_name", .glo "_law_word", .glo "_law_works", .glo "_law_text", .glo "_law_timed", .glo "law", .free "str", .free "int", .free "len", .free "enumerate", .free "zip", .free "max", .free "range", .free "isinstance", .free "dict", .free "bool", .free "list", .keep "WorksError", .keep "BadRow", .keep "NoPart", .keep "TooMany", .keep "Ring", .cls "Kind", .meth "Kind" "lines", .meth "Kind" "joined", .meth "Kind" "word", .meth "Kind" "made", .cls "Source", .meth "Source" "lines", .meth "Source" "word", .meth "Source" "joined", .meth "Source" "made", .cls "Sink", .meth "Sink" "lines", .meth "Sink" "joined", .meth "Sink" "word", .meth "Sink" "made", .cls "Both", .meth "Both" "joined", .meth "Both" "word", .meth "Both" "lines", .meth "Both" "made", .cls "Either", .meth "Either" "joined", .meth "Either" "word", .meth "Either" "lines", .meth "Either" "made", .cls "Odd", .meth "Odd" "joined", .meth "Odd" "word", .meth "Odd" "lines", .meth "Odd" "made", .cls "Plus", .meth "Plus" "joined", .meth "Plus" "word", .meth "Plus" "lines", .meth "Plus" "made", .cls "Pick", .meth "Pick" "lines", .meth "Pick" "joined", .meth "Pick" "word", .meth "Pick" "made", .cls "Up", .noat "Up" "count", .mkr "Up", .meth "Up" "lines", .meth "Up" "joined", .meth "Up" "word", .meth "Up" "made", .cls "Down", .noat "Down" "count", .mkr "Down", .meth "Down" "lines", .meth "Down" "joined", .meth "Down" "word", .meth "Down" "made", .cls "Part", .noat "Part" "called", .noat "Part" "craft", .noat "Part" "takes", .noat "Part" "feeds", .mkr "Part", .meth "Part" "end", .cls "Works", .noat "Works" "parts", .mkr "Works", .meth "Works" "names", .meth "Works" "part", .meth "Works" "kind", .meth "Works" "time", .meth "Works" "lines", .meth "Works" "stored"]
def exL : List (PySem.W.Frag → Bool) := [moB "Kind", moB "Source", moB "Sink", moB "Both", moB "Either", moB "Odd", moB "Plus", moB "Pick"]
def exB (K : PySem.W.Frag) : Bool := exL.all fun f => f K
abbrev R : PySem.W.OpenRow := PySem.W.OpenLaw.row PySem.Challenge.rw_storeway_k05_the_beat
/-- the head's facts, and the empty tables of some defs -/
structure TabsOk (tf : List He.Defn) (K : PySem.W.Frag) (h : Heap) : Prop where
  hd : ∀ p ∈ tf, PySem.W.codeHdIn K (cT K p).1 (cT K p).2 = true
  out : ∀ p ∈ tf, K.lookup (cT K p).2 = none
  empty : ∀ p ∈ tf, h.get? (cT K p).2 = some { cls := .none, data := .fields #[] }
theorem tabsOk_of {n : Nat} {tf : List He.Defn} {h : Heap} (e : tabsB h.get? tf (KR n h.get?) = true) : TabsOk tf (KR n h.get?) h := by
  have key : ∀ p ∈ tf, PySem.W.codeHdIn (KR n h.get?) (cT (KR n h.get?) p).1 (cT (KR n h.get?) p).2 = true ∧ ∃ o, h.get? (cT (KR n h.get?) p).2 = some o ∧ emptyTab o = true := fun p hp => by
    obtain ⟨h3, h4⟩ := ba (List.all_eq_true.mp e p hp)
    refine ⟨h3, ?_⟩
    cases q : h.get? (cT (KR n h.get?) p).2 with
    | none =>
      rw [q] at h4
      cases h4
    | some o =>
      rw [q] at h4
      exact ⟨o, rfl, h4⟩
  exact ⟨fun p hp => (key p hp).1, fun p hp => by
    obtain ⟨_, o, q, z⟩ := key p hp
    exact frT_none q z, fun p hp => by
    obtain ⟨_, o, q, z⟩ := key p hp
    rw [q, emptyTab_eq z]⟩
def obsRT (n : Nat) (fa : List Fa) (fn : List DefD) (ex : PySem.W.Frag → Bool) (tf : List He.Defn) (g : Addr → Option Obj) : AlD × Bool := (obsD fa fn (KR n g), ex (KR n g) && tabsB g tf (KR n g))
def hookRT (n : Nat) (fa : List Fa) (fn : List DefD) (ex : PySem.W.Frag → Bool) (tf : List He.Defn) : PySem.W.Hook where
  α := AlD × Bool
  obs := fun s => obsRT n fa fn ex tf s.heap.get?
  val := fun _ => (valD fn, true)
  says := fun _ h => ∃ K : PySem.W.Frag, K.In h ∧ SaysD fa fn K ∧ ex K = true ∧ TabsOk tf K h
  of := fun _ _ e => ⟨_, frT_in, congrArg (fun z : AlD × Bool => z.1) e, (ba (congrArg (fun z : AlD × Bool => z.2) e)).1, tabsOk_of (ba (congrArg (fun z : AlD × Bool => z.2) e)).2⟩
  keeps := fun _ _ _ ⟨K, hK, c, e, t⟩ k => ⟨K, PySem.W.Frag.In.keeps hK k, c, e, t.hd, t.out, fun p hp => k _ _ (t.empty p hp)⟩
theorem obsRT_eq {n : Nat} {fa : List Fa} {fn : List DefD} {ex : PySem.W.Frag → Bool} {tf : List He.Defn} (s : PySem.W.SharedT) : obsRT n fa fn ex tf (HandSHeadRun.getT s) = (hookRT n fa fn ex tf).obs s.abs := by
  have e : HandSHeadRun.getT s = s.abs.heap.get? := funext (HandSHeadRun.getT_eq s)
  rw [e] <;> rfl
def tf : List He.Defn := [("longest", none)]
abbrev hk : PySem.W.Hook := hookRT 1400 fa fn exB tf
def ob (s : PySem.W.SharedT) : He.AlD × Bool := obsRT 1400 fa fn exB tf (HandSHeadRun.getT s)
theorem ob_eq (s : PySem.W.SharedT) : ob s = hk.obs s.abs := obsRT_eq s
def names0 : List PySem.Str := ["_wall", "WorksError", "BadRow", "NoPart", "TooMany", "Ring", "Kind", "Source", "Sink", "Both", "Either", "Odd", "Plus", "Pick", "Up", "Down", "number_in", "kind_by", "MOST", "Part"]
def names1 : List PySem.Str := ["Works", "good_name", "feed_of", "part_of", "settled", "read", "best_feed", "arrivals", "beat", "longest", "_law_cell_at", "_law_draw", "_law_asks", "_law_name", "_law_word", "_law_works", "_law_text", "_law_timed"]
def names : List PySem.Str := names0 ++ names1
structure Txt (K : PySem.W.Frag) (mg : Str → Option Value) : Prop where
  c : He.SaysD fa fn K
  ex : exB K = true
  H : ∃ h : Heap, K.In h ∧ h.Ns mainGlobals mg
section
variable {K : PySem.W.Frag} {mg : Str → Option Value}
theorem Txt.g_wall (T : Txt K mg) : mg "_wall" = some (.ref (ga K "_wall")) := by
  obtain ⟨h, X, G⟩ := T.H
  exact He.glo_ok X G (T.c.fact 0 (f := (.glo "_wall")) rfl)
theorem Txt.g_WorksError (T : Txt K mg) : mg "WorksError" = some (.ref (ga K "WorksError")) := by
  obtain ⟨h, X, G⟩ := T.H
  exact He.glo_ok X G (T.c.fact 1 (f := (.glo "WorksError")) rfl)
theorem Txt.g_BadRow (T : Txt K mg) : mg "BadRow" = some (.ref (ga K "BadRow")) := by
  obtain ⟨h, X, G⟩ := T.H
  exact He.glo_ok X G (T.c.fact 2 (f := (.glo "BadRow")) rfl)
theorem Txt.g_NoPart (T : Txt K mg) : mg "NoPart" = some (.ref (ga K "NoPart")) := by
  obtain ⟨h, X, G⟩ := T.H
  exact He.glo_ok X G (T.c.fact 3 (f := (.glo "NoPart")) rfl)
theorem Txt.g_TooMany (T : Txt K mg) : mg "TooMany" = some (.ref (ga K "TooMany")) := by
  obtain ⟨h, X, G⟩ := T.H
  exact He.glo_ok X G (T.c.fact 4 (f := (.glo "TooMany")) rfl)
theorem Txt.g_Ring (T : Txt K mg) : mg "Ring" = some (.ref (ga K "Ring")) := by
  obtain ⟨h, X, G⟩ := T.H
  exact He.glo_ok X G (T.c.fact 5 (f := (.glo "Ring")) rfl)
theorem Txt.g_Kind (T : Txt K mg) : mg "Kind" = some (.ref (ga K "Kind")) := by
  obtain ⟨h, X, G⟩ := T.H
  exact He.glo_ok X G (T.c.fact 6 (f := (.glo "Kind")) rfl)
theorem Txt.g_Source (T : Txt K mg) : mg "Source" = some (.ref (ga K "Source")) := by
  obtain ⟨h, X, G⟩ := T.H
  exact He.glo_ok X G (T.c.fact 7 (f := (.glo "Source")) rfl)
theorem Txt.g_Sink (T : Txt K mg) : mg "Sink" = some (.ref (ga K "Sink")) := by
  obtain ⟨h, X, G⟩ := T.H
  exact He.glo_ok X G (T.c.fact 8 (f := (.glo "Sink")) rfl)
theorem Txt.g_Both (T : Txt K mg) : mg "Both" = some (.ref (ga K "Both")) := by
  obtain ⟨h, X, G⟩ := T.H
  exact He.glo_ok X G (T.c.fact 9 (f := (.glo "Both")) rfl)
theorem Txt.g_Either (T : Txt K mg) : mg "Either" = some (.ref (ga K "Either")) := by
  obtain ⟨h, X, G⟩ := T.H
  exact He.glo_ok X G (T.c.fact 10 (f := (.glo "Either")) rfl)
theorem Txt.g_Odd (T : Txt K mg) : mg "Odd" = some (.ref (ga K "Odd")) := by
  obtain ⟨h, X, G⟩ := T.H
  exact He.glo_ok X G (T.c.fact 11 (f := (.glo "Odd")) rfl)
theorem Txt.g_Plus (T : Txt K mg) : mg "Plus" = some (.ref (ga K "Plus")) := by
  obtain ⟨h, X, G⟩ := T.H
  exact He.glo_ok X G (T.c.fact 12 (f := (.glo "Plus")) rfl)
theorem Txt.g_Pick (T : Txt K mg) : mg "Pick" = some (.ref (ga K "Pick")) := by
  obtain ⟨h, X, G⟩ := T.H
  exact He.glo_ok X G (T.c.fact 13 (f := (.glo "Pick")) rfl)
theorem Txt.g_Up (T : Txt K mg) : mg "Up" = some (.ref (ga K "Up")) := by
  obtain ⟨h, X, G⟩ := T.H
  exact He.glo_ok X G (T.c.fact 14 (f := (.glo "Up")) rfl)
theorem Txt.g_Down (T : Txt K mg) : mg "Down" = some (.ref (ga K "Down")) := by
  obtain ⟨h, X, G⟩ := T.H
  exact He.glo_ok X G (T.c.fact 15 (f := (.glo "Down")) rfl)
theorem Txt.g_number_in (T : Txt K mg) : mg "number_in" = some (.ref (ga K "number_in")) := by
  obtain ⟨h, X, G⟩ := T.H
  exact He.glo_ok X G (T.c.fact 16 (f := (.glo "number_in")) rfl)
theorem Txt.g_kind_by (T : Txt K mg) : mg "kind_by" = some (.ref (ga K "kind_by")) := by
  obtain ⟨h, X, G⟩ := T.H
  exact He.glo_ok X G (T.c.fact 17 (f := (.glo "kind_by")) rfl)
theorem Txt.g_MOST (T : Txt K mg) : ∃ t, mg "MOST" = some (.int 60 t) := by
  obtain ⟨h, X, G⟩ := T.H
  exact He.int_ok X G (T.c.fact 18 (f := (.int "MOST" 60)) rfl)
theorem Txt.g_Part (T : Txt K mg) : mg "Part" = some (.ref (ga K "Part")) := by
  obtain ⟨h, X, G⟩ := T.H
  exact He.glo_ok X G (T.c.fact 19 (f := (.glo "Part")) rfl)
theorem Txt.g_Works (T : Txt K mg) : mg "Works" = some (.ref (ga K "Works")) := by
  obtain ⟨h, X, G⟩ := T.H
  exact He.glo_ok X G (T.c.fact 20 (f := (.glo "Works")) rfl)
theorem Txt.g_good_name (T : Txt K mg) : mg "good_name" = some (.ref (ga K "good_name")) := by
  obtain ⟨h, X, G⟩ := T.H
  exact He.glo_ok X G (T.c.fact 21 (f := (.glo "good_name")) rfl)
theorem Txt.g_feed_of (T : Txt K mg) : mg "feed_of" = some (.ref (ga K "feed_of")) := by
  obtain ⟨h, X, G⟩ := T.H
  exact He.glo_ok X G (T.c.fact 22 (f := (.glo "feed_of")) rfl)
theorem Txt.g_part_of (T : Txt K mg) : mg "part_of" = some (.ref (ga K "part_of")) := by
  obtain ⟨h, X, G⟩ := T.H
  exact He.glo_ok X G (T.c.fact 23 (f := (.glo "part_of")) rfl)
theorem Txt.g_settled (T : Txt K mg) : mg "settled" = some (.ref (ga K "settled")) := by
  obtain ⟨h, X, G⟩ := T.H
  exact He.glo_ok X G (T.c.fact 24 (f := (.glo "settled")) rfl)
theorem Txt.g_read (T : Txt K mg) : mg "read" = some (.ref (ga K "read")) := by
  obtain ⟨h, X, G⟩ := T.H
  exact He.glo_ok X G (T.c.fact 25 (f := (.glo "read")) rfl)
theorem Txt.g_best_feed (T : Txt K mg) : mg "best_feed" = some (.ref (ga K "best_feed")) := by
  obtain ⟨h, X, G⟩ := T.H
  exact He.glo_ok X G (T.c.fact 26 (f := (.glo "best_feed")) rfl)
theorem Txt.g_arrivals (T : Txt K mg) : mg "arrivals" = some (.ref (ga K "arrivals")) := by
  obtain ⟨h, X, G⟩ := T.H
  exact He.glo_ok X G (T.c.fact 27 (f := (.glo "arrivals")) rfl)
theorem Txt.g_beat (T : Txt K mg) : mg "beat" = some (.ref (ga K "beat")) := by
  obtain ⟨h, X, G⟩ := T.H
  exact He.glo_ok X G (T.c.fact 28 (f := (.glo "beat")) rfl)
theorem Txt.g_longest (T : Txt K mg) : mg "longest" = some (.ref (ga K "longest")) := by
  obtain ⟨h, X, G⟩ := T.H
  exact He.glo_ok X G (T.c.fact 29 (f := (.glo "longest")) rfl)
theorem Txt.g_law_cell_at (T : Txt K mg) : mg "_law_cell_at" = some (.ref (ga K "_law_cell_at")) := by
  obtain ⟨h, X, G⟩ := T.H
  exact He.glo_ok X G (T.c.fact 30 (f := (.glo "_law_cell_at")) rfl)
theorem Txt.g_law_draw (T : Txt K mg) : mg "_law_draw" = some (.ref (ga K "_law_draw")) := by
  obtain ⟨h, X, G⟩ := T.H
  exact He.glo_ok X G (T.c.fact 31 (f := (.glo "_law_draw")) rfl)
theorem Txt.g_law_asks (T : Txt K mg) : mg "_law_asks" = some (.ref (ga K "_law_asks")) := by
  obtain ⟨h, X, G⟩ := T.H
  exact He.glo_ok X G (T.c.fact 32 (f := (.glo "_law_asks")) rfl)
theorem Txt.g_law_name (T : Txt K mg) : mg "_law_name" = some (.ref (ga K "_law_name")) := by
  obtain ⟨h, X, G⟩ := T.H
  exact He.glo_ok X G (T.c.fact 33 (f := (.glo "_law_name")) rfl)
theorem Txt.g_law_word (T : Txt K mg) : mg "_law_word" = some (.ref (ga K "_law_word")) := by
  obtain ⟨h, X, G⟩ := T.H
  exact He.glo_ok X G (T.c.fact 34 (f := (.glo "_law_word")) rfl)
theorem Txt.g_law_works (T : Txt K mg) : mg "_law_works" = some (.ref (ga K "_law_works")) := by
  obtain ⟨h, X, G⟩ := T.H
  exact He.glo_ok X G (T.c.fact 35 (f := (.glo "_law_works")) rfl)
theorem Txt.g_law_text (T : Txt K mg) : mg "_law_text" = some (.ref (ga K "_law_text")) := by
  obtain ⟨h, X, G⟩ := T.H
  exact He.glo_ok X G (T.c.fact 36 (f := (.glo "_law_text")) rfl)
theorem Txt.g_law_timed (T : Txt K mg) : mg "_law_timed" = some (.ref (ga K "_law_timed")) := by
  obtain ⟨h, X, G⟩ := T.H
  exact He.glo_ok X G (T.c.fact 37 (f := (.glo "_law_timed")) rfl)
theorem Txt.g_law (T : Txt K mg) : mg "law" = some (.ref (ga K "law")) := by
  obtain ⟨h, X, G⟩ := T.H
  exact He.glo_ok X G (T.c.fact 38 (f := (.glo "law")) rfl)
theorem Txt.f_str (T : Txt K mg) : mg "str" = none := by
  obtain ⟨h, X, G⟩ := T.H
  exact He.free_ok X G (T.c.fact 39 (f := (.free "str")) rfl)
theorem Txt.f_int (T : Txt K mg) : mg "int" = none := by
  obtain ⟨h, X, G⟩ := T.H
  exact He.free_ok X G (T.c.fact 40 (f := (.free "int")) rfl)
theorem Txt.f_len (T : Txt K mg) : mg "len" = none := by
  obtain ⟨h, X, G⟩ := T.H
  exact He.free_ok X G (T.c.fact 41 (f := (.free "len")) rfl)
theorem Txt.f_enumerate (T : Txt K mg) : mg "enumerate" = none := by
  obtain ⟨h, X, G⟩ := T.H
  exact He.free_ok X G (T.c.fact 42 (f := (.free "enumerate")) rfl)
theorem Txt.f_zip (T : Txt K mg) : mg "zip" = none := by
  obtain ⟨h, X, G⟩ := T.H
  exact He.free_ok X G (T.c.fact 43 (f := (.free "zip")) rfl)
theorem Txt.f_max (T : Txt K mg) : mg "max" = none := by
  obtain ⟨h, X, G⟩ := T.H
  exact He.free_ok X G (T.c.fact 44 (f := (.free "max")) rfl)
theorem Txt.f_range (T : Txt K mg) : mg "range" = none := by
  obtain ⟨h, X, G⟩ := T.H
  exact He.free_ok X G (T.c.fact 45 (f := (.free "range")) rfl)
theorem Txt.f_isinstance (T : Txt K mg) : mg "isinstance" = none := by
  obtain ⟨h, X, G⟩ := T.H
  exact He.free_ok X G (T.c.fact 46 (f := (.free "isinstance")) rfl)
theorem Txt.f_dict (T : Txt K mg) : mg "dict" = none := by
  obtain ⟨h, X, G⟩ := T.H
  exact He.free_ok X G (T.c.fact 47 (f := (.free "dict")) rfl)
theorem Txt.f_bool (T : Txt K mg) : mg "bool" = none := by
  obtain ⟨h, X, G⟩ := T.H
  exact He.free_ok X G (T.c.fact 48 (f := (.free "bool")) rfl)
theorem Txt.f_list (T : Txt K mg) : mg "list" = none := by
  obtain ⟨h, X, G⟩ := T.H
  exact He.free_ok X G (T.c.fact 49 (f := (.free "list")) rfl)
theorem Txt.kp_WorksError (T : Txt K mg) : PySem.W.keepIn K (.ref (ga K "WorksError")) = true := He.keep_ok (T.c.fact 50 (f := (.keep "WorksError")) rfl)
theorem Txt.kp_BadRow (T : Txt K mg) : PySem.W.keepIn K (.ref (ga K "BadRow")) = true := He.keep_ok (T.c.fact 51 (f := (.keep "BadRow")) rfl)
theorem Txt.kp_NoPart (T : Txt K mg) : PySem.W.keepIn K (.ref (ga K "NoPart")) = true := He.keep_ok (T.c.fact 52 (f := (.keep "NoPart")) rfl)
theorem Txt.kp_TooMany (T : Txt K mg) : PySem.W.keepIn K (.ref (ga K "TooMany")) = true := He.keep_ok (T.c.fact 53 (f := (.keep "TooMany")) rfl)
theorem Txt.kp_Ring (T : Txt K mg) : PySem.W.keepIn K (.ref (ga K "Ring")) = true := He.keep_ok (T.c.fact 54 (f := (.keep "Ring")) rfl)
theorem Txt.c_Kind (T : Txt K mg) : Cls K (ga K "Kind") := He.cls_ok (T.c.fact 55 (f := (.cls "Kind")) rfl)
theorem Txt.m_Kind_lines (T : Txt K mg) : Meth K (ga K "Kind") "lines" (ma K (ga K "Kind") "lines") := He.meth_ok (T.c.fact 56 (f := (.meth "Kind" "lines")) rfl)
theorem Txt.m_Kind_joined (T : Txt K mg) : Meth K (ga K "Kind") "joined" (ma K (ga K "Kind") "joined") := He.meth_ok (T.c.fact 57 (f := (.meth "Kind" "joined")) rfl)
theorem Txt.m_Kind_word (T : Txt K mg) : Meth K (ga K "Kind") "word" (ma K (ga K "Kind") "word") := He.meth_ok (T.c.fact 58 (f := (.meth "Kind" "word")) rfl)
theorem Txt.m_Kind_made (T : Txt K mg) : Meth K (ga K "Kind") "made" (ma K (ga K "Kind") "made") := He.meth_ok (T.c.fact 59 (f := (.meth "Kind" "made")) rfl)
theorem Txt.c_Source (T : Txt K mg) : Cls K (ga K "Source") := He.cls_ok (T.c.fact 60 (f := (.cls "Source")) rfl)
theorem Txt.m_Source_lines (T : Txt K mg) : Meth K (ga K "Source") "lines" (ma K (ga K "Source") "lines") := He.meth_ok (T.c.fact 61 (f := (.meth "Source" "lines")) rfl)
theorem Txt.m_Source_word (T : Txt K mg) : Meth K (ga K "Source") "word" (ma K (ga K "Source") "word") := He.meth_ok (T.c.fact 62 (f := (.meth "Source" "word")) rfl)
theorem Txt.m_Source_joined (T : Txt K mg) : Meth K (ga K "Source") "joined" (ma K (ga K "Source") "joined") := He.meth_ok (T.c.fact 63 (f := (.meth "Source" "joined")) rfl)
theorem Txt.m_Source_made (T : Txt K mg) : Meth K (ga K "Source") "made" (ma K (ga K "Source") "made") := He.meth_ok (T.c.fact 64 (f := (.meth "Source" "made")) rfl)
theorem Txt.c_Sink (T : Txt K mg) : Cls K (ga K "Sink") := He.cls_ok (T.c.fact 65 (f := (.cls "Sink")) rfl)
theorem Txt.m_Sink_lines (T : Txt K mg) : Meth K (ga K "Sink") "lines" (ma K (ga K "Sink") "lines") := He.meth_ok (T.c.fact 66 (f := (.meth "Sink" "lines")) rfl)
theorem Txt.m_Sink_joined (T : Txt K mg) : Meth K (ga K "Sink") "joined" (ma K (ga K "Sink") "joined") := He.meth_ok (T.c.fact 67 (f := (.meth "Sink" "joined")) rfl)
theorem Txt.m_Sink_word (T : Txt K mg) : Meth K (ga K "Sink") "word" (ma K (ga K "Sink") "word") := He.meth_ok (T.c.fact 68 (f := (.meth "Sink" "word")) rfl)
theorem Txt.m_Sink_made (T : Txt K mg) : Meth K (ga K "Sink") "made" (ma K (ga K "Sink") "made") := He.meth_ok (T.c.fact 69 (f := (.meth "Sink" "made")) rfl)
theorem Txt.c_Both (T : Txt K mg) : Cls K (ga K "Both") := He.cls_ok (T.c.fact 70 (f := (.cls "Both")) rfl)
theorem Txt.m_Both_joined (T : Txt K mg) : Meth K (ga K "Both") "joined" (ma K (ga K "Both") "joined") := He.meth_ok (T.c.fact 71 (f := (.meth "Both" "joined")) rfl)
theorem Txt.m_Both_word (T : Txt K mg) : Meth K (ga K "Both") "word" (ma K (ga K "Both") "word") := He.meth_ok (T.c.fact 72 (f := (.meth "Both" "word")) rfl)
theorem Txt.m_Both_lines (T : Txt K mg) : Meth K (ga K "Both") "lines" (ma K (ga K "Both") "lines") := He.meth_ok (T.c.fact 73 (f := (.meth "Both" "lines")) rfl)
theorem Txt.m_Both_made (T : Txt K mg) : Meth K (ga K "Both") "made" (ma K (ga K "Both") "made") := He.meth_ok (T.c.fact 74 (f := (.meth "Both" "made")) rfl)
theorem Txt.c_Either (T : Txt K mg) : Cls K (ga K "Either") := He.cls_ok (T.c.fact 75 (f := (.cls "Either")) rfl)
theorem Txt.m_Either_joined (T : Txt K mg) : Meth K (ga K "Either") "joined" (ma K (ga K "Either") "joined") := He.meth_ok (T.c.fact 76 (f := (.meth "Either" "joined")) rfl)
theorem Txt.m_Either_word (T : Txt K mg) : Meth K (ga K "Either") "word" (ma K (ga K "Either") "word") := He.meth_ok (T.c.fact 77 (f := (.meth "Either" "word")) rfl)
theorem Txt.m_Either_lines (T : Txt K mg) : Meth K (ga K "Either") "lines" (ma K (ga K "Either") "lines") := He.meth_ok (T.c.fact 78 (f := (.meth "Either" "lines")) rfl)
theorem Txt.m_Either_made (T : Txt K mg) : Meth K (ga K "Either") "made" (ma K (ga K "Either") "made") := He.meth_ok (T.c.fact 79 (f := (.meth "Either" "made")) rfl)
theorem Txt.c_Odd (T : Txt K mg) : Cls K (ga K "Odd") := He.cls_ok (T.c.fact 80 (f := (.cls "Odd")) rfl)
theorem Txt.m_Odd_joined (T : Txt K mg) : Meth K (ga K "Odd") "joined" (ma K (ga K "Odd") "joined") := He.meth_ok (T.c.fact 81 (f := (.meth "Odd" "joined")) rfl)
theorem Txt.m_Odd_word (T : Txt K mg) : Meth K (ga K "Odd") "word" (ma K (ga K "Odd") "word") := He.meth_ok (T.c.fact 82 (f := (.meth "Odd" "word")) rfl)
theorem Txt.m_Odd_lines (T : Txt K mg) : Meth K (ga K "Odd") "lines" (ma K (ga K "Odd") "lines") := He.meth_ok (T.c.fact 83 (f := (.meth "Odd" "lines")) rfl)
theorem Txt.m_Odd_made (T : Txt K mg) : Meth K (ga K "Odd") "made" (ma K (ga K "Odd") "made") := He.meth_ok (T.c.fact 84 (f := (.meth "Odd" "made")) rfl)
theorem Txt.c_Plus (T : Txt K mg) : Cls K (ga K "Plus") := He.cls_ok (T.c.fact 85 (f := (.cls "Plus")) rfl)
theorem Txt.m_Plus_joined (T : Txt K mg) : Meth K (ga K "Plus") "joined" (ma K (ga K "Plus") "joined") := He.meth_ok (T.c.fact 86 (f := (.meth "Plus" "joined")) rfl)
theorem Txt.m_Plus_word (T : Txt K mg) : Meth K (ga K "Plus") "word" (ma K (ga K "Plus") "word") := He.meth_ok (T.c.fact 87 (f := (.meth "Plus" "word")) rfl)
theorem Txt.m_Plus_lines (T : Txt K mg) : Meth K (ga K "Plus") "lines" (ma K (ga K "Plus") "lines") := He.meth_ok (T.c.fact 88 (f := (.meth "Plus" "lines")) rfl)
theorem Txt.m_Plus_made (T : Txt K mg) : Meth K (ga K "Plus") "made" (ma K (ga K "Plus") "made") := He.meth_ok (T.c.fact 89 (f := (.meth "Plus" "made")) rfl)
theorem Txt.c_Pick (T : Txt K mg) : Cls K (ga K "Pick") := He.cls_ok (T.c.fact 90 (f := (.cls "Pick")) rfl)
theorem Txt.m_Pick_lines (T : Txt K mg) : Meth K (ga K "Pick") "lines" (ma K (ga K "Pick") "lines") := He.meth_ok (T.c.fact 91 (f := (.meth "Pick" "lines")) rfl)
theorem Txt.m_Pick_joined (T : Txt K mg) : Meth K (ga K "Pick") "joined" (ma K (ga K "Pick") "joined") := He.meth_ok (T.c.fact 92 (f := (.meth "Pick" "joined")) rfl)
theorem Txt.m_Pick_word (T : Txt K mg) : Meth K (ga K "Pick") "word" (ma K (ga K "Pick") "word") := He.meth_ok (T.c.fact 93 (f := (.meth "Pick" "word")) rfl)
theorem Txt.m_Pick_made (T : Txt K mg) : Meth K (ga K "Pick") "made" (ma K (ga K "Pick") "made") := He.meth_ok (T.c.fact 94 (f := (.meth "Pick" "made")) rfl)
theorem Txt.c_Up (T : Txt K mg) : Cls K (ga K "Up") := He.cls_ok (T.c.fact 95 (f := (.cls "Up")) rfl)
theorem Txt.n_Up_count (T : Txt K mg) : NoAttr K (ga K "Up") "count" := He.noat_ok (T.c.fact 96 (f := (.noat "Up" "count")) rfl)
theorem Txt.mk_Up (T : Txt K mg) : Mk K (ga K "Up") (ma K (ga K "Up") "__init__") := He.mkr_ok (T.c.fact 97 (f := (.mkr "Up")) rfl)
theorem Txt.m_Up_lines (T : Txt K mg) : Meth K (ga K "Up") "lines" (ma K (ga K "Up") "lines") := He.meth_ok (T.c.fact 98 (f := (.meth "Up" "lines")) rfl)
theorem Txt.m_Up_joined (T : Txt K mg) : Meth K (ga K "Up") "joined" (ma K (ga K "Up") "joined") := He.meth_ok (T.c.fact 99 (f := (.meth "Up" "joined")) rfl)
theorem Txt.m_Up_word (T : Txt K mg) : Meth K (ga K "Up") "word" (ma K (ga K "Up") "word") := He.meth_ok (T.c.fact 100 (f := (.meth "Up" "word")) rfl)
theorem Txt.m_Up_made (T : Txt K mg) : Meth K (ga K "Up") "made" (ma K (ga K "Up") "made") := He.meth_ok (T.c.fact 101 (f := (.meth "Up" "made")) rfl)
theorem Txt.c_Down (T : Txt K mg) : Cls K (ga K "Down") := He.cls_ok (T.c.fact 102 (f := (.cls "Down")) rfl)
theorem Txt.n_Down_count (T : Txt K mg) : NoAttr K (ga K "Down") "count" := He.noat_ok (T.c.fact 103 (f := (.noat "Down" "count")) rfl)
theorem Txt.mk_Down (T : Txt K mg) : Mk K (ga K "Down") (ma K (ga K "Down") "__init__") := He.mkr_ok (T.c.fact 104 (f := (.mkr "Down")) rfl)
theorem Txt.m_Down_lines (T : Txt K mg) : Meth K (ga K "Down") "lines" (ma K (ga K "Down") "lines") := He.meth_ok (T.c.fact 105 (f := (.meth "Down" "lines")) rfl)
theorem Txt.m_Down_joined (T : Txt K mg) : Meth K (ga K "Down") "joined" (ma K (ga K "Down") "joined") := He.meth_ok (T.c.fact 106 (f := (.meth "Down" "joined")) rfl)
theorem Txt.m_Down_word (T : Txt K mg) : Meth K (ga K "Down") "word" (ma K (ga K "Down") "word") := He.meth_ok (T.c.fact 107 (f := (.meth "Down" "word")) rfl)
theorem Txt.m_Down_made (T : Txt K mg) : Meth K (ga K "Down") "made" (ma K (ga K "Down") "made") := He.meth_ok (T.c.fact 108 (f := (.meth "Down" "made")) rfl)
theorem Txt.c_Part (T : Txt K mg) : Cls K (ga K "Part") := He.cls_ok (T.c.fact 109 (f := (.cls "Part")) rfl)
theorem Txt.n_Part_called (T : Txt K mg) : NoAttr K (ga K "Part") "called" := He.noat_ok (T.c.fact 110 (f := (.noat "Part" "called")) rfl)
theorem Txt.n_Part_craft (T : Txt K mg) : NoAttr K (ga K "Part") "craft" := He.noat_ok (T.c.fact 111 (f := (.noat "Part" "craft")) rfl)
theorem Txt.n_Part_takes (T : Txt K mg) : NoAttr K (ga K "Part") "takes" := He.noat_ok (T.c.fact 112 (f := (.noat "Part" "takes")) rfl)
theorem Txt.n_Part_feeds (T : Txt K mg) : NoAttr K (ga K "Part") "feeds" := He.noat_ok (T.c.fact 113 (f := (.noat "Part" "feeds")) rfl)
theorem Txt.mk_Part (T : Txt K mg) : Mk K (ga K "Part") (ma K (ga K "Part") "__init__") := He.mkr_ok (T.c.fact 114 (f := (.mkr "Part")) rfl)
theorem Txt.m_Part_end (T : Txt K mg) : Meth K (ga K "Part") "end" (ma K (ga K "Part") "end") := He.meth_ok (T.c.fact 115 (f := (.meth "Part" "end")) rfl)
theorem Txt.c_Works (T : Txt K mg) : Cls K (ga K "Works") := He.cls_ok (T.c.fact 116 (f := (.cls "Works")) rfl)
theorem Txt.n_Works_parts (T : Txt K mg) : NoAttr K (ga K "Works") "parts" := He.noat_ok (T.c.fact 117 (f := (.noat "Works" "parts")) rfl)
theorem Txt.mk_Works (T : Txt K mg) : Mk K (ga K "Works") (ma K (ga K "Works") "__init__") := He.mkr_ok (T.c.fact 118 (f := (.mkr "Works")) rfl)
theorem Txt.m_Works_names (T : Txt K mg) : Meth K (ga K "Works") "names" (ma K (ga K "Works") "names") := He.meth_ok (T.c.fact 119 (f := (.meth "Works" "names")) rfl)
theorem Txt.m_Works_part (T : Txt K mg) : Meth K (ga K "Works") "part" (ma K (ga K "Works") "part") := He.meth_ok (T.c.fact 120 (f := (.meth "Works" "part")) rfl)
theorem Txt.m_Works_kind (T : Txt K mg) : Meth K (ga K "Works") "kind" (ma K (ga K "Works") "kind") := He.meth_ok (T.c.fact 121 (f := (.meth "Works" "kind")) rfl)
theorem Txt.m_Works_time (T : Txt K mg) : Meth K (ga K "Works") "time" (ma K (ga K "Works") "time") := He.meth_ok (T.c.fact 122 (f := (.meth "Works" "time")) rfl)
theorem Txt.m_Works_lines (T : Txt K mg) : Meth K (ga K "Works") "lines" (ma K (ga K "Works") "lines") := He.meth_ok (T.c.fact 123 (f := (.meth "Works" "lines")) rfl)
theorem Txt.m_Works_stored (T : Txt K mg) : Meth K (ga K "Works") "stored" (ma K (ga K "Works") "stored") := He.meth_ok (T.c.fact 124 (f := (.meth "Works" "stored")) rfl)
theorem Txt.mo_Kind (T : Txt K mg) : MkO K (ga K "Kind") := moB_ok (exs_at T.ex 0 (f := (moB "Kind")) rfl)
theorem Txt.mo_Source (T : Txt K mg) : MkO K (ga K "Source") := moB_ok (exs_at T.ex 1 (f := (moB "Source")) rfl)
theorem Txt.mo_Sink (T : Txt K mg) : MkO K (ga K "Sink") := moB_ok (exs_at T.ex 2 (f := (moB "Sink")) rfl)
theorem Txt.mo_Both (T : Txt K mg) : MkO K (ga K "Both") := moB_ok (exs_at T.ex 3 (f := (moB "Both")) rfl)
theorem Txt.mo_Either (T : Txt K mg) : MkO K (ga K "Either") := moB_ok (exs_at T.ex 4 (f := (moB "Either")) rfl)
theorem Txt.mo_Odd (T : Txt K mg) : MkO K (ga K "Odd") := moB_ok (exs_at T.ex 5 (f := (moB "Odd")) rfl)
theorem Txt.mo_Plus (T : Txt K mg) : MkO K (ga K "Plus") := moB_ok (exs_at T.ex 6 (f := (moB "Plus")) rfl)
theorem Txt.mo_Pick (T : Txt K mg) : MkO K (ga K "Pick") := moB_ok (exs_at T.ex 7 (f := (moB "Pick")) rfl)
theorem Txt.F_wall (T : Txt K mg) : ∃ fd, FunD K "_wall" "_wall" (defArgs s_wall) (defBody s_wall) (defScope s_wall) [] [] (fAd K ("_wall", none)) fd := T.c.def_ 0 (d := d_wall) rfl
theorem Txt.F_BadRow_init (T : Txt K mg) : ∃ fd, FunD K "__init__" "BadRow.__init__" (defArgs s_BadRow_init) (defBody s_BadRow_init) (defScope s_BadRow_init) [] [] (fAd K ("BadRow", some "__init__")) fd := T.c.def_ 1 (d := d_BadRow_init) rfl
theorem Txt.F_NoPart_init (T : Txt K mg) : ∃ fd, FunD K "__init__" "NoPart.__init__" (defArgs s_NoPart_init) (defBody s_NoPart_init) (defScope s_NoPart_init) [] [] (fAd K ("NoPart", some "__init__")) fd := T.c.def_ 2 (d := d_NoPart_init) rfl
theorem Txt.F_Kind_lines (T : Txt K mg) : ∃ fd, FunD K "lines" "Kind.lines" (defArgs s_Kind_lines) (defBody s_Kind_lines) (defScope s_Kind_lines) [] [] (fAd K ("Kind", some "lines")) fd := T.c.def_ 3 (d := d_Kind_lines) rfl
theorem Txt.F_Kind_joined (T : Txt K mg) : ∃ fd, FunD K "joined" "Kind.joined" (defArgs s_Kind_joined) (defBody s_Kind_joined) (defScope s_Kind_joined) [] [] (fAd K ("Kind", some "joined")) fd := T.c.def_ 4 (d := d_Kind_joined) rfl
theorem Txt.F_Kind_word (T : Txt K mg) : ∃ fd, FunD K "word" "Kind.word" (defArgs s_Kind_word) (defBody s_Kind_word) (defScope s_Kind_word) [] [] (fAd K ("Kind", some "word")) fd := T.c.def_ 5 (d := d_Kind_word) rfl
theorem Txt.F_Kind_made (T : Txt K mg) : ∃ fd, FunD K "made" "Kind.made" (defArgs s_Kind_made) (defBody s_Kind_made) (defScope s_Kind_made) [] [] (fAd K ("Kind", some "made")) fd := T.c.def_ 6 (d := d_Kind_made) rfl
theorem Txt.F_Source_lines (T : Txt K mg) : ∃ fd, FunD K "lines" "Source.lines" (defArgs s_Source_lines) (defBody s_Source_lines) (defScope s_Source_lines) [] [] (fAd K ("Source", some "lines")) fd := T.c.def_ 7 (d := d_Source_lines) rfl
theorem Txt.F_Source_word (T : Txt K mg) : ∃ fd, FunD K "word" "Source.word" (defArgs s_Source_word) (defBody s_Source_word) (defScope s_Source_word) [] [] (fAd K ("Source", some "word")) fd := T.c.def_ 8 (d := d_Source_word) rfl
theorem Txt.F_Sink_lines (T : Txt K mg) : ∃ fd, FunD K "lines" "Sink.lines" (defArgs s_Sink_lines) (defBody s_Sink_lines) (defScope s_Sink_lines) [] [] (fAd K ("Sink", some "lines")) fd := T.c.def_ 9 (d := d_Sink_lines) rfl
theorem Txt.F_Sink_joined (T : Txt K mg) : ∃ fd, FunD K "joined" "Sink.joined" (defArgs s_Sink_joined) (defBody s_Sink_joined) (defScope s_Sink_joined) [] [] (fAd K ("Sink", some "joined")) fd := T.c.def_ 10 (d := d_Sink_joined) rfl
theorem Txt.F_Sink_word (T : Txt K mg) : ∃ fd, FunD K "word" "Sink.word" (defArgs s_Sink_word) (defBody s_Sink_word) (defScope s_Sink_word) [] [] (fAd K ("Sink", some "word")) fd := T.c.def_ 11 (d := d_Sink_word) rfl
theorem Txt.F_Both_joined (T : Txt K mg) : ∃ fd, FunD K "joined" "Both.joined" (defArgs s_Both_joined) (defBody s_Both_joined) (defScope s_Both_joined) [] [] (fAd K ("Both", some "joined")) fd := T.c.def_ 12 (d := d_Both_joined) rfl
theorem Txt.F_Both_word (T : Txt K mg) : ∃ fd, FunD K "word" "Both.word" (defArgs s_Both_word) (defBody s_Both_word) (defScope s_Both_word) [] [] (fAd K ("Both", some "word")) fd := T.c.def_ 13 (d := d_Both_word) rfl
theorem Txt.F_Either_joined (T : Txt K mg) : ∃ fd, FunD K "joined" "Either.joined" (defArgs s_Either_joined) (defBody s_Either_joined) (defScope s_Either_joined) [] [] (fAd K ("Either", some "joined")) fd := T.c.def_ 14 (d := d_Either_joined) rfl
theorem Txt.F_Either_word (T : Txt K mg) : ∃ fd, FunD K "word" "Either.word" (defArgs s_Either_word) (defBody s_Either_word) (defScope s_Either_word) [] [] (fAd K ("Either", some "word")) fd := T.c.def_ 15 (d := d_Either_word) rfl
theorem Txt.F_Odd_joined (T : Txt K mg) : ∃ fd, FunD K "joined" "Odd.joined" (defArgs s_Odd_joined) (defBody s_Odd_joined) (defScope s_Odd_joined) [] [] (fAd K ("Odd", some "joined")) fd := T.c.def_ 16 (d := d_Odd_joined) rfl
theorem Txt.F_Odd_word (T : Txt K mg) : ∃ fd, FunD K "word" "Odd.word" (defArgs s_Odd_word) (defBody s_Odd_word) (defScope s_Odd_word) [] [] (fAd K ("Odd", some "word")) fd := T.c.def_ 17 (d := d_Odd_word) rfl
theorem Txt.F_Plus_joined (T : Txt K mg) : ∃ fd, FunD K "joined" "Plus.joined" (defArgs s_Plus_joined) (defBody s_Plus_joined) (defScope s_Plus_joined) [] [] (fAd K ("Plus", some "joined")) fd := T.c.def_ 18 (d := d_Plus_joined) rfl
theorem Txt.F_Plus_word (T : Txt K mg) : ∃ fd, FunD K "word" "Plus.word" (defArgs s_Plus_word) (defBody s_Plus_word) (defScope s_Plus_word) [] [] (fAd K ("Plus", some "word")) fd := T.c.def_ 19 (d := d_Plus_word) rfl
theorem Txt.F_Pick_lines (T : Txt K mg) : ∃ fd, FunD K "lines" "Pick.lines" (defArgs s_Pick_lines) (defBody s_Pick_lines) (defScope s_Pick_lines) [] [] (fAd K ("Pick", some "lines")) fd := T.c.def_ 20 (d := d_Pick_lines) rfl
theorem Txt.F_Pick_joined (T : Txt K mg) : ∃ fd, FunD K "joined" "Pick.joined" (defArgs s_Pick_joined) (defBody s_Pick_joined) (defScope s_Pick_joined) [] [] (fAd K ("Pick", some "joined")) fd := T.c.def_ 21 (d := d_Pick_joined) rfl
theorem Txt.F_Pick_word (T : Txt K mg) : ∃ fd, FunD K "word" "Pick.word" (defArgs s_Pick_word) (defBody s_Pick_word) (defScope s_Pick_word) [] [] (fAd K ("Pick", some "word")) fd := T.c.def_ 22 (d := d_Pick_word) rfl
theorem Txt.F_Up_init (T : Txt K mg) : ∃ fd, FunD K "__init__" "Up.__init__" (defArgs s_Up_init) (defBody s_Up_init) (defScope s_Up_init) [] [] (fAd K ("Up", some "__init__")) fd := T.c.def_ 23 (d := d_Up_init) rfl
theorem Txt.F_Up_lines (T : Txt K mg) : ∃ fd, FunD K "lines" "Up.lines" (defArgs s_Up_lines) (defBody s_Up_lines) (defScope s_Up_lines) [] [] (fAd K ("Up", some "lines")) fd := T.c.def_ 24 (d := d_Up_lines) rfl
theorem Txt.F_Up_joined (T : Txt K mg) : ∃ fd, FunD K "joined" "Up.joined" (defArgs s_Up_joined) (defBody s_Up_joined) (defScope s_Up_joined) [] [] (fAd K ("Up", some "joined")) fd := T.c.def_ 25 (d := d_Up_joined) rfl
theorem Txt.F_Up_word (T : Txt K mg) : ∃ fd, FunD K "word" "Up.word" (defArgs s_Up_word) (defBody s_Up_word) (defScope s_Up_word) [] [] (fAd K ("Up", some "word")) fd := T.c.def_ 26 (d := d_Up_word) rfl
theorem Txt.F_Down_init (T : Txt K mg) : ∃ fd, FunD K "__init__" "Down.__init__" (defArgs s_Down_init) (defBody s_Down_init) (defScope s_Down_init) [] [] (fAd K ("Down", some "__init__")) fd := T.c.def_ 27 (d := d_Down_init) rfl
theorem Txt.F_Down_lines (T : Txt K mg) : ∃ fd, FunD K "lines" "Down.lines" (defArgs s_Down_lines) (defBody s_Down_lines) (defScope s_Down_lines) [] [] (fAd K ("Down", some "lines")) fd := T.c.def_ 28 (d := d_Down_lines) rfl
theorem Txt.F_Down_joined (T : Txt K mg) : ∃ fd, FunD K "joined" "Down.joined" (defArgs s_Down_joined) (defBody s_Down_joined) (defScope s_Down_joined) [] [] (fAd K ("Down", some "joined")) fd := T.c.def_ 29 (d := d_Down_joined) rfl
theorem Txt.F_Down_word (T : Txt K mg) : ∃ fd, FunD K "word" "Down.word" (defArgs s_Down_word) (defBody s_Down_word) (defScope s_Down_word) [] [] (fAd K ("Down", some "word")) fd := T.c.def_ 30 (d := d_Down_word) rfl
theorem Txt.F_number_in (T : Txt K mg) : ∃ fd, FunD K "number_in" "number_in" (defArgs s_number_in) (defBody s_number_in) (defScope s_number_in) [] [] (fAd K ("number_in", none)) fd := T.c.def_ 31 (d := d_number_in) rfl
theorem Txt.F_kind_by (T : Txt K mg) : ∃ fd, FunD K "kind_by" "kind_by" (defArgs s_kind_by) (defBody s_kind_by) (defScope s_kind_by) [] [] (fAd K ("kind_by", none)) fd := T.c.def_ 32 (d := d_kind_by) rfl
theorem Txt.F_Part_init (T : Txt K mg) : ∃ fd, FunD K "__init__" "Part.__init__" (defArgs s_Part_init) (defBody s_Part_init) (defScope s_Part_init) [] [] (fAd K ("Part", some "__init__")) fd := T.c.def_ 33 (d := d_Part_init) rfl
theorem Txt.F_Part_end (T : Txt K mg) : ∃ fd, FunD K "end" "Part.end" (defArgs s_Part_end) (defBody s_Part_end) (defScope s_Part_end) [] [] (fAd K ("Part", some "end")) fd := T.c.def_ 34 (d := d_Part_end) rfl
theorem Txt.F_Works_init (T : Txt K mg) : ∃ fd, FunD K "__init__" "Works.__init__" (defArgs s_Works_init) (defBody s_Works_init) (defScope s_Works_init) [] [] (fAd K ("Works", some "__init__")) fd := T.c.def_ 35 (d := d_Works_init) rfl
theorem Txt.F_Works_names (T : Txt K mg) : ∃ fd, FunD K "names" "Works.names" (defArgs s_Works_names) (defBody s_Works_names) (defScope s_Works_names) [] [] (fAd K ("Works", some "names")) fd := T.c.def_ 36 (d := d_Works_names) rfl
theorem Txt.F_Works_part (T : Txt K mg) : ∃ fd, FunD K "part" "Works.part" (defArgs s_Works_part) (defBody s_Works_part) (defScope s_Works_part) [] [] (fAd K ("Works", some "part")) fd := T.c.def_ 37 (d := d_Works_part) rfl
theorem Txt.F_Works_kind (T : Txt K mg) : ∃ fd, FunD K "kind" "Works.kind" (defArgs s_Works_kind) (defBody s_Works_kind) (defScope s_Works_kind) [] [] (fAd K ("Works", some "kind")) fd := T.c.def_ 38 (d := d_Works_kind) rfl
theorem Txt.F_Works_time (T : Txt K mg) : ∃ fd, FunD K "time" "Works.time" (defArgs s_Works_time) (defBody s_Works_time) (defScope s_Works_time) [] [] (fAd K ("Works", some "time")) fd := T.c.def_ 39 (d := d_Works_time) rfl
theorem Txt.F_Works_lines (T : Txt K mg) : ∃ fd, FunD K "lines" "Works.lines" (defArgs s_Works_lines) (defBody s_Works_lines) (defScope s_Works_lines) [] [] (fAd K ("Works", some "lines")) fd := T.c.def_ 40 (d := d_Works_lines) rfl
theorem Txt.F_Works_stored (T : Txt K mg) : ∃ fd, FunD K "stored" "Works.stored" (defArgs s_Works_stored) (defBody s_Works_stored) (defScope s_Works_stored) [] [] (fAd K ("Works", some "stored")) fd := T.c.def_ 41 (d := d_Works_stored) rfl
theorem Txt.F_good_name (T : Txt K mg) : ∃ fd, FunD K "good_name" "good_name" (defArgs s_good_name) (defBody s_good_name) (defScope s_good_name) [] [] (fAd K ("good_name", none)) fd := T.c.def_ 42 (d := d_good_name) rfl
theorem Txt.F_feed_of (T : Txt K mg) : ∃ fd, FunD K "feed_of" "feed_of" (defArgs s_feed_of) (defBody s_feed_of) (defScope s_feed_of) [] [] (fAd K ("feed_of", none)) fd := T.c.def_ 43 (d := d_feed_of) rfl
theorem Txt.F_part_of (T : Txt K mg) : ∃ fd, FunD K "part_of" "part_of" (defArgs s_part_of) (defBody s_part_of) (defScope s_part_of) [] [] (fAd K ("part_of", none)) fd := T.c.def_ 44 (d := d_part_of) rfl
theorem Txt.F_settled (T : Txt K mg) : ∃ fd, FunD K "settled" "settled" (defArgs s_settled) (defBody s_settled) (defScope s_settled) [] [] (fAd K ("settled", none)) fd := T.c.def_ 45 (d := d_settled) rfl
theorem Txt.F_read (T : Txt K mg) : ∃ fd, FunD K "read" "read" (defArgs s_read) (defBody s_read) (defScope s_read) [] [] (fAd K ("read", none)) fd := T.c.def_ 46 (d := d_read) rfl
theorem Txt.F_best_feed (T : Txt K mg) : ∃ fd, FunD K "best_feed" "best_feed" (defArgs s_best_feed) (defBody s_best_feed) (defScope s_best_feed) [] [] (fAd K ("best_feed", none)) fd := T.c.def_ 47 (d := d_best_feed) rfl
theorem Txt.F_arrivals (T : Txt K mg) : ∃ fd, FunD K "arrivals" "arrivals" (defArgs s_arrivals) (defBody s_arrivals) (defScope s_arrivals) [] [] (fAd K ("arrivals", none)) fd := T.c.def_ 48 (d := d_arrivals) rfl
theorem Txt.F_beat (T : Txt K mg) : ∃ fd, FunD K "beat" "beat" (defArgs s_beat) (defBody s_beat) (defScope s_beat) [] [] (fAd K ("beat", none)) fd := T.c.def_ 49 (d := d_beat) rfl
theorem Txt.F_longest (T : Txt K mg) : ∃ fd, FunD K "longest" "longest" (defArgs s_longest) (defBody s_longest) (defScope s_longest) [] [] (fAd K ("longest", none)) fd := T.c.def_ 50 (d := d_longest) rfl
theorem Txt.F_law_cell_at (T : Txt K mg) : ∃ fd, FunD K "_law_cell_at" "_law_cell_at" (defArgs s_law_cell_at) (defBody s_law_cell_at) (defScope s_law_cell_at) [] [] (fAd K ("_law_cell_at", none)) fd := T.c.def_ 51 (d := d_law_cell_at) rfl
theorem Txt.F_law_draw (T : Txt K mg) : ∃ fd, FunD K "_law_draw" "_law_draw" (defArgs s_law_draw) (defBody s_law_draw) (defScope s_law_draw) [] [] (fAd K ("_law_draw", none)) fd := T.c.def_ 52 (d := d_law_draw) rfl
theorem Txt.F_law_asks (T : Txt K mg) : ∃ fd, FunD K "_law_asks" "_law_asks" (defArgs s_law_asks) (defBody s_law_asks) (defScope s_law_asks) [] [] (fAd K ("_law_asks", none)) fd := T.c.def_ 53 (d := d_law_asks) rfl
theorem Txt.F_law_name (T : Txt K mg) : ∃ fd, FunD K "_law_name" "_law_name" (defArgs s_law_name) (defBody s_law_name) (defScope s_law_name) [] [] (fAd K ("_law_name", none)) fd := T.c.def_ 54 (d := d_law_name) rfl
theorem Txt.F_law_word (T : Txt K mg) : ∃ fd, FunD K "_law_word" "_law_word" (defArgs s_law_word) (defBody s_law_word) (defScope s_law_word) [] [] (fAd K ("_law_word", none)) fd := T.c.def_ 55 (d := d_law_word) rfl
theorem Txt.F_law_works (T : Txt K mg) : ∃ fd, FunD K "_law_works" "_law_works" (defArgs s_law_works) (defBody s_law_works) (defScope s_law_works) [] [] (fAd K ("_law_works", none)) fd := T.c.def_ 56 (d := d_law_works) rfl
theorem Txt.F_law_text (T : Txt K mg) : ∃ fd, FunD K "_law_text" "_law_text" (defArgs s_law_text) (defBody s_law_text) (defScope s_law_text) [] [] (fAd K ("_law_text", none)) fd := T.c.def_ 57 (d := d_law_text) rfl
theorem Txt.F_law_timed (T : Txt K mg) : ∃ fd, FunD K "_law_timed" "_law_timed" (defArgs s_law_timed) (defBody s_law_timed) (defScope s_law_timed) [] [] (fAd K ("_law_timed", none)) fd := T.c.def_ 58 (d := d_law_timed) rfl
theorem Txt.F_law (T : Txt K mg) : ∃ fd, FunD K "law" "law" (defArgs s_law) (defBody s_law) (defScope s_law) [] [] (fAd K ("law", none)) fd := T.c.def_ 59 (d := d_law) rfl
theorem Txt.F_Source_joined (T : Txt K mg) : ∃ fd, FunD K "joined" "Kind.joined" (defArgs s_Kind_joined) (defBody s_Kind_joined) (defScope s_Kind_joined) [] [] (fAd K ("Source", some "joined")) fd := T.c.def_ 60 (d := d_Source_joined) rfl
theorem Txt.F_Source_made (T : Txt K mg) : ∃ fd, FunD K "made" "Kind.made" (defArgs s_Kind_made) (defBody s_Kind_made) (defScope s_Kind_made) [] [] (fAd K ("Source", some "made")) fd := T.c.def_ 61 (d := d_Source_made) rfl
theorem Txt.F_Sink_made (T : Txt K mg) : ∃ fd, FunD K "made" "Kind.made" (defArgs s_Kind_made) (defBody s_Kind_made) (defScope s_Kind_made) [] [] (fAd K ("Sink", some "made")) fd := T.c.def_ 62 (d := d_Sink_made) rfl
theorem Txt.F_Both_lines (T : Txt K mg) : ∃ fd, FunD K "lines" "Kind.lines" (defArgs s_Kind_lines) (defBody s_Kind_lines) (defScope s_Kind_lines) [] [] (fAd K ("Both", some "lines")) fd := T.c.def_ 63 (d := d_Both_lines) rfl
theorem Txt.F_Both_made (T : Txt K mg) : ∃ fd, FunD K "made" "Kind.made" (defArgs s_Kind_made) (defBody s_Kind_made) (defScope s_Kind_made) [] [] (fAd K ("Both", some "made")) fd := T.c.def_ 64 (d := d_Both_made) rfl
theorem Txt.F_Either_lines (T : Txt K mg) : ∃ fd, FunD K "lines" "Kind.lines" (defArgs s_Kind_lines) (defBody s_Kind_lines) (defScope s_Kind_lines) [] [] (fAd K ("Either", some "lines")) fd := T.c.def_ 65 (d := d_Either_lines) rfl
theorem Txt.F_Either_made (T : Txt K mg) : ∃ fd, FunD K "made" "Kind.made" (defArgs s_Kind_made) (defBody s_Kind_made) (defScope s_Kind_made) [] [] (fAd K ("Either", some "made")) fd := T.c.def_ 66 (d := d_Either_made) rfl
theorem Txt.F_Odd_lines (T : Txt K mg) : ∃ fd, FunD K "lines" "Kind.lines" (defArgs s_Kind_lines) (defBody s_Kind_lines) (defScope s_Kind_lines) [] [] (fAd K ("Odd", some "lines")) fd := T.c.def_ 67 (d := d_Odd_lines) rfl
theorem Txt.F_Odd_made (T : Txt K mg) : ∃ fd, FunD K "made" "Kind.made" (defArgs s_Kind_made) (defBody s_Kind_made) (defScope s_Kind_made) [] [] (fAd K ("Odd", some "made")) fd := T.c.def_ 68 (d := d_Odd_made) rfl
theorem Txt.F_Plus_lines (T : Txt K mg) : ∃ fd, FunD K "lines" "Kind.lines" (defArgs s_Kind_lines) (defBody s_Kind_lines) (defScope s_Kind_lines) [] [] (fAd K ("Plus", some "lines")) fd := T.c.def_ 69 (d := d_Plus_lines) rfl
theorem Txt.F_Plus_made (T : Txt K mg) : ∃ fd, FunD K "made" "Kind.made" (defArgs s_Kind_made) (defBody s_Kind_made) (defScope s_Kind_made) [] [] (fAd K ("Plus", some "made")) fd := T.c.def_ 70 (d := d_Plus_made) rfl
theorem Txt.F_Pick_made (T : Txt K mg) : ∃ fd, FunD K "made" "Kind.made" (defArgs s_Kind_made) (defBody s_Kind_made) (defScope s_Kind_made) [] [] (fAd K ("Pick", some "made")) fd := T.c.def_ 71 (d := d_Pick_made) rfl
theorem Txt.F_Up_made (T : Txt K mg) : ∃ fd, FunD K "made" "Kind.made" (defArgs s_Kind_made) (defBody s_Kind_made) (defScope s_Kind_made) [] [] (fAd K ("Up", some "made")) fd := T.c.def_ 72 (d := d_Up_made) rfl
theorem Txt.F_Down_made (T : Txt K mg) : ∃ fd, FunD K "made" "Kind.made" (defArgs s_Kind_made) (defBody s_Kind_made) (defScope s_Kind_made) [] [] (fAd K ("Down", some "made")) fd := T.c.def_ 73 (d := d_Down_made) rfl
end
end SW
namespace SW
open PySem PySem.Spec PyProof.Rows L2 He
theorem run1 (w : World) (os : OsState) : (HandSHeadRun.endF (HandSHeadRun.stepQ (HandSHeadRun.denQ HandSHeadRun.tabQ) R.prog w) 8000 R.prog w os).map (fun s => (HandSHeadRun.looksF R.prog (PySem.W.boot_heap w.params) s.abs, HandSHeadRun.seenQ (PySem.W.view R.prog [43]) names (importedModules R.prog.main.body) (fun s => PySem.W.xlAt (PySem.W.view R.prog [43]) [] s && PySem.W.recOk R.toRowW.records s) s.abs)) = some (true, PySem.W.openGood (PySem.W.view R.prog [43]) names) := by
  kernel_rfl
theorem run2 (w : World) (os : OsState) : (HandSHeadRun.endF (HandSHeadRun.stepQ (HandSHeadRun.denQ HandSHeadRun.tabQ) R.prog w) 8000 R.prog w os).map ob = some (hk.val w) := by
  kernel_rfl
theorem run (w : World) : HandSHeadRun.RunEq R (PySem.W.view R.prog [43]) hk ob 8000 names w := run_join (run1 w) (run2 w)
end SW

/-! ### further rules -/
namespace SW
open PySem PySem.Spec PyProof.Rows L2 He TL
theorem hu0_of {A : Around} {k : Nat} (hr : Room k A) : A.units < cLine := Nat.lt_of_le_of_lt (Nat.le_add_right _ _) hr.units
/-- any list beside an empty one -/
def rEqEmp (K : PySem.W.Frag) : R2 := fun x y H Q => ∃ a b xs, x = .ref a ∧ y = .ref b ∧ SqL K H a xs ∧ SqL K H b [] ∧ Q (.bl xs.isEmpty) H
theorem op_eqEmp {X : Cx} (hu : X.A.units < cLine) : OpR X (compareOp .Eq) (rEqEmp X.K) := by
  intro pins s σ H x y v u Q I rx ry h
  obtain ⟨a, b, xs, rfl, rfl, ha, hb, q⟩ := h
  cases rx
  cases ry
  obtain ⟨its, rv, p, _⟩ := I.list ha
  obtain ⟨its2, rv2, p2, _⟩ := I.list hb
  cases rv2
  cases rv with
  | nil => exact SeqAt.eq_listAt (e := fun _ => true) p.isList p2.isList rfl hu (fun j h1 _ => absurd h1 (by simp)) ⟨.bl _, H, I, rfl, q⟩
  | cons r rr => exact SeqAt.eq_list_lengthsAt p.isList p2.isList (by simp) hu ⟨.bl _, H, I, rfl, q⟩
theorem eqEmpK {X : Cx} {K : PySem.W.Frag} (hu : X.A.units < cLine) (h : X.K = K := by rfl) : OpR X (compareOp .Eq) (rEqEmp K) := by subst h; exact op_eqEmp hu
/-- a short text some times -/
def repS (z : Str) (n : Nat) : Str := ⟨(List.replicate n z.cps).foldl (· ++ ·) #[]⟩
theorem rep_len (z : Str) (n : Nat) : tl (repS z n) = (List.replicate n (tl z)).flatten := by
  have key : ∀ (l : List (Array Nat)) (a : Array Nat), (l.foldl (· ++ ·) a).toList = a.toList ++ (l.map Array.toList).flatten := by
    intro l
    induction l with
    | nil => intro a; simp
    | cons x l ih => intro a; rw [List.foldl_cons, ih]; simp
  show ((List.replicate n z.cps).foldl (· ++ ·) #[]).toList = _
  rw [key, List.map_replicate]
  rfl
theorem op_mul_str {X : Cx} : OpR X (binaryOp .Mult) (fun x y H Q => ∃ (z : Str) (n : Nat), x = .str z ∧ y = .int (n : Int) ∧ z.length ≤ 100 ∧ n ≤ 100 ∧ Q (.str (repS z n)) H) := by
  intro pins s σ H x y v u Q I rx ry h
  obtain ⟨z, n, rfl, rfl, hz, hn, q⟩ := h
  obtain ⟨t, rfl⟩ := rx
  obtain ⟨t', rfl⟩ := ry
  have hprod : z.length * n ≤ 100 * 100 := Nat.mul_le_mul hz hn
  refine PySem.P.mul_str ?_ (fun h1 h2 => ?_) (fun h1 h2 => ?_) ?_
  · have h1 : ¬ (n : Int) < -(2 ^ 63 : Int) := by omega
    have h2 : ¬ (n : Int) ≥ 2 ^ 63 := by omega
    rw [decide_eq_false h1, decide_eq_false h2]; rfl
  · have hn1 : 0 < (n : Int) := by omega
    have h3 : (z.length : Int) ≤ (2 ^ 63 - 1) / (n : Int) := (Int.le_ediv_iff_mul_le hn1).mpr (by
      rw [← Int.natCast_mul]
      omega)
    omega
  · have h4 : (n : Int).toNat = n := rfl
    rw [h4]
    exact decide_eq_false (by have : (10000 : Nat) ≤ sizeLine := by decide
                              omega)
  · have ez : ∀ w : Str, tl w = tl (repS z n) → Q (.str w) H := fun w e => by rw [ext_tl e]; exact q
    by_cases h1 : (n : Int) < 1
    · rw [if_pos h1]
      have h0 : n = 0 := by omega
      subst h0
      exact ⟨by decide, .str Str.empty, H, I.tok _, ⟨_, rfl⟩, q⟩
    · rw [if_neg h1]
      cases h2 : ((n : Int) == 1 || z.length == 0) with
      | true =>
        rw [if_pos rfl]
        refine ⟨.str z, H, I, ⟨_, rfl⟩, ez z ?_⟩
        rw [rep_len]
        rcases (Bool.or_eq_true _ _).mp h2 with h | h
        · have h0 : n = 1 := by have := eq_of_beq h; omega
          subst h0
          simp
        · have h0 : tl z = [] := List.eq_nil_of_length_eq_zero (by rw [← len_tl]; exact eq_of_beq h)
          rw [h0]
          simp
      | false =>
        rw [if_neg (by simp)]
        have el : (repS z n).length ≤ sizeLine := by
          rw [len_tl, rep_len]
          simp only [List.length_flatten, List.map_replicate, List.sum_replicate_nat]
          rw [← len_tl, Nat.mul_comm]
          exact Nat.le_trans hprod (by decide)
        exact ⟨el, .str (repS z n), H, I.tok _, ⟨_, rfl⟩, q⟩
/-- a def with defaults; ds: what stands behind the given arguments -/
structure OkD (P : Program) (w : World) (K : PySem.W.Frag) (mg : Str → Option Value) (base : Heap) (k : Nat) (f : Addr) (ps : List Str) (sp : Sp) (ds : List V) : Prop where
  ex : ∃ (fd : FuncData) (us : List Value), FnOk P w K mg base CX0 k f fd ps sp ∧ Vals ds us ∧ Binds K fd ps us
  kp : PySem.W.keepIn K (.ref f) = true
section
variable {P : Program} {w : World} {K : PySem.W.Frag} {mg : Str → Option Value} {base : Heap} {k : Nat} {f : Addr} {ps N : List Str} {sp sp' : Sp} {x qual : Str} {params : Arguments} {body : List Stmt} {scope : Scope} {dvs ds : List V}
theorem mkOkD (F : ∃ fd, FunD K x qual params body scope dvs [] f fd) (S : FnScope N ps scope) (n j : Nat) (hd : dvs ≠ []) (hn : n + (dvs.length - j) = ps.length)
    (hb : ∀ (T : Addr) (kV doc pm : Value) (an : Option Addr) (cdv ct : Value) (us its : List Value), us.length = n → its.length = dvs.length →
      ∃ k, bindArgs (PySem.W.fnOf x qual params body scope (.ref T) kV doc pm an cdv ct) ⟨us, []⟩ = seqItems? (.ref T) >>= k ∧ k (some its.toArray) = pure (ps.zip (us ++ its.drop j)))
    (len : ∀ vs H Q E, sp vs H Q E → vs.length = ps.length)
    (hbody : ∀ (cdv : Value) (A : Around) (outer : List Env) (s : Shared) (H : Hp) (vs : List V) (Q : VK) (E : XK), Room k (A.deeper (envOfC qual scope s.heap.objs.size f cdv)) → sp vs H Q E →
      ∃ t, PSs (cxOf CX0 P w K mg base N qual scope f cdv A outer s H E).nox body t ∧ t { nx := fun _ H' => Q .non H', rt := Q } (start N vs) H) : OkD P w K mg base (k + 1) f ps sp (dvs.drop j) := by
  obtain ⟨fd, F⟩ := F
  obtain ⟨us, h1, h2⟩ := F.binds1 n j hd hn hb
  refine ⟨⟨fd, us, F.ok S len fun cdv A outer s H vs Q E hr h => ?_, h1, h2⟩, F.kp⟩
  obtain ⟨t, ht, q⟩ := hbody cdv A outer s H vs Q E hr h
  exact ⟨t, ht.nox, q⟩
end
theorem pe_callD {X : Cx} {k : Nat} {f : Addr} {ps : List Str} {sp : Sp} {x : Str} {p pos : Pos} {e : Expr} {es : List Expr} {t : TA} {ds : List V} (G : OkD X.prog X.w X.K X.mg X.base k f ps sp ds) (hr : Room k X.A) (hm : X.mg x = some (.ref f)) (ha : PA X (e :: es) t) (hg : Gl X x := by rfl)
    (hdb : (x == ("__debug__" : Str)) = false := by decide) (he : starEach (e :: es) X.env = (false, eval e X.env) :: starEach es X.env := by rfl) (hpl : (backTo pos (starEach es X.env)).any (·.1) = false := by rfl) :
    PE X (.Call (.Name x p) (e :: es) [] pos) (tCall sp ds E0 t) := by
  obtain ⟨⟨fd, us, F, v, b⟩, kp⟩ := G
  exact pe_call F hr hg hm kp b v pass0 ha hdb he hpl
theorem kitTy {K : PySem.W.Frag} {T : String} : PySem.W.kitOne K (.type T) (.type T) = some true := if_pos (beq_self_eq_true _)
theorem kitIB {K : PySem.W.Frag} : PySem.W.kitOne K (.type "int") (.type "bool") = some false := by rfl
end SW


/-! ### list != [] -/
namespace SW
open PySem PySem.Spec PyProof.Rows L2 He TL
def rNeEmp (K : PySem.W.Frag) : R2 := fun x y H Q => ∃ a b xs, x = .ref a ∧ y = .ref b ∧ SqL K H a xs ∧ SqL K H b [] ∧ Q (.bl (!xs.isEmpty)) H
theorem op_neEmp {X : Cx} (hu : X.A.units < cLine) : OpR X (compareOp .NotEq) (rNeEmp X.K) := by
  intro pins s σ H x y v u Q I rx ry h
  obtain ⟨a, b, xs, rfl, rfl, ha, hb, q⟩ := h
  cases rx
  cases ry
  obtain ⟨its, rv, p, _⟩ := I.list ha
  obtain ⟨its2, rv2, p2, _⟩ := I.list hb
  cases rv2
  cases rv with
  | nil => exact SeqAt.RcNeAt.lists (e := fun _ => true) p.isList p2.isList rfl hu (fun j h1 _ => absurd h1 (by simp)) _ _ _ _ ⟨.bl _, H, I, rfl, q⟩
  | cons r rr => exact SeqAt.RcNeAt.lists_lengths p.isList p2.isList (by simp) hu _ _ _ _ ⟨.bl _, H, I, rfl, q⟩
theorem neEmpK {X : Cx} {K : PySem.W.Frag} (hu : X.A.units < cLine) (h : X.K = K := by rfl) : OpR X (compareOp .NotEq) (rNeEmp K) := by subst h; exact op_neEmp hu
end SW


/-! ### dicts that are equal, by != -/
namespace PySem.W
open PySem PySem.Calls PyProof.Rows PyProof.V PySem.Spec
section
variable {prog : Program} {w : World} {K : Type} [DecidableEq K] {knd : KeyKind prog w K} {A : Around} {E : Value → Shared → Prop} {s : Shared}
theorem rcNe_dicts {a b : Addr} {ka kb : List (K × Value)} {r : Bool} (ha : (a == sysModules) = false) (hb : (b == sysModules) = false)
    (da : s.heap.DictOf knd a ka) (db : s.heap.DictOf knd b kb) (hu : A.units < cLine) (hits : ka.length = kb.length → KeqHitsP prog w A.in1 s kb ka r) (E Q : Value → Shared → Prop) (h : Q (.bool (!(ka.length == kb.length && r))) s) : wpAny (model prog w) A (richCompare .NotEq (.ref a) (.ref b)) Q E s := by
  refine wpAny_richCompare_same_room (op := .NotEq) da.typeIs db.typeIs PySem.F.slot_dict_ne (wpAny_call_entry PySem.F.slot_dict_ne da.typeIs PySem.F.entry_dict_ne ?_ (PySem.F.args_dict_ne_2 _ _)) hu
  show wpAny _ _ (Builtin.Dict.dictSlotArgs "__ne__" ⟨[.ref a, .ref b], []⟩ >>= _) _ _ s
  refine wpAny_bind ?_
  unfold Builtin.Dict.dictSlotArgs
  refine wpAny_bind (wpAny_notOrdered_dict da.typeIs ?_)
  show wpAny _ _ (pure (Value.ref a, Value.ref b)) _ _ s
  refine wpAny_pure ?_
  refine wpAny_bind (wpAny_isInstance (T := "dict") db.typeIs PySem.F.sub_dict_dict ?_)
  simp only [Bool.not_true, Bool.false_eq_true, if_false]
  refine wpAny_bind (wpAny_pure (wpAny_bind (wpAny_pure ?_)))
  refine wpAny_bind (samePairsP ha hb da db hits ?_)
  refine wpAny_pure ⟨_, rfl, ?_, ?_⟩
  · exact fun x => nomatch x
  · cases e : (ka.length == kb.length && r) <;> rw [e] at h <;> exact h
end
end PySem.W
namespace SW
open PySem PySem.Spec PyProof.Rows L2 He TL
def rNeDict (K : PySem.W.Frag) : R2 := fun x y H Q => ∃ n a b ks ls, n ≤ 60 ∧ x = .ref a ∧ y = .ref b ∧ H a = some (.dK ks) ∧ H b = some (.dK ls) ∧ ks.length = ls.length ∧ (∀ p ∈ ks, ∃ u, valV ls p.1 = some u ∧ EqV K H n p.2 u) ∧ Q (.bl false) H
theorem op_neDict {X : Cx} (hu : X.A.units + 64 < cLine) : OpR X (compareOp .NotEq) (rNeDict X.K) := by
  intro pins s σ H x y v u Q I rx ry h
  obtain ⟨n, a, b, ks, ls, hn, rfl, rfl, ha, hb, hl, hp, q⟩ := h
  cases (show v = Value.ref a from rx)
  cases (show u = Value.ref b from ry)
  obtain ⟨_, ya, va, ra, da⟩ := (show ObjOk X.prog X.w H s.heap a (.dK ks) from I.hok a _ ha)
  obtain ⟨_, yb, vb, rb, db⟩ := (show ObjOk X.prog X.w H s.heap b (.dK ls) from I.hok b _ hb)
  refine PySem.W.rcNe_dicts (knd := mixKind X.prog X.w) (r := true) ya yb da db (by omega) (fun _ => hits_run (eqV_run I n X.A.in1 (by show X.A.units + 1 + n < cLine; omega)) rb ra hp) _ _ ?_
  have e : va.length = vb.length := by rw [← ra.length, ← rb.length]; exact hl
  rw [show (!(va.length == vb.length && true)) = false from by rw [e]; simp]
  exact ⟨.bl false, H, I, rfl, q⟩
theorem neDictK {X : Cx} {K : PySem.W.Frag} (hu : X.A.units + 64 < cLine) (h : X.K = K := by rfl) : OpR X (compareOp .NotEq) (rNeDict K) := by subst h; exact op_neDict hu
theorem eqVK {X : Cx} {K : PySem.W.Frag} (hu : X.A.units + 64 < cLine) (h : X.K = K := by rfl) : OpR X (compareOp .Eq) (rEqV K) := by subst h; exact op_eqV hu
/-- lists of ints that are equal -/
theorem eqv_ints {K : PySem.W.Frag} {H : Hp} {a b : Addr} {xs : List Int} (ha : H a = some (.lst (xs.map V.int))) (hb : H b = some (.lst (xs.map V.int))) (n : Nat) : EqV K H (n + 2) (.ref a) (.ref b) := by
  refine .inr (.inr (.inl ⟨a, b, _, _, rfl, rfl, SqL.of ha, SqL.of hb, ?_⟩))
  clear ha hb
  induction xs with
  | nil => exact .nil
  | cons x xs ih => exact .cons (.inl ⟨rfl, rfl⟩) ih
end SW


/-! ### max(xs, default=d), min(xs, default=d) of a list of ints -/
namespace SW
open PySem PySem.Spec PyProof.Rows L2 He TL
def rMaxDf (K : PySem.W.Frag) : List V → List V → Hp → VK → Prop := fun vs zs H Q => ∃ (a : Addr) (ns : List Int) (d : V), vs = [V.ref a] ∧ zs = [d] ∧ SqL K H a (ns.map V.int) ∧ (ns = [] → Q d H) ∧ ∀ m, m ∈ ns → (∀ y, y ∈ ns → y ≤ m) → Q (.int m) H
def rMinDf (K : PySem.W.Frag) : List V → List V → Hp → VK → Prop := fun vs zs H Q => ∃ (a : Addr) (ns : List Int) (d : V), vs = [V.ref a] ∧ zs = [d] ∧ SqL K H a (ns.map V.int) ∧ (ns = [] → Q d H) ∧ ∀ m, m ∈ ns → (∀ y, y ∈ ns → m ≤ y) → Q (.int m) H
theorem reads_ints {h : Heap} : ∀ {ns : List Int} {us : List Value}, Vals (ns.map V.int) us → ∃ as, ReadsAll h us (ns.map PyData.int) as
  | [], _, r => by
    cases r
    exact ⟨_, .nil⟩
  | n :: ns, _, r => by
    rw [List.map_cons] at r
    cases r with
    | cons a b =>
      obtain ⟨t, rfl⟩ := a
      obtain ⟨as, h2⟩ := reads_ints b
      exact ⟨_, .cons (.int _ _) h2⟩
theorem alike_ints (ns : List Int) : PySem.W.AlikeAll (ns.map PyData.int) := by
  refine ⟨fun x hx y hy => ?_, fun x hx => ?_⟩
  · obtain ⟨i, _, rfl⟩ := List.mem_map.mp hx
    obtain ⟨j, _, rfl⟩ := List.mem_map.mp hy
    rfl
  · obtain ⟨i, _, rfl⟩ := List.mem_map.mp hx
    exact fun z => by cases z
theorem depth_ints : ∀ ns : List Int, PyData.depthAll (ns.map PyData.int) = 0
  | [] => rfl
  | n :: ns => by
    show max 0 (PyData.depthAll (ns.map PyData.int)) = 0
    rw [depth_ints ns] <;> rfl
theorem foldMax : ∀ (ns : List Int) (n : Int), ns.foldl max n ∈ n :: ns ∧ ∀ y ∈ n :: ns, y ≤ ns.foldl max n
  | [], n => ⟨List.mem_cons_self .., fun y hy => by rw [List.mem_singleton.mp hy]; exact Int.le_refl _⟩
  | m :: ns, n => by
    obtain ⟨h1, h2⟩ := foldMax ns (max n m)
    rw [List.foldl_cons]
    refine ⟨?_, fun y hy => ?_⟩
    · rcases List.mem_cons.mp h1 with h | h
      · rw [h]
        rcases Int.le_total n m with e | e
        · rw [Int.max_eq_right e]
          exact List.mem_cons_of_mem _ (List.mem_cons_self ..)
        · rw [Int.max_eq_left e]
          exact List.mem_cons_self ..
      · exact List.mem_cons_of_mem _ (List.mem_cons_of_mem _ h)
    · have h3 := h2 (max n m) (List.mem_cons_self ..)
      rcases List.mem_cons.mp hy with h | h
      · rw [h]
        omega
      · rcases List.mem_cons.mp h with h | h
        · rw [h]
          omega
        · exact h2 y (List.mem_cons_of_mem _ h)
theorem foldMin : ∀ (ns : List Int) (n : Int), ns.foldl min n ∈ n :: ns ∧ ∀ y ∈ n :: ns, ns.foldl min n ≤ y
  | [], n => ⟨List.mem_cons_self .., fun y hy => by rw [List.mem_singleton.mp hy]; exact Int.le_refl _⟩
  | m :: ns, n => by
    obtain ⟨h1, h2⟩ := foldMin ns (min n m)
    rw [List.foldl_cons]
    refine ⟨?_, fun y hy => ?_⟩
    · rcases List.mem_cons.mp h1 with h | h
      · rw [h]
        rcases Int.le_total n m with e | e
        · rw [Int.min_eq_left e]
          exact List.mem_cons_self ..
        · rw [Int.min_eq_right e]
          exact List.mem_cons_of_mem _ (List.mem_cons_self ..)
      · exact List.mem_cons_of_mem _ (List.mem_cons_of_mem _ h)
    · have h3 := h2 (min n m) (List.mem_cons_self ..)
      rcases List.mem_cons.mp hy with h | h
      · rw [h]
        omega
      · rcases List.mem_cons.mp h with h | h
        · rw [h]
          omega
        · exact h2 y (List.mem_cons_of_mem _ h)
theorem map_cons_inv {ns : List Int} {y : PyData} {ys : List PyData} (e : ns.map PyData.int = y :: ys) : ∃ n r, ns = n :: r ∧ y = .int n ∧ ys = r.map PyData.int := by
  cases ns with
  | nil => cases e
  | cons n r =>
    rw [List.map_cons] at e
    injection e with e1 e2
    exact ⟨n, r, rfl, e1.symm, e2.symm⟩
section
variable {X : Cx}
theorem cr_maxDf (hc : X.calm = true) (hu : X.A.units + 1 < cLine) : CallRK X (.builtin "max") [Str.ofString "default"] (rMaxDf X.K) := by
  intro pins s σ H vs zs us ws Q I r rz h
  obtain ⟨a, ns, d, rfl, rfl, hs, h0, h1⟩ := h
  obtain rfl := Vals.ref1 r
  obtain ⟨dv, rfl, rd⟩ := vals1 rz
  obtain ⟨its, rv, hl, _⟩ := I.list hs
  obtain ⟨as, hr⟩ := reads_ints (h := s.heap) rv
  refine PySem.W.max_list_default (I.ok.hd hc) hl.isList (xs := ns.map PyData.int) (by simpa using hr) (alike_ints ns) (by rw [depth_ints]; exact hu) (fun e h' tk hk => ?_) fun y ys i v h' tk bs e hv hrd hk => ?_
  · have : ns = [] := List.map_eq_nil_iff.mp e
    exact ⟨d, H, I.kept hk, rd, h0 this⟩
  · obtain ⟨n, rs, rfl, rfl, rfl⟩ := map_cons_inv e
    rw [PySem.W.maxD_ints] at hrd
    cases hrd
    obtain ⟨m1, m2⟩ := foldMax rs n
    exact ⟨.int _, H, I.kept hk, ⟨_, rfl⟩, h1 _ m1 m2⟩
theorem cr_minDf (hc : X.calm = true) (hu : X.A.units + 1 < cLine) : CallRK X (.builtin "min") [Str.ofString "default"] (rMinDf X.K) := by
  intro pins s σ H vs zs us ws Q I r rz h
  obtain ⟨a, ns, d, rfl, rfl, hs, h0, h1⟩ := h
  obtain rfl := Vals.ref1 r
  obtain ⟨dv, rfl, rd⟩ := vals1 rz
  obtain ⟨its, rv, hl, _⟩ := I.list hs
  obtain ⟨as, hr⟩ := reads_ints (h := s.heap) rv
  refine PySem.W.min_list_default (I.ok.hd hc) hl.isList (xs := ns.map PyData.int) (by simpa using hr) (alike_ints ns) (by rw [depth_ints]; exact hu) (fun e h' tk hk => ?_) fun y ys i v h' tk bs e hv hrd hk => ?_
  · have : ns = [] := List.map_eq_nil_iff.mp e
    exact ⟨d, H, I.kept hk, rd, h0 this⟩
  · obtain ⟨n, rs, rfl, rfl, rfl⟩ := map_cons_inv e
    rw [PySem.W.minD_ints] at hrd
    cases hrd
    obtain ⟨m1, m2⟩ := foldMin rs n
    exact ⟨.int _, H, I.kept hk, ⟨_, rfl⟩, h1 _ m1 m2⟩
theorem maxDfK {K : PySem.W.Frag} (hc : X.calm = true) (hu : X.A.units + 1 < cLine) (h : X.K = K := by rfl) : CallRK X (.builtin "max") [Str.ofString "default"] (rMaxDf K) := by subst h; exact cr_maxDf hc hu
theorem minDfK {K : PySem.W.Frag} (hc : X.calm = true) (hu : X.A.units + 1 < cLine) (h : X.K = K := by rfl) : CallRK X (.builtin "min") [Str.ofString "default"] (rMinDf K) := by subst h; exact cr_minDf hc hu
theorem sortedSK {K : PySem.W.Frag} (h : X.K = K := by rfl) : CallR X (.builtin "sorted") (rSortedS K) := by subst h; exact cr_sortedS
theorem sortedDK {K : PySem.W.Frag} (hc : X.calm = true) (_ : X.K = K := by rfl) : CallR X (.builtin "sorted") (fun xs H Q => ∃ (a : Addr) (kvs : List (Key × V)) (ks : List Str), xs = [.ref a] ∧ Rd H a (.dK kvs) ∧ kvs.map (·.1) = ks.map Sum.inr ∧ ks.length < 64 ∧
    ∀ ys p, ys.Perm ks → PyProof.Rows.sortedS ys = true → H p = none → Q (.ref p) (upd H p (.lst (ys.map V.str)))) := call_sortedD hc
end
end SW


/-! ### max(d.values()) of ints -/
namespace SW
open PySem PySem.Spec PyProof.Rows L2 He TL
def tMaxVals (td : TE) : TE := fun σ H Q => td σ H fun x H1 => ∃ (a : Addr) (kvs : List (Key × V)) (ns : List Int), x = .ref a ∧ H1 a = some (.dK kvs) ∧ kvs.map (·.2) = ns.map V.int ∧ ns ≠ [] ∧ ∀ m, m ∈ ns → (∀ y, y ∈ ns → y ≤ m) → Q (.int m) H1
theorem kv_ints {kvs : List (Key × V)} {vs : List (Key × Value)} (h : KV kvs vs) : Vals (kvs.map (·.2)) (vs.map (·.2)) := by
  unfold KV at h
  induction h with
  | nil => exact .nil
  | cons h t ih => exact .cons h.2 ih
theorem ints_reads {ns : List Int} {vs : List (Key × Value)} (r : Vals (ns.map V.int) (vs.map (·.2))) (i : Nat) (v : Value) (hv : ∃ k, vs[i]? = some (k, v)) : ∃ t, v = .int (ns.getD i 0) t := by
  obtain ⟨k, hk⟩ := hv
  have h1 : (vs.map (·.2))[i]? = some v := by rw [List.getElem?_map, hk] <;> rfl
  obtain ⟨j, x, hx, hr⟩ : ∃ (_ : Unit) (x : V), (ns.map V.int)[i]? = some x ∧ RelV x v := by
    have hl := r.length
    have hi : i < (ns.map V.int).length := by rw [hl]; exact (List.getElem?_eq_some_iff.mp h1).1
    obtain ⟨u, hu, ru⟩ := r.get (List.getElem?_eq_getElem hi)
    rw [h1] at hu
    cases hu
    exact ⟨(), _, List.getElem?_eq_getElem hi, ru⟩
  rw [List.getElem?_map] at hx
  cases e : ns[i]? with
  | none => rw [e] at hx; cases hx
  | some n =>
    rw [e] at hx
    cases hx
    obtain ⟨t, rfl⟩ := hr
    exact ⟨t, by rw [List.getD_eq_getElem?_getD, e] <;> rfl⟩
section
variable {X : Cx}
theorem pe_maxVals {o : Expr} {td : TE} {p pos apos cpos : Pos} (hc : X.calm = true) (hg : Gl X "max") (hm : X.mg "max" = none) (ho : PE X o td) (hbase : attributeBase o "values" X.env (eval o X.env) = eval o X.env := by rfl) (hline : (apos.endLine == cpos.line) = true := by rfl)
    (he : starEach [.Call (.Attribute o "values" apos) [] [] cpos] X.env = (false, eval (.Call (.Attribute o "values" apos) [] [] cpos) X.env) :: starEach [] X.env := by rfl) (hpl : (backTo pos (starEach ([] : List Expr) X.env)).any (·.1) = false := by rfl) :
    PE X (.Call (.Name "max" p) [.Call (.Attribute o "values" apos) [] [] cpos] [] pos) (tMaxVals td) := by
  refine ⟨fun pins s σ H Q I h => ?_⟩
  refine wpAny_Call_Name_kw (ld_blt I hg hm boot_max ?_ (by decide) (by decide))
  refine PyProof.Rows.callWith_builtin1 ?_ he hpl
  rw [he]
  refine Calls.spliced_cons ?_
  refine wpAny_Call_method (T := "dict") (id := "dict.values") hbase rfl hline F.plainAttrs_dict F.slot_dict_values F.type_dict_values (thn (ho.run pins s σ H _ I h) fun u s1 ⟨x, H1, I1, rx, d, kvs, ns, ex, hd, hns, hne, q⟩ => ?_)
  subst ex
  obtain rfl : u = Value.ref d := rx
  obtain ⟨hz, hs, vs, kv, dd⟩ := dk_of I1.hok hd
  obtain ⟨ep, hat⟩ := dd.dictAt
  refine ⟨dd.typeIs, dd.mapOf.noDict, ?_⟩
  have rv := kv_ints kv
  rw [hns] at rv
  have hlen : vs.length = ns.length := by
    have := rv.length
    rw [List.length_map, List.length_map] at this
    exact this.symm
  have hpos : 0 < ns.length := List.length_pos_iff.mpr hne
  show wpAny _ _ (callWith cpos (.builtin "dict.values") [.ref d] [] []) _ X.xe s1
  refine method_meetsIn F.slot_dict_values F.entry_dict_values rfl (PySem.evalArgs_none ⟨rfl, hat.dictOf.typeIs, F.args_dict_values_1 _, _, meets_dict_values (mixKind X.prog X.w) d hs, ⟨vs, hat.dictOf⟩, ?_⟩)
  refine Calls.spliced_nil ?_
  have hdl : d < s1.heap.objs.size := by
    obtain ⟨o, es, ho, _⟩ := hat
    exact Heap.lt_size ho
  have I2 : Inv X pins σ H1 { s1 with heap := s1.heap.push { cls := .type "dict_values", data := .fields #[.ref d] } } := I1.kept (t' := s1.toks) fun b ob q => Heap.get?_push_of_some _ q
  have hat2 := hat.push { cls := .type "dict_values", data := .fields #[.ref d] }
  have hsz2 : (s1.heap.push { cls := .type "dict_values", data := .fields #[.ref d] }).objs.size = s1.heap.objs.size + 1 := Heap.size_push ..
  refine call_max_walk (wpAny_pyIter_values (d := d) (knd := mixKind X.prog X.w) ⟨_, Heap.get?_push_size _ rfl, rfl, rfl⟩ hat2 ?_)
  refine ⟨_, _, _, _, _, _, _, rfl, Walks.dictValues (A := X.A.in1) (I1.ok.hd hc) _ d (Nat.ne_of_lt (by rw [hsz2]; exact Nat.lt_succ_of_lt hdl)) vs ep, ⟨⟨_, Heap.get?_push_size _ rfl, rfl, rfl⟩, hat2.push _⟩, fun b hb => ?_, by omega, CmpOf.ints_gt (fun i => ns.getD i 0) (ints_reads rv), fun v h' tk hP hk => ?_⟩
  · show b < (Heap.push _ _).objs.size
    rw [Heap.size_push, hsz2]
    rcases List.mem_cons.mp hb with rfl | hb
    · rw [hsz2]
      exact Nat.lt_succ_self _
    · rcases List.mem_cons.mp hb with rfl | hb
      · exact Nat.lt_succ_of_lt (Nat.lt_succ_of_lt hdl)
      · cases hb
  · obtain ⟨t, rfl⟩ := ints_reads rv _ _ hP
    obtain ⟨h1, h2⟩ := argBest_gt (fun i => ns.getD i 0) (vs.length - 1)
    have hk2 : ∀ b ob, s1.heap.get? b = some ob → h'.get? b = some ob := fun b ob e => by
      refine hk b ob (fun hm => ?_) (Heap.get?_push_of_some _ (Heap.get?_push_of_some _ e))
      have e1 := List.mem_singleton.mp hm
      have h3 := Heap.lt_size e
      rw [e1, hsz2] at h3
      exact absurd h3 (Nat.not_lt_of_le (Nat.le_succ _))
    refine ⟨.int _, H1, I1.kept hk2, ⟨_, rfl⟩, q _ ?_ fun y hy => ?_⟩
    · rw [List.getD_eq_getElem?_getD, List.getElem?_eq_getElem (by omega)]
      exact List.getElem_mem _
    · obtain ⟨j, hj⟩ := List.mem_iff_getElem?.mp hy
      have hjl := (List.getElem?_eq_some_iff.mp hj).1
      have e : ns.getD j 0 = y := by rw [List.getD_eq_getElem?_getD, hj] <;> rfl
      have := h2 j (by omega)
      rw [← e]
      exact this
end
end SW


/-! ### sorted(d) of a dict whose keys are pairs of texts; sorted(set(xs)) of ints -/
namespace SW
open PySem PySem.Spec PySem.Calls PyProof.Rows L2 He TL
section
variable {prog : Program} {w : World} {A : Around} {E : Value → Shared → Prop} {s : Shared}
/-- a tuple of two texts -/
def TwoS (h : Heap) (v : Value) (x y : Str) : Prop := ∃ a o t u n, v = .ref a ∧ h.get? a = some o ∧ o.cls = .type "tuple" ∧ o.data = .seq #[.str x t, .str y u] n
theorem TwoS.keeps {h h' : Heap} {v : Value} {x y : Str} (p : TwoS h v x y) (k : ∀ b o, h.get? b = some o → o.cls = .type "tuple" → h'.get? b = some o) : TwoS h' v x y := by
  obtain ⟨a, o, t, u, n, e1, e2, e3, e4⟩ := p
  exact ⟨a, o, t, u, n, e1, k _ _ e2 e3, e3, e4⟩
def ltS (x y : Str) : Bool := decide (x.cps.toList < y.cps.toList)
theorem twoS_tot {vs : List Value} (hp : ∀ v ∈ vs, ∃ x y, TwoS s.heap v x y) : Srt.Tot prog w A s (tuples' true) (fun p => p.1 ∈ vs) := by
  intro p q hm1 hm2
  obtain ⟨x, y, a, o, t, u, n, e1, e2, e3, e4⟩ := hp _ hm1
  obtain ⟨x2, y2, a2, o2, t2, u2, n2, f1, f2, f3, f4⟩ := hp _ hm2
  rw [e1, f1]
  obtain ⟨ans, hans⟩ : ∃ ans : Bool, ans = if (x == x2) = true then (if (y == y2) = true then false else ltS y y2) else ltS x x2 := ⟨_, rfl⟩
  refine ⟨ans, PySem.W.kat_lt e2 e4 f2 f4 ?_⟩
  show PySem.W.KatLex prog w A true (decide (2 < 2)) _ [(.str x t, .str x2 t2), (.str y u, .str y2 u2)] 0 s
  refine PySem.W.kat_cons (SeqAt.EqAt.str_str x t x2 t2 prog w _ _ ?_)
  refine PySem.W.kat_go (fun c1 => ?_) (fun c1 => ?_)
  · rw [if_pos c1] at hans
    refine PySem.W.kat_yes (PySem.W.kat_cons (SeqAt.EqAt.str_str y u y2 u2 prog w _ _ ?_))
    refine PySem.W.kat_go (fun c2 => ?_) (fun c2 => ?_)
    · rw [if_pos c2] at hans
      exact PySem.W.kat_yes (PySem.W.kat_nil ⟨rfl, hans.symm⟩)
    · rw [if_neg (by rw [c2]; simp)] at hans
      refine PySem.W.kat_no (PySem.W.kat_one _ _ (PyProof.Rows.lt_str ?_))
      exact (show s = s ∧ ltS y y2 = ans from ⟨rfl, hans.symm⟩)
  · rw [if_neg (by rw [c1]; simp)] at hans
    exact PySem.W.kat_no (oneLt_str ⟨rfl, hans.symm⟩)
theorem twoS_firsts {h : Heap} : ∀ {vs : List Value}, (∀ v ∈ vs, ∃ x y, TwoS h v x y) → ∃ fs : List Value, PySem.W.KatTups h vs fs ∧ fs.length = vs.length ∧ ∀ f ∈ fs, ∃ x t, f = Value.str x t
  | [], _ => ⟨[], PySem.W.KatTups.nil, rfl, fun _ hm => by simp at hm⟩
  | v :: vs, hp => by
    obtain ⟨fs, h1, h2, h3⟩ := twoS_firsts (vs := vs) fun z hz => hp z (List.mem_cons_of_mem _ hz)
    obtain ⟨x, y, a, o, t, u, n, e1, e2, e3, e4⟩ := hp v (List.mem_cons_self ..)
    subst e1
    refine ⟨.str x t :: fs, PySem.W.KatTups.cons e2 e3 e4 rfl h1, congrArg Nat.succ h2, fun f hf => ?_⟩
    rcases List.mem_cons.mp hf with z | z
    · exact ⟨x, t, z⟩
    · exact h3 f z
theorem twoS_sortable {a : Addr} {vs : List Value} (h0 : 0 < vs.length) (hp : ∀ v ∈ vs, ∃ x y, TwoS s.heap v x y) (ha : ∀ o, s.heap.get? a = some o → o.cls ≠ .type "tuple") : Srt.Sortable prog w A s a vs := by
  intro h' keep
  have hq : ∀ v ∈ vs, ∃ x y, TwoS h' v x y := fun v hm => by
    obtain ⟨x, y, p⟩ := hp v hm
    exact ⟨x, y, p.keeps fun b o e c => keep b o (fun z => by subst z; exact ha o e c) e⟩
  obtain ⟨fs, h1, h2, h3⟩ := twoS_firsts hq
  refine ⟨tuples' true, fun Q E hh => ?_, twoS_tot hq⟩
  refine PySem.W.kat_kind (T := .type "str") h1 (by omega) (fun f hf => ?_) (by rfl) ?_
  · obtain ⟨x, t, rfl⟩ := h3 f hf
    exact PySem.W.Looks.now
  · rw [show (Value.type "str" != Value.type "tuple") = true by decide +kernel]
    exact hh
end
theorem perm_refs {bs : List Addr} {out : List Value} (h : out.Perm (bs.map Value.ref)) : ∃ cs : List Addr, cs.Perm bs ∧ out = cs.map Value.ref := by
  obtain ⟨f, hf⟩ : ∃ f : Value → Addr, ∀ b, f (.ref b) = b := ⟨fun v => match v with | .ref b => b | _ => 0, fun _ => rfl⟩
  have h1 := h.map f
  rw [List.map_map, show (f ∘ Value.ref) = id from funext hf, List.map_id] at h1
  refine ⟨out.map f, h1, ?_⟩
  rw [List.map_map]
  refine (List.map_id out).symm.trans (List.map_congr_left fun v hv => ?_)
  obtain ⟨b, _, rfl⟩ := List.mem_map.mp (h.subset hv)
  show _ = Value.ref (f (.ref b))
  rw [hf] <;> rfl
section
variable {X : Cx}
/-- sorted(d), the keys pairs of texts -/
theorem pairedAt {α β : Type} {F : α → β → Prop} {l1 : List α} {l2 : List β} (h : Paired F l1 l2) : ∀ {j : Nat} {x : β}, l2[j]? = some x → ∃ y, l1[j]? = some y ∧ F y x := by
  induction h with
  | nil => intro j x e; cases e
  | cons a _ ih =>
    intro j x e
    cases j with
    | zero => cases e; exact ⟨_, rfl, a⟩
    | succ j => exact ih (by simpa using e)
def rSortedTT : List V → Hp → VK → Prop := fun xs H Q => ∃ d kvs, xs = [V.ref d] ∧ Rd H d (.dT kvs) ∧ (∀ kv ∈ kvs, ∃ x y : Str, kv.1 = [Sum.inr x, Sum.inr y]) ∧
  ∀ (p : Addr) (bs cs : List Addr), H p = none → IsKeys H kvs bs → cs.Perm bs → Q (.ref p) (upd H p (.lst (cs.map V.ref)))
theorem cr_sortedTT (hc : X.calm = true) : CallR X (.builtin "sorted") rSortedTT := by
  intro pins s σ H xs us Q I r h
  obtain ⟨d, kvs, rfl, hd, htt, q⟩ := h
  obtain ⟨u, rfl, rx⟩ := r.one
  cases rx
  obtain ⟨z, hs, ks, pr, o, es, ep, ho, hx, hdt, he, hn⟩ := (show ObjOk X.prog X.w H s.heap d (.dT kvs) from hd.ok I.hok)
  have l1 : es.size = ks.length := size_of_entries he
  have l2 : kvs.length = ks.length := Paired.length pr
  refine Calls.call_function_entry PyProof.Rows.kind_sorted PyProof.Rows.plain_sorted PyProof.Rows.entry_sorted (PyProof.Rows.args_sorted1 _) ?_
  unfold Builtin.«sorted»
  refine wpAny_bind (m := checkCount "sorted" 1 1 _) (wpAny_pure ?_)
  refine wpAny_bind (PySem.W.kdu_collect (A := X.A.in1) (kdl_raw hs hx hdt) (I.ok.hd hc) ho (by omega) fun h' tk acc hk it => ?_)
  have ea : acc.toList = (ks.map fun x => x.2.1).map Value.ref := by
    have hl : acc.toList.length = ks.length := by rw [Array.length_toList, it.1]; exact l1
    refine List.ext_getElem? fun j => ?_
    rw [List.map_map, List.getElem?_map]
    cases hj : acc.toList[j]? with
    | none =>
      have h1 := List.getElem?_eq_none_iff.mp hj
      rw [List.getElem?_eq_none (show ks.length ≤ j by omega)] <;> rfl
    | some v =>
      obtain ⟨en, hen, hv⟩ := it.2 j v (by rw [← Array.getElem?_toList]; exact hj)
      have qe := entry_at he j
      rw [hen] at qe
      cases hb : ks[j]? with
      | none => rw [hb] at qe; cases qe
      | some b =>
        rw [hb] at qe
        have e2 := Option.some.inj qe
        rw [hv, e2] <;> rfl
  have I1 : Inv X pins σ H { s with heap := h', toks := tk } := I.kept hk
  have hlen : acc.toList.length ≤ sizeLine := by rw [ea, List.length_map, List.length_map]; omega
  refine wpAny_bind (wpAny_newList ?_ hlen)
  have hoL : (h'.push (seqObj "list" acc.toList.toArray 0)).get? h'.objs.size = some (seqObj "list" acc.toList.toArray 0) := Heap.get?_push_size _ rfl
  have two : ∀ v ∈ acc.toList, ∃ x y, TwoS (h'.push (seqObj "list" acc.toList.toArray 0)) v x y := fun v hv => by
    rw [ea] at hv
    obtain ⟨b, hb, rfl⟩ := List.mem_map.mp hv
    obtain ⟨j, hj⟩ := List.mem_iff_getElem?.mp hb
    obtain ⟨kv, hkv, hbt⟩ := pairedAt (isKeys_of pr) hj
    obtain ⟨x, y, exy⟩ := htt kv (List.mem_of_getElem? hkv)
    rw [exy] at hbt
    obtain ⟨_, its, rv, hit⟩ := (show ObjOk X.prog X.w H h' b (.tup [.str x, .str y]) from I1.hok b _ hbt)
    cases rv with
    | cons r1 r2 =>
      cases r2 with
      | cons r2 r3 =>
        cases r3
        obtain ⟨t1, rfl⟩ := r1
        obtain ⟨t2, rfl⟩ := r2
        obtain ⟨o2, ho2, hc2, n2, hd2⟩ := hit
        exact ⟨x, y, b, o2, t1, t2, _, rfl, Heap.get?_push_of_some _ ho2, hc2, hd2⟩
  refine wpAny_bind (wpAny_holding (wpAny_call_entry PyProof.Rows.slot_list_sort ⟨_, hoL, rfl⟩ PyProof.Rows.entry_list_sort
    (Srt.list_sort_any (s := { s with heap := h'.push (seqObj "list" acc.toList.toArray 0), toks := tk }) hoL hlen (fun h2 => twoS_sortable (by omega) two fun o' e' => ?_) fun out hp => ⟨_, rfl, ?_⟩) (PyProof.Rows.args_list_sort _)))
  · rw [hoL] at e'
    cases e'
    exact fun c => absurd (Value.type.inj c) (by decide)
  have hp2 : out.Perm ((ks.map fun x => x.2.1).map Value.ref) := by rw [← ea]; exact hp
  obtain ⟨cs, hcs, rfl⟩ := perm_refs hp2
  obtain ⟨e', he'⟩ := PyProof.Rows.sortedHeap_at (vs := acc.toList) (out := (cs.map Value.ref).toArray) hoL
  have hz : (cs.map V.ref).length ≤ sizeLine := by
    have h1 := hcs.length_eq
    rw [List.length_map] at h1 ⊢
    omega
  refine wpAny_pure ⟨_, rfl, .ref h'.objs.size, upd H h'.objs.size (.lst (cs.map V.ref)), I1.laid (t' := tk) (fun b u e => ?_) (Nat.le_refl _)
    (show ObjOk X.prog X.w _ _ _ (.lst (cs.map V.ref)) from ⟨hz, cs.map Value.ref, e', vals_refs cs, he'⟩), rfl, q _ _ cs (I1.hok.fresh (Nat.le_refl _)) (isKeys_of pr) hcs⟩
  have hb : b < h'.objs.size := Heap.lt_size e
  rw [PyProof.Rows.sortedHeap_old (Nat.ne_of_lt hb) (by rw [size_push']; exact Nat.lt_succ_of_lt hb)]
  exact Heap.get?_push_of_some _ e
theorem sortedTTK {K : PySem.W.Frag} (hc : X.calm = true) (_ : X.K = K := by rfl) : CallR X (.builtin "sorted") rSortedTT := cr_sortedTT hc
end
end SW


/-! ### max(.., key=lambda z: y[z]) over texts, y a dict of ints in a cell; a def whose code object is known -/
namespace SW
open PySem PySem.Spec PyProof.Rows L2 He LamX
section
variable {P : Program} {w : World} {K : PySem.W.Frag} {mg : Str → Option Value} {base : Heap} {k : Nat} {ps N : List Str} {sp : Sp} {x qual : Str} {params : Arguments} {body : List Stmt} {scope : Scope}
theorem mkOkC {p : He.Defn} (F : ∃ fd, FunD K x qual params body scope [] [] (fAd K p) fd) (S : FnScope N ps scope)
    (hb : ∀ (kV doc pm : Value) (an : Option Addr) (cdv ct : Value) (us : List Value), us.length = ps.length → bindArgs (PySem.W.fnOf x qual params body scope .none kV doc pm an cdv ct) ⟨us, []⟩ = pure (ps.zip us))
    (len : ∀ vs H Q E, sp vs H Q E → vs.length = ps.length)
    (hbody : ∀ (A : Around) (outer : List Env) (s : Shared) (H : Hp) (vs : List V) (Q : VK) (E : XK), Room k (A.deeper (envOfC qual scope s.heap.objs.size (fAd K p) (.ref (codeOf K p)))) → sp vs H Q E →
      ∃ t, PSs (cxOf CX0 P w K mg base N qual scope (fAd K p) (.ref (codeOf K p)) A outer s H E).nox body t ∧ t { nx := fun _ H' => Q .non H', rt := Q } (start N vs) H) : Ok P w K mg base (k + 1) (fAd K p) ps sp := by
  obtain ⟨fd, F⟩ := F
  obtain ⟨oc, od, dV, kV, doc, pm, an, cdv, ct, osl, e, lk, hcd, _, _⟩ := id F.ex
  obtain ⟨c, rfl⟩ := codeIn_ref hcd
  have ec : codeOf K p = c := codeOf_eq lk (by rw [e])
  refine ⟨⟨fd, ⟨oc, od, osl, lk⟩, ?_, F.bindsN hb⟩, F.kp⟩
  subst e
  refine fn_of lk hcd S len fun A outer s H vs Q E hr h => ?_
  rw [ec] at hbody
  obtain ⟨t, ht, q⟩ := hbody A outer s H vs Q E hr h
  exact ⟨t, ht.nox, q⟩
end
/-- the lambda's names: its own one z, the captured one y -/
structure KeyS (sc scope : Scope) (y z : Str) : Prop where
  kind : scope.kind = .function
  co : scope.isCoroutine = false
  gen : scope.isGenerator = false
  nc : ∀ x ∈ scope.names, x.2 ≠ .cell
  own : scope.names.lookup z = some .local
  cap : scope.names.lookup y = some .free
  free : ∀ x ∈ scope.names, x.2 = .free → sc.names.lookup x.1 = some .cell ∨ sc.names.lookup x.1 = some .free
def keySB (sc scope : Scope) (y z : Str) : Bool :=
  decide (scope.kind = .function) && (!scope.isCoroutine && (!scope.isGenerator && (decide (scope.names.lookup z = some .local) && (decide (scope.names.lookup y = some .free) && (scope.names.all fun x => !decide (x.2 = .cell) && (!decide (x.2 = .free) || (decide (sc.names.lookup x.1 = some .cell) || decide (sc.names.lookup x.1 = some .free))))))))
theorem keyS_by {sc scope : Scope} {y z : Str} (h : keySB sc scope y z = true) : KeyS sc scope y z := by
  unfold keySB at h
  simp only [Bool.and_eq_true, Bool.or_eq_true, Bool.not_eq_true', decide_eq_true_eq, decide_eq_false_iff_not, List.all_eq_true] at h
  obtain ⟨h1, h2, h3, h4, h5, h6⟩ := h
  refine ⟨h1, h2, h3, fun x hx => (h6 x hx).1, h4, h5, fun x hx e => ?_⟩
  rcases (h6 x hx).2 with z | z
  · exact absurd e z
  · exact z
section
variable {prog : Program} {w : World} {A : Around} {E : Value → Shared → Prop} {s : Shared}
/-- the lambda called: what the dict holds -/
theorem key_call {f c' cc d : Addr} {q y z : Str} {params : Arguments} {p1 p2 p3 : Pos} {sc scope : Scope} {cl : List (Str × Addr)} {pm ctv u w' : Value} {vs : List (Key × Value)} {n : Str} {Q : Value → Shared → Prop}
    (L : KeyS sc scope y z) (hroom : A.depth < recursionLimit) (hlim : s.heap.NoLimit)
    (hf : s.heap.get? f = some (PySem.W.kla_obj "<lambda>" q params (.Subscript (.Name y p1) (.Name z p2) p3) scope cl pm c' ctv)) (hcd : s.heap.CodeRec (.ref c') q)
    (hb : bindArgs (PySem.W.kla_fn "<lambda>" q params (.Subscript (.Name y p1) (.Name z p2) p3) scope cl pm (.ref c') ctv) ⟨[u], []⟩ = pure [(z, u)])
    (hcl : cl.lookup y = some cc) (hcell : s.heap.IsCell cc (some (.ref d))) (hd : s.heap.DictOf (mixKind prog w) d vs) (hv : valueAt vs (Sum.inr n : Key) = some w') (hu : L2.RelV (.str n) u)
    (hyd : (y == ("__debug__" : Str)) = false) (hyc : (y == ("__classdict__" : Str)) = false) (hzd : (z == ("__debug__" : Str)) = false)
    (hQ : ∀ h' tk, (∀ b o, s.heap.get? b = some o → h'.get? b = some o) → s.toks ≤ tk → Q w' { s with heap := h', toks := tk }) : wpAny (model prog w) A (call (.ref f) [u]) Q E s := by
  refine wpAny_call ?_
  refine PySem.W.kla_callFunE hroom hf rfl L.co L.gen rfl hcd ?_
  rw [hb]
  refine wpAny_pure (wpAny_newFunctionEnv L.nc (fun x hx => by rw [List.mem_singleton.mp hx]; exact L.own) (fun h₁ hns hsb => ⟨hlim.fresh _ hsb, ?_⟩) L.kind)
  have kp : ∀ b o, s.heap.get? b = some o → h₁.get? b = some o := fun b o e => hsb.extBut b o (Nat.ne_of_lt (Heap.lt_size e)) (Heap.get?_push_of_some _ e)
  refine PySem.W.kla_codeExpr ?_
  have hd1 : h₁.DictOf (mixKind prog w) d vs := hd.keep kp
  refine subD_of PySem.F.slot_dict_getitem.lookup (fun _ _ => rfl) (wpAny_Name (wpAny_loadName_free L.kind L.cap hcl (hcell.keeps kp) ?_ hyc) hyd)
  refine wpAny_Name (wpAny_loadName_local (v := u) L.kind L.own hns ?_ ?_) hzd
  · show List.lookup z ([(z, u)] : List (Str × Value)).reverse = some u
    simp
  · refine ⟨hd1.typeIs, wpAny_getItem_of (kV_is (k := (Sum.inr n : Key)) hu) hd1.mapOf hv ?_⟩
    exact hQ h₁ _ kp (by show s.toks ≤ s.toks + 1 + 1; omega)
end
/-- what stays while max turns: all that stood -/
def OldS (s s' : Shared) : Prop := (∀ b o, s.heap.get? b = some o → s'.heap.get? b = some o) ∧ s'.gens = s.gens ∧ s'.drawn = s.drawn ∧ s'.os = s.os
theorem sqL_extN {K : PySem.W.Frag} {H H' : Hp} {a : Addr} {xs : List V} (e : ExtN H H') (h : SqL K H a xs) : SqL K H' a xs := by
  rcases h with (h | ⟨o, h⟩) | h
  · exact .inl (.inl (e _ _ h fun ps z => by cases z))
  · exact .inl (.inr ⟨o, e _ _ h fun ps z => by cases z⟩)
  · exact .inr h
def tMaxKey (K : PySem.W.Frag) (P : Addr) (q : Str) (i : Nat) (ta : TA) : TE := fun σ H Q => ta σ H fun xs H1 => ∃ (a d : Addr) (ns : List Str) (tm : Str → Int) (kvs : List (Key × V)), xs = [.ref a] ∧ SqL K H1 a (ns.map V.str) ∧ ns ≠ [] ∧ σ[i]? = some (some (.ref d)) ∧ H1 d = some (.dK kvs) ∧
  (∀ n ∈ ns, valV kvs (Sum.inr n : Key) = some (.int (tm n))) ∧ TabS H1 P q ∧ ∀ m H2, ExtN H1 H2 → m ∈ ns → (∀ n ∈ ns, tm n ≤ tm m) → Q (.str m) H2
section
variable {X : Cx}
theorem pe_maxKey {o : Expr} {ta : TA} {p pos lpos kpos p1 p2 p3 : Pos} {params : Arguments} {scope : Scope} {y z : Str} {i : Nat} {c P : Addr} {k : Nat}
    (hc : X.calm = true) (hg : Gl X "max") (hm : X.mg "max" = none) (ha : PA X [o] ta) (hr : Room (k + 1) X.A) (TB : TabB X.base X.mg c P) (hcode : X.env.code = .ref c)
    (hN : X.N[i]? = some y) (hy0 : X.env.scope.names.lookup y = some .cell) (hdef : defaultsOf params X.env = ([], []))
    (hbind : ∀ (u : Value) (q : Str) (cl : List (Str × Addr)) (pm cv ctv : Value), bindArgs (PySem.W.kla_fn "<lambda>" q params (.Subscript (.Name y p1) (.Name z p2) p3) scope cl pm cv ctv) ⟨[u], []⟩ = pure [(z, u)])
    (L : KeyS X.env.scope scope y z) (hyd : (y == ("__debug__" : Str)) = false) (hyc : (y == ("__classdict__" : Str)) = false) (hzd : (z == ("__debug__" : Str)) = false)
    (he : backTo pos (starEach [o] X.env) = (false, eval o X.env) :: backTo pos (starEach [] X.env) := by rfl) (hpl : (backTo pos (starEach [o] X.env)).any (·.1) = false := by rfl) :
    PE X (.Call (.Name "max" p) [o] [⟨some "key", .Lambda params (.Subscript (.Name y p1) (.Name z p2) p3) scope lpos, kpos⟩] pos) (tMaxKey X.K P (X.env.qual ++ "<lambda>") i ta) := by
  refine ⟨fun pins s σ H Q I h => ?_⟩
  refine wpAny_Call_Name_kw (ld_blt I hg hm boot_max ?_ (by decide) (by decide))
  refine PyProof.Rows.callWith_kw (thn (ha.run pos pins s σ H _ I h) fun us s1 ⟨xs, H1, I1, r1, a, d, ns, tm, kvs, ex, hs, hne, hσ, hd, hval, hT, q1⟩ => ?_) he hpl (by rfl) (by rfl)
  subst ex
  rw [Vals.ref1 r1]
  show wpAny _ _ (evalAll [do let v ← eval (.Lambda params (.Subscript (.Name y p1) (.Name z p2) p3) scope lpos) X.env; standAt pos; pure v]) _ _ s1
  refine wpAny_evalAll_cons (wpAny_bind ?_)
  have hfree : ∀ x ∈ scope.names, x.2 = .free → ∃ c, X.env.cells.lookup x.1 = some c := fun x hx e => I.ok.has _ (L.free x hx e)
  refine lam_make2 (T := [(P, X.env.qual ++ "<lambda>")]) I1 TB hcode (List.mem_singleton.mpr rfl) (fun p hp _ => by rw [List.mem_singleton.mp hp]) (fun p hp => by rw [List.mem_singleton.mp hp]; exact hT) hdef hfree fun f c' pm ctv H2 s2 I2 eN T1 hf hfn hfr hco => ?_
  refine wpAny_bind (wpAny_standAt (wpAny_pure ?_))
  refine wpAny_evalAll_nil ?_
  show wpAny (model X.prog X.w) X.A (call (.builtin "max") [.ref a] [(Str.ofString "key", .ref f)]) (EP X pins σ Q) X.xe s2
  -- what stands
  have hd2 : H2 d = some (.dK kvs) := eN _ _ hd fun ps z => by cases z
  obtain ⟨its, rv, hl, hz⟩ := I2.list (sqL_extN eN hs)
  obtain ⟨_, _, vs, kv, dd⟩ := dk_of I2.hok hd2
  obtain ⟨⟨oc, vs', t, hoc, hdc, hvc⟩, _, _⟩ := I2.hok c' _ hco
  obtain ⟨m, hn, hloc⟩ := I2.loc
  obtain ⟨u, ru, hl2⟩ := hloc i y _ hN hσ (.inr (.inl hy0))
  obtain rfl : u = Value.ref d := ru
  obtain ⟨cc, hcc, hcell⟩ : ∃ cc, X.env.cells.lookup y = some cc ∧ s2.heap.IsCell cc (some (.ref d)) := by
    rcases hl2 with ⟨h1, _⟩ | ⟨_, cc, h1, h2⟩
    · have h1 : X.env.scope.names.lookup y = some .local := h1
      rw [hy0] at h1
      cases h1
    · exact ⟨cc, h1, h2⟩
  have hcl : (cloFrom X.env.cells scope.names []).lookup y = some cc := by
    obtain ⟨c2, h2⟩ := mem_lookup (cloFrom_has (cells := X.env.cells) (acc := []) (PySem.mem_of_lookup L.cap))
    rcases cloFrom_mem (PySem.mem_of_lookup h2) with hm | ⟨_, h3⟩
    · cases hm
    · have h4 : c2 = cc := by
        rw [h3, hcc] <;> rfl
      rw [← h4]
      exact h2
  have hlen : its.length = ns.length := by rw [← rv.length, List.length_map]
  have hpos : 0 < its.toArray.size := by
    rw [List.size_toArray, hlen]
    exact List.length_pos_iff.mpr hne
  have hat : ∀ (j : Nat) (v : Value), its.toArray[j]? = some v → ∃ n, ns[j]? = some n ∧ L2.RelV (.str n) v := fun j v hv => by
    have hv : its[j]? = some v := by simpa using hv
    have hj : j < ns.length := by rw [← hlen]; exact (List.getElem?_eq_some_iff.mp hv).1
    have e1 : (ns.map V.str)[j]? = some (.str ns[j]) := by rw [List.getElem?_map, List.getElem?_eq_getElem hj] <;> rfl
    obtain ⟨u, hu, ru⟩ := rv.get e1
    rw [hv] at hu
    cases hu
    exact ⟨ns[j], List.getElem?_eq_getElem hj, ru⟩
  have hal : a < s2.heap.objs.size := by
    obtain ⟨o, e, _⟩ := hl.isList
    exact Heap.lt_size e
  refine call_max_walkK (wpAny_pyIter_list hl.isList ?_)
  refine ⟨s2.heap.objs.size, [s2.heap.objs.size, a], [s2.heap.objs.size], fun a b => b = a, its.toArray.size, fun j v => its.toArray[j]? = some v, fun j s => s.heap.IsListIter s2.heap.objs.size a j ∧ s.heap.IsList a its.toArray, OldS s2, fun j v _ => ∃ t, v = .int (tm (ns.getD j "")) t, _, rfl, (Walks.list (A := X.A.in1) (I2.ok.hd hc) s2.heap.objs.size a (Nat.ne_of_lt hal) its.toArray).toS, ⟨⟨_, Heap.get?_push_size _ rfl, rfl, rfl⟩, hl.isList.push _⟩, fun b hb => ?_, hpos, ⟨?_, ?_, ?_, fun j l kj kl s' Q' E' _ hj hl => CmpOf.ints_gt (P := fun j v => ∃ t, v = .int (tm (ns.getD j "")) t) (fun j => tm (ns.getD j "")) (fun i v h => h) j l kj kl s' Q' E' hj hl⟩, ⟨fun b o e => Heap.get?_push_of_some _ e, rfl, rfl, rfl⟩, fun v s' hP hJ => ?_⟩
  · show b < (Heap.push _ _).objs.size
    rw [Heap.size_push]
    rcases List.mem_cons.mp hb with rfl | hb
    · exact Nat.lt_succ_self _
    · rcases List.mem_cons.mp hb with rfl | hb
      · exact Nat.lt_succ_of_lt hal
      · cases hb
  · -- keep
    intro s3 s4 hJ hm4
    refine ⟨fun b o e => hm4.heap b o (fun hb => ?_) (hJ.1 b o e), hm4.gens.trans hJ.2.1, hm4.drawn.trans hJ.2.2.1, hm4.os.trans hJ.2.2.2⟩
    have hlt := Heap.lt_size e
    rcases List.mem_cons.mp hb with rfl | hb
    · rw [Heap.size_push] at hlt
      exact absurd (Nat.lt_of_succ_lt hlt) (Nat.lt_irrefl _)
    · rw [List.mem_singleton.mp hb] at hlt
      exact Nat.lt_irrefl _ hlt
  · exact fun _ _ _ _ h _ => h
  · -- turn
    intro j v s3 o3 Q3 E3 hj hP hJ hst hS hQ
    obtain ⟨n, hn1, rn⟩ := hat j v hP
    have en : ns.getD j "" = n := by rw [List.getD_eq_getElem?_getD, hn1] <;> rfl
    obtain ⟨w', hw, rw'⟩ := RelO.some_of (v := .int (tm n)) (o := valueAt vs (Sum.inr n : Key)) (by rw [← hval n (List.mem_of_getElem? hn1)]; exact kv.val _)
    refine key_call (sc := X.env.scope) L (by have := hr.depth; exact this) (I2.nolimit.keeps hJ.1) (hJ.1 _ _ hf) ⟨c', oc, vs', t, rfl, hJ.1 _ _ hoc, hdc, hvc⟩ (hbind _ _ _ _ _ _) hcl (hcell.keeps hJ.1) (dd.keep hJ.1) hw rn hyd hyc hzd fun h' tk hk htk => ?_
    obtain ⟨t', rfl⟩ := rw'
    refine hQ _ _ ⟨fun b o e => hk b o (hJ.1 b o e), hJ.2⟩ ?_ (hk _ _ hS) ⟨t', by rw [en]⟩ fun _ _ h => h
    exact ⟨hst.1.at fun o e => hk _ _ e, hst.2.at fun o e => hk _ _ e⟩
  · -- told
    obtain ⟨h1, h2⟩ := argBest_gt (fun j => tm (ns.getD j "")) (its.toArray.size - 1)
    obtain ⟨n, hn1, rn⟩ := hat _ v hP
    have en : ∀ {j n}, ns[j]? = some n → ns.getD j "" = n := fun {j n} e => by rw [List.getD_eq_getElem?_getD, e] <;> rfl
    obtain ⟨sh, sg, sd, st, so⟩ := s'
    obtain ⟨j1, j2, j3, j4⟩ := hJ
    have j2 : sg = s2.gens := j2
    have j3 : sd = s2.drawn := j3
    have j4 : so = s2.os := j4
    subst j2 j3 j4
    refine ⟨.str n, H2, I2.kept (h' := sh) (t' := st) j1, rn, q1 n H2 eN (List.mem_of_getElem? hn1) fun r hr => ?_⟩
    obtain ⟨l, hl3⟩ := List.mem_iff_getElem?.mp hr
    have h3 := h2 l (by rw [List.size_toArray, hlen]; have := (List.getElem?_eq_some_iff.mp hl3).1; omega)
    have h3 : tm (ns.getD l "") ≤ tm (ns.getD (argBest (fun i j => decide (tm (ns.getD i "") > tm (ns.getD j ""))) (its.toArray.size - 1)) "") := h3
    rw [en hl3, en hn1] at h3
    exact h3
end
end SW


/-! ### texts as lists of signs -/
namespace SW
open PySem PySem.Spec PyProof.Rows L2 He TL
theorem strip_tl (x y : Str) : Txt.stripChars x y = Txt.stripBy y.cps.contains true true x := rfl
theorem takeWhile_len {p : Nat → Bool} : ∀ {l : List Nat}, (l.takeWhile p).length = l.length → ∀ c ∈ l, p c = true
  | [], _, c, h => by cases h
  | a :: r, e, c, h => by
    cases q : p a with
    | false =>
      rw [List.takeWhile_cons, q] at e
      simp at e
    | true =>
      rw [List.takeWhile_cons, q] at e
      simp only [if_true, List.length_cons, Nat.add_right_cancel_iff] at e
      rcases List.mem_cons.mp h with rfl | h
      · exact q
      · exact takeWhile_len e c h
theorem takeWhile_all {p : Nat → Bool} : ∀ {l : List Nat}, (∀ c ∈ l, p c = true) → l.takeWhile p = l
  | [], _ => rfl
  | a :: r, h => by
    rw [List.takeWhile_cons, h a (List.mem_cons_self ..)]
    simp only [if_true]
    rw [takeWhile_all fun c hc => h c (List.mem_cons_of_mem _ hc)]
theorem drop_take_head {p : Nat → Bool} : ∀ (l : List Nat) {c : Nat} {r : List Nat}, l.drop (l.takeWhile p).length = c :: r → p c = false
  | [], c, r, h => by simp at h
  | a :: l, c, r, h => by
    cases q : p a with
    | false =>
      rw [List.takeWhile_cons, q] at h
      simp at h
      rw [← h.1]
      exact q
    | true =>
      rw [List.takeWhile_cons, q] at h
      simp only [if_true, List.length_cons, List.drop_succ_cons] at h
      exact drop_take_head l h
theorem strip_nil (x y : Str) : tl (Txt.stripChars x y) = [] ↔ ∀ c ∈ tl x, c ∈ tl y := by
  have hg : ∀ c, y.cps.contains c = true ↔ c ∈ tl y := fun c => by simp [tl]
  rw [strip_tl, PySem.W.stripBy_eq]
  show tl (Builtin.Str.strSub x _ _) = [] ↔ _
  rw [tl_strSub]
  show (((tl x).drop ((tl x).takeWhile y.cps.contains).length).take (x.length - (((tl x).drop ((tl x).takeWhile y.cps.contains).length).reverse.takeWhile y.cps.contains).length - ((tl x).takeWhile y.cps.contains).length)) = [] ↔ _
  constructor
  · intro h
    cases e : (tl x).drop ((tl x).takeWhile y.cps.contains).length with
    | nil =>
      have hl : ((tl x).takeWhile y.cps.contains).length = (tl x).length := by
        have h1 := List.drop_eq_nil_iff.mp e
        have h2 := (List.takeWhile_sublist (l := tl x) y.cps.contains).length_le
        omega
      exact fun c hc => (hg c).mp (takeWhile_len hl c hc)
    | cons c r =>
      exfalso
      have hc := drop_take_head (tl x) e
      have hl : (tl x).length = ((tl x).takeWhile y.cps.contains).length + (r.length + 1) := by
        have := congrArg List.length e
        rw [List.length_drop, List.length_cons] at this
        omega
      rw [e] at h
      have hr : ((c :: r).reverse.takeWhile y.cps.contains).length < r.length + 1 := by
        refine Nat.lt_of_le_of_ne ?_ fun z => ?_
        · have := (List.takeWhile_sublist (l := (c :: r).reverse) y.cps.contains).length_le
          simpa using this
        · have := takeWhile_len (l := (c :: r).reverse) (p := y.cps.contains) (by simpa using z) c (by simp)
          rw [hc] at this
          cases this
      rw [len_tl, hl] at h
      have h3 := congrArg List.length h
      rw [List.length_take, List.length_cons, List.length_nil] at h3
      omega
  · intro h
    have e : (tl x).takeWhile y.cps.contains = tl x := takeWhile_all fun c hc => (hg c).mpr (h c hc)
    rw [e, List.drop_length, List.take_nil]
theorem tl_nil {x : Str} : tl x = [] ↔ x = Str.empty := ⟨fun h => ext_tl (by rw [h]; rfl), fun h => by rw [h]; rfl⟩
theorem starts1 (x y : Str) (c : Nat) (hy : tl y = [c]) : Txt.startswith x y = ((tl x).head? == some c) := by
  have hl : y.length = 1 := by rw [len_tl, hy]; rfl
  show (decide (0 + y.length ≤ x.length) && Builtin.Str.subAt x y 0) = _
  rw [StrLaws.subAt_eq, hl]
  show (decide (0 + 1 ≤ x.length) && ((tl x).drop 0).take 1 == tl y) = _
  rw [hy, len_tl]
  cases e : tl x with
  | nil => rfl
  | cons a r =>
    simp only [List.length_cons, List.drop_zero, List.head?_cons]
    rw [show decide (0 + 1 ≤ r.length + 1) = true from decide_eq_true (by omega)]
    rw [Bool.eq_iff_iff]
    simp
/-- how numbers stand in a text: figures, no nought ahead of others, at most four, at most so great -/
def isDig (c : Nat) : Bool := decide (48 ≤ c) && decide (c ≤ 57)
theorem isDig_iff (c : Nat) : isDig c = true ↔ 48 ≤ c ∧ c ≤ 57 := by simp [isDig]
def figs : Str := "0123456789"
theorem tl_figs : tl figs = [48, 49, 50, 51, 52, 53, 54, 55, 56, 57] := by decide +kernel
theorem mem_figs (c : Nat) : c ∈ tl figs ↔ isDig c = true := by
  rw [tl_figs, isDig_iff]
  simp only [List.mem_cons, List.not_mem_nil, or_false]
  omega
/-- the number that the signs tell, -1 where none -/
def numIn (cs : List Nat) (most : Int) : Int :=
  if cs = [] ∨ 4 < cs.length ∨ cs.all isDig = false then -1
  else if (cs.head? = some 48 ∧ 1 < cs.length) ∨ most < (NumText.digitsVal cs : Int) then -1
  else (NumText.digitsVal cs : Int)
theorem numIn_ge (cs : List Nat) (most : Int) : -1 ≤ numIn cs most := by
  unfold numIn
  split
  · omega
  · split <;> omega
theorem numIn_le (cs : List Nat) {most : Int} (h : -1 ≤ most) : numIn cs most ≤ most := by
  unfold numIn
  split
  · omega
  · split
    · omega
    · rename_i h2
      omega
/-- what is written is read: the figures of n, for n at most so great and below 10000 -/
theorem numL_head {n : Nat} (h : 10 ≤ n) : (numL n).head? ≠ some 48 := by
  induction n using Nat.strongRecOn with
  | ind n ih =>
    rw [numL_step h]
    by_cases h2 : n / 10 < 10
    · rw [numL_lt h2]
      simp
      omega
    · have := ih (n / 10) (by omega) (by omega)
      intro e
      cases q : numL (n / 10) with
      | nil => exact numL_ne _ q
      | cons a r =>
        rw [q] at e this
        exact this e
theorem numIn_num {n : Nat} {most : Int} (h : (n : Int) ≤ most) (h4 : n < 10000) : numIn (numL n) most = (n : Int) := by
  have h1 : numL n ≠ [] := numL_ne n
  have h2 : (numL n).length ≤ 4 := numL_len (by decide) (by omega)
  have h3 : (numL n).all isDig = true := by
    rw [List.all_eq_true]
    exact fun c hc => (isDig_iff c).mpr (numL_digits n c hc)
  unfold numIn
  have hn : ¬ (numL n = [] ∨ 4 < (numL n).length ∨ (numL n).all isDig = false) := by
    rintro (e | e | e)
    · exact h1 e
    · omega
    · rw [h3] at e
      cases e
  rw [if_neg hn, numL_val]
  rw [if_neg]
  rintro (⟨e, e2⟩ | e)
  · by_cases h10 : 10 ≤ n
    · exact numL_head h10 e
    · rw [numL_lt (by omega)] at e2
      simp at e2
  · omega

theorem takeWhile_ne {c : Nat} : ∀ {l : List Nat}, c ∉ l → l.takeWhile (· != c) = l ∧ l.dropWhile (· != c) = []
  | [], _ => ⟨rfl, rfl⟩
  | a :: r, h => by
    have h1 : a ≠ c := fun e => h (by rw [e]; exact List.mem_cons_self ..)
    have h2 := takeWhile_ne (l := r) fun m => h (List.mem_cons_of_mem _ m)
    have h3 : (a != c) = true := bne_iff_ne.mpr h1
    rw [List.takeWhile_cons, List.dropWhile_cons, h3]
    simp only [if_true]
    exact ⟨by rw [h2.1], h2.2⟩
theorem takeWhile_split {c : Nat} : ∀ {l : List Nat}, c ∈ l → l = l.takeWhile (· != c) ++ c :: (l.dropWhile (· != c)).tail ∧ c ∉ l.takeWhile (· != c)
  | [], h => by cases h
  | a :: r, h => by
    by_cases e : a = c
    · subst e
      rw [List.takeWhile_cons, List.dropWhile_cons]
      simp
    · have h3 : (a != c) = true := bne_iff_ne.mpr e
      have h2 := takeWhile_split (l := r) ((List.mem_cons.mp h).resolve_left fun z => e z.symm)
      rw [List.takeWhile_cons, List.dropWhile_cons, h3]
      simp only [if_true, List.cons_append]
      refine ⟨congrArg _ h2.1, fun m => ?_⟩
      rcases List.mem_cons.mp m with z | z
      · exact e z.symm
      · exact h2.2 z
/-- a text parted by one sign -/
theorem part1 (z y : Str) (c : Nat) (hy : tl y = [c]) : tl (Txt.partition z y).1 = (tl z).takeWhile (· != c) ∧ (tl (Txt.partition z y).2.1 = [] ↔ c ∉ tl z) ∧ tl (Txt.partition z y).2.2 = ((tl z).dropWhile (· != c)).tail := by
  by_cases h : c ∈ tl z
  · obtain ⟨e, hn⟩ := takeWhile_split h
    have ez : z = (⟨((tl z).takeWhile (· != c)).toArray⟩ : Str) ++ y ++ (⟨((tl z).dropWhile (· != c)).tail.toArray⟩ : Str) := ext_tl (by
      rw [tl_append, tl_append, hy, tl_mk, tl_mk, List.append_assoc]
      exact e)
    have p := partition_app (y := y) (s := c) (S := []) hy (a := ⟨((tl z).takeWhile (· != c)).toArray⟩) (b := ⟨((tl z).dropWhile (· != c)).tail.toArray⟩) hn
    rw [← ez] at p
    rw [p]
    refine ⟨rfl, ⟨fun q => ?_, fun q => absurd h q⟩, rfl⟩
    rw [hy] at q
    cases q
  · have p := partition_none (y := y) (s := c) (S := []) hy (a := z) h
    obtain ⟨h1, h2⟩ := takeWhile_ne h
    rw [p, h1, h2]
    exact ⟨rfl, ⟨fun _ => h, fun _ => rfl⟩, rfl⟩
theorem part1_len (z y : Str) (c : Nat) (hy : tl y = [c]) : (Txt.partition z y).1.length ≤ z.length ∧ (Txt.partition z y).2.2.length ≤ z.length := by
  obtain ⟨h1, _, h2⟩ := part1 z y c hy
  rw [len_tl, len_tl, len_tl, h1, h2, List.length_tail]
  have := (List.takeWhile_sublist (l := tl z) (· != c)).length_le
  have := (List.dropWhile_sublist (l := tl z) (· != c)).length_le
  exact ⟨by omega, by omega⟩
end SW


/-! ### kinds of parts -/
namespace SW
open PySem PySem.Spec PyProof.Rows L2 He
inductive Kc where
  | src | snk | both | either | odd | plus | pick | up | down
  deriving DecidableEq
def Kc.nm : Kc → Str
  | .src => "Source" | .snk => "Sink" | .both => "Both" | .either => "Either" | .odd => "Odd" | .plus => "Plus" | .pick => "Pick" | .up => "Up" | .down => "Down"
structure Kd where
  c : Kc
  n : Int
  deriving DecidableEq
def Kc.cnt : Kc → Bool
  | .up => true | .down => true | _ => false
def Kd.flds (k : Kd) : List (Str × V) := match k.c with
  | .up => [("count", .int k.n)] | .down => [("count", .int k.n)] | _ => []
def KindAt (K : PySem.W.Frag) (H : Hp) (a : Addr) (k : Kd) : Prop := ∃ dx, H a = some (.ins (ga K k.c.nm) dx k.flds)
def Kc.lines : Kc → Nat
  | .src => 0 | .snk => 1 | .pick => 3 | .up => 1 | .down => 1 | _ => 2
def Kd.word (k : Kd) : Str := match k.c with
  | .src => "in" | .snk => "out" | .both => "and" | .either => "or" | .odd => "odd" | .plus => "plus" | .pick => "pick" | .up => ("up:" : Str) ++ (toString k.n : Str) | .down => ("down:" : Str) ++ (toString k.n : Str)
def Kd.ok (k : Kd) : Prop := k.c.cnt = true → 1 ≤ k.n ∧ k.n ≤ 63
def Kd.joined (k : Kd) (ns : List Int) : Int := match k.c, ns with
  | .snk, x :: _ => x
  | .both, x :: y :: _ => Builtin.bitAnd x y
  | .either, x :: y :: _ => Builtin.bitOr x y
  | .odd, x :: y :: _ => Builtin.bitXor x y
  | .plus, x :: y :: _ => x + y
  | .pick, x :: y :: z :: _ => if x = 0 then z else y
  | .up, x :: _ => x * 2 ^ k.n.toNat
  | .down, x :: _ => x / 2 ^ k.n.toNat
  | _, _ => 0
def Kd.made (k : Kd) (ns : List Int) (w : Int) : Int := Builtin.bitAnd (k.joined ns) (1 * 2 ^ w.toNat - 1)
def spLines (K : PySem.W.Frag) (c : Kc) : Sp := fun vs H Q _ => ∃ (a : Addr) (k : Kd), vs = [.ref a] ∧ KindAt K H a k ∧ k.c = c ∧ Q (.int (c.lines : Int)) H
def spWord (K : PySem.W.Frag) (c : Kc) : Sp := fun vs H Q _ => ∃ (a : Addr) (k : Kd), vs = [.ref a] ∧ KindAt K H a k ∧ k.c = c ∧ k.ok ∧ Q (.str k.word) H
def spJoined (K : PySem.W.Frag) (c : Kc) : Sp := fun vs H Q _ => ∃ (a : Addr) (k : Kd) (l : Addr) (ns : List Int), vs = [.ref a, .ref l] ∧ KindAt K H a k ∧ k.c = c ∧ k.ok ∧ SqL K H l (ns.map V.int) ∧ c.lines ≤ ns.length ∧ (∀ n ∈ ns, 0 ≤ n ∧ n < 2 ^ 64) ∧ Q (.int (k.joined ns)) H
def spMade (K : PySem.W.Frag) (c : Kc) : Sp := fun vs H Q _ => ∃ (a : Addr) (k : Kd) (l : Addr) (ns : List Int) (w : Int), vs = [.ref a, .ref l, .int w] ∧ KindAt K H a k ∧ k.c = c ∧ k.ok ∧ SqL K H l (ns.map V.int) ∧ c.lines ≤ ns.length ∧ (∀ n ∈ ns, 0 ≤ n ∧ n < 2 ^ 64) ∧ 0 ≤ w ∧ w ≤ 64 ∧ Q (.int (k.made ns w)) H
def spInitC (C : Addr) : Sp := fun vs H Q _ => ∃ (x dx : Addr) (n : Int), vs = [.ref x, .int n] ∧ H x = some (.ins C dx []) ∧ Q .non (upd H x (.ins C dx [("count", .int n)]))
theorem at0 {α : Type} (x : α) (r : List α) : atI (x :: r) 0 = some x := atI_nat (j := 0) rfl
theorem at1 {α : Type} (x y : α) (r : List α) : atI (x :: y :: r) 1 = some y := atI_nat (j := 1) rfl
theorem at2 {α : Type} (x y z : α) (r : List α) : atI (x :: y :: z :: r) 2 = some z := atI_nat (j := 2) rfl
theorem dgt (n : Int) (h : n.natAbs < 2 ^ 100) : n.natAbs.log2 < 1920 := by
  by_cases e : n.natAbs = 0
  · rw [e]
    decide
  · exact Nat.lt_trans ((Nat.log2_lt e).mpr h) (by decide)
theorem cons1 {α : Type} : ∀ {l : List α}, 1 ≤ l.length → ∃ x r, l = x :: r
  | [], h => by simp at h
  | x :: r, _ => ⟨x, r, rfl⟩
theorem cons2 {α : Type} {l : List α} (h : 2 ≤ l.length) : ∃ x y r, l = x :: y :: r := by
  obtain ⟨x, l, rfl⟩ := cons1 (Nat.le_trans (by decide) h)
  obtain ⟨y, r, rfl⟩ := cons1 (l := l) (Nat.le_of_succ_le_succ h)
  exact ⟨x, y, r, rfl⟩
theorem cons3 {α : Type} {l : List α} (h : 3 ≤ l.length) : ∃ x y z r, l = x :: y :: z :: r := by
  obtain ⟨x, l, rfl⟩ := cons1 (Nat.le_trans (by decide) h)
  obtain ⟨y, z, r, rfl⟩ := cons2 (l := l) (Nat.le_of_succ_le_succ h)
  exact ⟨x, y, z, r, rfl⟩
theorem num_len {n : Int} (h0 : 0 ≤ n) (h : n < 10000) : (Str.ofString (toString n)).length ≤ 4 := by
  obtain ⟨m, rfl⟩ := Int.eq_ofNat_of_zero_le h0
  rw [TL.len_tl, TL.tl_num]
  exact TL.numL_len (by decide) (by omega)
theorem up_len : ("up:" : Str).length = 3 := by decide +kernel
theorem down_len : ("down:" : Str).length = 5 := by decide +kernel
theorem Txt.ck {K : PySem.W.Frag} {mg : Str → Option Value} (T : Txt K mg) : ∀ c : Kc, Cls K (ga K c.nm)
  | .src => T.c_Source | .snk => T.c_Sink | .both => T.c_Both | .either => T.c_Either | .odd => T.c_Odd | .plus => T.c_Plus | .pick => T.c_Pick | .up => T.c_Up | .down => T.c_Down
theorem Txt.mk_lines_ {K : PySem.W.Frag} {mg : Str → Option Value} (T : Txt K mg) : ∀ c : Kc, Meth K (ga K c.nm) "lines" (ma K (ga K c.nm) "lines")
  | .src => T.m_Source_lines | .snk => T.m_Sink_lines | .both => T.m_Both_lines | .either => T.m_Either_lines | .odd => T.m_Odd_lines | .plus => T.m_Plus_lines | .pick => T.m_Pick_lines | .up => T.m_Up_lines | .down => T.m_Down_lines
theorem Txt.mk_word_ {K : PySem.W.Frag} {mg : Str → Option Value} (T : Txt K mg) : ∀ c : Kc, Meth K (ga K c.nm) "word" (ma K (ga K c.nm) "word")
  | .src => T.m_Source_word | .snk => T.m_Sink_word | .both => T.m_Both_word | .either => T.m_Either_word | .odd => T.m_Odd_word | .plus => T.m_Plus_word | .pick => T.m_Pick_word | .up => T.m_Up_word | .down => T.m_Down_word
theorem Txt.mk_joined_ {K : PySem.W.Frag} {mg : Str → Option Value} (T : Txt K mg) : ∀ c : Kc, Meth K (ga K c.nm) "joined" (ma K (ga K c.nm) "joined")
  | .src => T.m_Source_joined | .snk => T.m_Sink_joined | .both => T.m_Both_joined | .either => T.m_Either_joined | .odd => T.m_Odd_joined | .plus => T.m_Plus_joined | .pick => T.m_Pick_joined | .up => T.m_Up_joined | .down => T.m_Down_joined
theorem Txt.mk_made_ {K : PySem.W.Frag} {mg : Str → Option Value} (T : Txt K mg) : ∀ c : Kc, Meth K (ga K c.nm) "made" (ma K (ga K c.nm) "made")
  | .src => T.m_Source_made | .snk => T.m_Sink_made | .both => T.m_Both_made | .either => T.m_Either_made | .odd => T.m_Odd_made | .plus => T.m_Plus_made | .pick => T.m_Pick_made | .up => T.m_Up_made | .down => T.m_Down_made
theorem flds_no (k : Kd) {m : Str} (h : m ≠ "count") : k.flds.lookup m = none := by
  obtain ⟨c, n⟩ := k
  cases c <;> first | rfl | (show List.lookup m [(("count" : Str), V.int n)] = none; rw [List.lookup_cons, beq_eq_false_iff_ne.mpr h]; rfl)
section
variable {P : Program} {w : World} {K : PySem.W.Frag} {mg : Str → Option Value} {base : Heap}
theorem ok_Source_lines (T : Txt K mg) : Ok P w K mg base 1 (ma K (ga K "Source") "lines") ["self"] (spLines K .src) := by
  refine mkOk T.F_Source_lines sc_Source_lines (fun _ _ _ _ _ _ us hl => match us, hl with | [_], _ => rfl) (by rintro vs H Q E ⟨_, _, rfl, _⟩; rfl) (fun cdv A outer s H vs Q E hr h => ?_)
  obtain ⟨a, k, rfl, ha, hc, q⟩ := h
  exact ⟨_, (pss_one (ps_ret pe_int)), q⟩
theorem ok_Source_word (T : Txt K mg) : Ok P w K mg base 1 (ma K (ga K "Source") "word") ["self"] (spWord K .src) := by
  refine mkOk T.F_Source_word sc_Source_word (fun _ _ _ _ _ _ us hl => match us, hl with | [_], _ => rfl) (by rintro vs H Q E ⟨_, _, rfl, _⟩; rfl) (fun cdv A outer s H vs Q E hr h => ?_)
  obtain ⟨a, ⟨c, n⟩, rfl, ⟨dx, ha⟩, hc, hk, q⟩ := h
  cases (show c = .src from hc)
  exact ⟨_, (pss_one (ps_ret pe_str)), q⟩
theorem ok_Sink_lines (T : Txt K mg) : Ok P w K mg base 1 (ma K (ga K "Sink") "lines") ["self"] (spLines K .snk) := by
  refine mkOk T.F_Sink_lines sc_Sink_lines (fun _ _ _ _ _ _ us hl => match us, hl with | [_], _ => rfl) (by rintro vs H Q E ⟨_, _, rfl, _⟩; rfl) (fun cdv A outer s H vs Q E hr h => ?_)
  obtain ⟨a, k, rfl, ha, hc, q⟩ := h
  exact ⟨_, (pss_one (ps_ret pe_int)), q⟩
theorem ok_Sink_word (T : Txt K mg) : Ok P w K mg base 1 (ma K (ga K "Sink") "word") ["self"] (spWord K .snk) := by
  refine mkOk T.F_Sink_word sc_Sink_word (fun _ _ _ _ _ _ us hl => match us, hl with | [_], _ => rfl) (by rintro vs H Q E ⟨_, _, rfl, _⟩; rfl) (fun cdv A outer s H vs Q E hr h => ?_)
  obtain ⟨a, ⟨c, n⟩, rfl, ⟨dx, ha⟩, hc, hk, q⟩ := h
  cases (show c = .snk from hc)
  exact ⟨_, (pss_one (ps_ret pe_str)), q⟩
theorem ok_Both_lines (T : Txt K mg) : Ok P w K mg base 1 (ma K (ga K "Both") "lines") ["self"] (spLines K .both) := by
  refine mkOk T.F_Both_lines sc_Kind_lines (fun _ _ _ _ _ _ us hl => match us, hl with | [_], _ => rfl) (by rintro vs H Q E ⟨_, _, rfl, _⟩; rfl) (fun cdv A outer s H vs Q E hr h => ?_)
  obtain ⟨a, k, rfl, ha, hc, q⟩ := h
  exact ⟨_, (pss_one (ps_ret pe_int)), q⟩
theorem ok_Both_word (T : Txt K mg) : Ok P w K mg base 1 (ma K (ga K "Both") "word") ["self"] (spWord K .both) := by
  refine mkOk T.F_Both_word sc_Both_word (fun _ _ _ _ _ _ us hl => match us, hl with | [_], _ => rfl) (by rintro vs H Q E ⟨_, _, rfl, _⟩; rfl) (fun cdv A outer s H vs Q E hr h => ?_)
  obtain ⟨a, ⟨c, n⟩, rfl, ⟨dx, ha⟩, hc, hk, q⟩ := h
  cases (show c = .both from hc)
  exact ⟨_, (pss_one (ps_ret pe_str)), q⟩
theorem ok_Either_lines (T : Txt K mg) : Ok P w K mg base 1 (ma K (ga K "Either") "lines") ["self"] (spLines K .either) := by
  refine mkOk T.F_Either_lines sc_Kind_lines (fun _ _ _ _ _ _ us hl => match us, hl with | [_], _ => rfl) (by rintro vs H Q E ⟨_, _, rfl, _⟩; rfl) (fun cdv A outer s H vs Q E hr h => ?_)
  obtain ⟨a, k, rfl, ha, hc, q⟩ := h
  exact ⟨_, (pss_one (ps_ret pe_int)), q⟩
theorem ok_Either_word (T : Txt K mg) : Ok P w K mg base 1 (ma K (ga K "Either") "word") ["self"] (spWord K .either) := by
  refine mkOk T.F_Either_word sc_Either_word (fun _ _ _ _ _ _ us hl => match us, hl with | [_], _ => rfl) (by rintro vs H Q E ⟨_, _, rfl, _⟩; rfl) (fun cdv A outer s H vs Q E hr h => ?_)
  obtain ⟨a, ⟨c, n⟩, rfl, ⟨dx, ha⟩, hc, hk, q⟩ := h
  cases (show c = .either from hc)
  exact ⟨_, (pss_one (ps_ret pe_str)), q⟩
theorem ok_Odd_lines (T : Txt K mg) : Ok P w K mg base 1 (ma K (ga K "Odd") "lines") ["self"] (spLines K .odd) := by
  refine mkOk T.F_Odd_lines sc_Kind_lines (fun _ _ _ _ _ _ us hl => match us, hl with | [_], _ => rfl) (by rintro vs H Q E ⟨_, _, rfl, _⟩; rfl) (fun cdv A outer s H vs Q E hr h => ?_)
  obtain ⟨a, k, rfl, ha, hc, q⟩ := h
  exact ⟨_, (pss_one (ps_ret pe_int)), q⟩
theorem ok_Odd_word (T : Txt K mg) : Ok P w K mg base 1 (ma K (ga K "Odd") "word") ["self"] (spWord K .odd) := by
  refine mkOk T.F_Odd_word sc_Odd_word (fun _ _ _ _ _ _ us hl => match us, hl with | [_], _ => rfl) (by rintro vs H Q E ⟨_, _, rfl, _⟩; rfl) (fun cdv A outer s H vs Q E hr h => ?_)
  obtain ⟨a, ⟨c, n⟩, rfl, ⟨dx, ha⟩, hc, hk, q⟩ := h
  cases (show c = .odd from hc)
  exact ⟨_, (pss_one (ps_ret pe_str)), q⟩
theorem ok_Plus_lines (T : Txt K mg) : Ok P w K mg base 1 (ma K (ga K "Plus") "lines") ["self"] (spLines K .plus) := by
  refine mkOk T.F_Plus_lines sc_Kind_lines (fun _ _ _ _ _ _ us hl => match us, hl with | [_], _ => rfl) (by rintro vs H Q E ⟨_, _, rfl, _⟩; rfl) (fun cdv A outer s H vs Q E hr h => ?_)
  obtain ⟨a, k, rfl, ha, hc, q⟩ := h
  exact ⟨_, (pss_one (ps_ret pe_int)), q⟩
theorem ok_Plus_word (T : Txt K mg) : Ok P w K mg base 1 (ma K (ga K "Plus") "word") ["self"] (spWord K .plus) := by
  refine mkOk T.F_Plus_word sc_Plus_word (fun _ _ _ _ _ _ us hl => match us, hl with | [_], _ => rfl) (by rintro vs H Q E ⟨_, _, rfl, _⟩; rfl) (fun cdv A outer s H vs Q E hr h => ?_)
  obtain ⟨a, ⟨c, n⟩, rfl, ⟨dx, ha⟩, hc, hk, q⟩ := h
  cases (show c = .plus from hc)
  exact ⟨_, (pss_one (ps_ret pe_str)), q⟩
theorem ok_Pick_lines (T : Txt K mg) : Ok P w K mg base 1 (ma K (ga K "Pick") "lines") ["self"] (spLines K .pick) := by
  refine mkOk T.F_Pick_lines sc_Pick_lines (fun _ _ _ _ _ _ us hl => match us, hl with | [_], _ => rfl) (by rintro vs H Q E ⟨_, _, rfl, _⟩; rfl) (fun cdv A outer s H vs Q E hr h => ?_)
  obtain ⟨a, k, rfl, ha, hc, q⟩ := h
  exact ⟨_, (pss_one (ps_ret pe_int)), q⟩
theorem ok_Pick_word (T : Txt K mg) : Ok P w K mg base 1 (ma K (ga K "Pick") "word") ["self"] (spWord K .pick) := by
  refine mkOk T.F_Pick_word sc_Pick_word (fun _ _ _ _ _ _ us hl => match us, hl with | [_], _ => rfl) (by rintro vs H Q E ⟨_, _, rfl, _⟩; rfl) (fun cdv A outer s H vs Q E hr h => ?_)
  obtain ⟨a, ⟨c, n⟩, rfl, ⟨dx, ha⟩, hc, hk, q⟩ := h
  cases (show c = .pick from hc)
  exact ⟨_, (pss_one (ps_ret pe_str)), q⟩
theorem ok_Up_lines (T : Txt K mg) : Ok P w K mg base 1 (ma K (ga K "Up") "lines") ["self"] (spLines K .up) := by
  refine mkOk T.F_Up_lines sc_Up_lines (fun _ _ _ _ _ _ us hl => match us, hl with | [_], _ => rfl) (by rintro vs H Q E ⟨_, _, rfl, _⟩; rfl) (fun cdv A outer s H vs Q E hr h => ?_)
  obtain ⟨a, k, rfl, ha, hc, q⟩ := h
  exact ⟨_, (pss_one (ps_ret pe_int)), q⟩
theorem ok_Up_word (T : Txt K mg) : Ok P w K mg base 1 (ma K (ga K "Up") "word") ["self"] (spWord K .up) := by
  refine mkOk T.F_Up_word sc_Up_word (fun _ _ _ _ _ _ us hl => match us, hl with | [_], _ => rfl) (by rintro vs H Q E ⟨_, _, rfl, _⟩; rfl) (fun cdv A outer s H vs Q E hr h => ?_)
  obtain ⟨a, ⟨c, n⟩, rfl, ⟨dx, ha⟩, hc, hk, q⟩ := h
  cases (show c = .up from hc)
  have h63 : 1 ≤ n ∧ n ≤ 63 := hk rfl
  have hl := num_len (n := n) (by omega) (by omega)
  refine ⟨_, (pss_one (ps_ret (pe_op op_add_str pe_str (pe_callTy call_str_int (by rfl) T.f_str (by decide +kernel) (pa_cons (pe_fldK (K := K) (pv 0) rfl) pa_nil))))), ?_⟩
  refine ⟨_, rfl, a, _, dx, _, _, rfl, ha, T.c_Up, T.n_Up_count, rfl, _, rfl, dgt n (Nat.lt_of_lt_of_le (by omega : n.natAbs < 64) (by decide)), _, _, rfl, rfl, ?_, q⟩
  exact Nat.le_trans (show ("up:" : Str).length + (Str.ofString (toString n)).length ≤ 100 by rw [up_len]; omega) (by decide)
theorem ok_Down_lines (T : Txt K mg) : Ok P w K mg base 1 (ma K (ga K "Down") "lines") ["self"] (spLines K .down) := by
  refine mkOk T.F_Down_lines sc_Down_lines (fun _ _ _ _ _ _ us hl => match us, hl with | [_], _ => rfl) (by rintro vs H Q E ⟨_, _, rfl, _⟩; rfl) (fun cdv A outer s H vs Q E hr h => ?_)
  obtain ⟨a, k, rfl, ha, hc, q⟩ := h
  exact ⟨_, (pss_one (ps_ret pe_int)), q⟩
theorem ok_Down_word (T : Txt K mg) : Ok P w K mg base 1 (ma K (ga K "Down") "word") ["self"] (spWord K .down) := by
  refine mkOk T.F_Down_word sc_Down_word (fun _ _ _ _ _ _ us hl => match us, hl with | [_], _ => rfl) (by rintro vs H Q E ⟨_, _, rfl, _⟩; rfl) (fun cdv A outer s H vs Q E hr h => ?_)
  obtain ⟨a, ⟨c, n⟩, rfl, ⟨dx, ha⟩, hc, hk, q⟩ := h
  cases (show c = .down from hc)
  have h63 : 1 ≤ n ∧ n ≤ 63 := hk rfl
  have hl := num_len (n := n) (by omega) (by omega)
  refine ⟨_, (pss_one (ps_ret (pe_op op_add_str pe_str (pe_callTy call_str_int (by rfl) T.f_str (by decide +kernel) (pa_cons (pe_fldK (K := K) (pv 0) rfl) pa_nil))))), ?_⟩
  refine ⟨_, rfl, a, _, dx, _, _, rfl, ha, T.c_Down, T.n_Down_count, rfl, _, rfl, dgt n (Nat.lt_of_lt_of_le (by omega : n.natAbs < 64) (by decide)), _, _, rfl, rfl, ?_, q⟩
  exact Nat.le_trans (show ("down:" : Str).length + (Str.ofString (toString n)).length ≤ 100 by rw [down_len]; omega) (by decide)
theorem ok_kind_lines (T : Txt K mg) : ∀ c : Kc, Ok P w K mg base 1 (ma K (ga K c.nm) "lines") ["self"] (spLines K c)
  | .src => ok_Source_lines T | .snk => ok_Sink_lines T | .both => ok_Both_lines T | .either => ok_Either_lines T | .odd => ok_Odd_lines T | .plus => ok_Plus_lines T | .pick => ok_Pick_lines T | .up => ok_Up_lines T | .down => ok_Down_lines T
theorem ok_kind_word (T : Txt K mg) : ∀ c : Kc, Ok P w K mg base 1 (ma K (ga K c.nm) "word") ["self"] (spWord K c)
  | .src => ok_Source_word T | .snk => ok_Sink_word T | .both => ok_Both_word T | .either => ok_Either_word T | .odd => ok_Odd_word T | .plus => ok_Plus_word T | .pick => ok_Pick_word T | .up => ok_Up_word T | .down => ok_Down_word T
theorem ok_Up_init (T : Txt K mg) : Ok P w K mg base 1 (ma K (ga K "Up") "__init__") ["self", "count"] (spInitC (ga K "Up")) := by
  refine mkOk T.F_Up_init sc_Up_init (fun _ _ _ _ _ _ us hl => match us, hl with | [_, _], _ => rfl) (by rintro vs H Q E ⟨_, _, _, rfl, _⟩; rfl) (fun cdv A outer s H vs Q E hr h => ?_)
  obtain ⟨x, dx, n, rfl, hx, q⟩ := h
  refine ⟨_, (pss_one (ps_fld (pv 0) (pv 1) rfl)), ?_⟩
  exact ⟨_, rfl, _, rfl, x, _, dx, [], rfl, hx, T.c_Up, T.n_Up_count, (by show 0 < 1000; decide), q⟩
theorem ok_Down_init (T : Txt K mg) : Ok P w K mg base 1 (ma K (ga K "Down") "__init__") ["self", "count"] (spInitC (ga K "Down")) := by
  refine mkOk T.F_Down_init sc_Down_init (fun _ _ _ _ _ _ us hl => match us, hl with | [_, _], _ => rfl) (by rintro vs H Q E ⟨_, _, _, rfl, _⟩; rfl) (fun cdv A outer s H vs Q E hr h => ?_)
  obtain ⟨x, dx, n, rfl, hx, q⟩ := h
  refine ⟨_, (pss_one (ps_fld (pv 0) (pv 1) rfl)), ?_⟩
  exact ⟨_, rfl, _, rfl, x, _, dx, [], rfl, hx, T.c_Down, T.n_Down_count, (by show 0 < 1000; decide), q⟩
end
end SW


/-! ### numbers and kinds read from words -/
namespace SW
open PySem PySem.Spec PyProof.Rows L2 He TL
theorem dstr (a b : Str) : decide (V.str a = V.str b) = decide (tl a = tl b) := by
  by_cases h : tl a = tl b
  · rw [decide_eq_true h, decide_eq_true (by rw [ext_tl h])]
  · rw [decide_eq_false h, decide_eq_false (fun q => h (by rw [V.str.inj q]))]
theorem tl_emp : tl ("" : Str) = [] := by decide +kernel
theorem tl_0 : tl ("0" : Str) = [48] := by decide +kernel
theorem tl_colon : tl (":" : Str) = [58] := by decide +kernel
theorem line_le {n : Nat} (h : n ≤ 100000) : n ≤ sizeLine := Nat.le_trans h (by decide)
def spNumberIn : Sp := fun vs H Q _ => ∃ (f : Str) (m : Int), vs = [.str f, .int m] ∧ f.length ≤ 100000 ∧ Q (.int (numIn (tl f) m)) H
section
variable {P : Program} {w : World} {K : PySem.W.Frag} {mg : Str → Option Value} {base : Heap}
theorem ok_number_in (T : Txt K mg) : Ok P w K mg base 1 (ga K "number_in") ["figures", "most"] spNumberIn := by
  refine mkOk T.F_number_in sc_number_in (fun _ _ _ _ _ _ us hl => match us, hl with | [_, _], _ => rfl) (by rintro vs H Q E ⟨_, _, rfl, _⟩; rfl) (fun cdv A outer s H vs Q E hr h => ?_)
  obtain ⟨f, m, rfl, hf, q⟩ := h
  refine ⟨_, (pss_cons (ps_if (PW.pt (pw_or (pt_cmpR op_eq (pv 0) pe_str (nomark _)) (pw_or (pt_cmpR op_gt (pe_callB call_len_str (by rfl) T.f_len (by decide +kernel) (pa_cons (pv 0) pa_nil)) pe_int (nomark _)) (pw_or1 (pt_cmpR op_ne (pe_bm PySem.F.plainAttrs_str PySem.F.slot_str_strip PySem.F.type_str_strip mt_stripChars (pv 0) (pa_cons pe_str pa_nil)) pe_str (nomark _)))))) (pss_one (ps_ret (pe_un un_neg pe_int))) pss_nil)
      (pss_cons (ps_if (PW.pt (pw_or (PW.pt (pw_and (pt_val (pe_m1 PySem.F.slot_str_startswith PySem.F.type_str_startswith mt_startswith (pv 0) pe_str)) (pw_and1 (pt_cmpR op_gt (pe_callB call_len_str (by rfl) T.f_len (by decide +kernel) (pa_cons (pv 0) pa_nil)) pe_int (nomark _))))) (pw_or1 (pt_cmpR op_gt (pe_callTy call_int_str (by rfl) T.f_int (by decide +kernel) (pa_cons (pv 0) pa_nil)) (pv 1) (nomark _))))) (pss_one (ps_ret (pe_un un_neg pe_int))) pss_nil)
      (pss_one (ps_ret (pe_callTy call_int_str (by rfl) T.f_int (by decide +kernel) (pa_cons (pv 0) pa_nil)))))), ?_⟩
  have hl := len_tl f
  have hst : tl (Txt.stripChars f "0123456789") = [] ↔ (tl f).all isDig = true := by
    rw [strip_nil, List.all_eq_true]
    exact ⟨fun h c hc => (mem_figs c).mp (h c hc), fun h c hc => (mem_figs c).mpr (h c hc)⟩
  have neg : numIn (tl f) m = -1 → ∀ (σ : L2.St) (D : Ends), D.rt = Q → tRet (tUn (rU fun i => .int (-i)) (tC (.int 1))) D σ H := fun e σ D hD => by
    rw [e] at q
    exact ⟨_, rfl, hD ▸ q⟩
  refine ⟨_, rfl, rfl, _, rfl, ?_⟩
  rw [dstr, tl_emp]
  refine ite2 (fun h1 => iteT ?_) (fun h1 => ?_)
  · exact neg (if_pos (.inl (of_decide_eq_true h1))) _ _ rfl
  replace h1 : ¬ tl f = [] := fun z => h1 (decide_eq_true z)
  refine ⟨_, rfl, _, rfl, line_le hf, _, _, rfl, rfl, _, rfl, ?_⟩
  refine ite2 (fun h2 => iteT ?_) (fun h2 => ?_)
  · have := of_decide_eq_true h2
    exact neg (if_pos (.inr (.inl (by omega)))) _ _ rfl
  replace h2 : ¬ 4 < (tl f).length := fun z => h2 (decide_eq_true (by omega))
  refine ⟨_, rfl, rfl, _, _, rfl, rfl, line_le hf, rfl, _, rfl, ?_⟩
  rw [dstr, tl_emp]
  refine ite2 (fun h3 => ?_) (fun h3 => ?_)
  · refine neg (if_pos (.inr (.inr ?_))) _ _ rfl
    cases e : (tl f).all isDig with
    | false => rfl
    | true =>
      rw [decide_eq_true (hst.mpr e)] at h3
      cases h3
  have h3' : (tl f).all isDig = true := by
    refine hst.mp (Classical.byContradiction fun z => h3 ?_)
    rw [decide_eq_false z]
    rfl
  have hv : PySem.intText? f = some ((NumText.digitsVal (tl f) : Nat) : Int) := PySem.intText_digits (fun c hc => (isDig_iff c).mp (List.all_eq_true.mp h3' c hc)) h1 (by omega)
  have hno : ¬ (tl f = [] ∨ 4 < (tl f).length ∨ (tl f).all isDig = false) := by
    rintro (e | e | e)
    · exact h1 e
    · exact h2 e
    · rw [h3'] at e
      cases e
  have hnum : numIn (tl f) m = if ((tl f).head? = some 48 ∧ 1 < (tl f).length) ∨ m < (NumText.digitsVal (tl f) : Int) then -1 else (NumText.digitsVal (tl f) : Int) := if_neg hno
  refine ⟨_, rfl, ⟨_, rfl⟩, _, _, rfl, rfl, _, rfl, ?_⟩
  rw [starts1 f "0" 48 tl_0]
  have rest : ∀ D : Ends, D.rt = Q → ((tl f).head? = some 48 ∧ 1 < (tl f).length → False) → m < (NumText.digitsVal (tl f) : Int) ∨ Q (.int (NumText.digitsVal (tl f) : Int)) H := fun D hD hh => by
    by_cases hm : m < (NumText.digitsVal (tl f) : Int)
    · exact .inl hm
    · rw [hnum, if_neg (by rintro (z | z); exact hh z; exact hm z)] at q
      exact .inr q
  refine ite2 (fun h4 => ?_) (fun h4 => ?_)
  · have h4' : (tl f).head? = some 48 := eq_of_beq h4
    refine ⟨_, rfl, _, rfl, line_le hf, _, _, rfl, rfl, _, rfl, ?_⟩
    refine ite2 (fun h5 => iteT ?_) (fun h5 => ?_)
    · have := of_decide_eq_true h5
      exact neg (by rw [hnum]; exact if_pos (.inl ⟨h4', by omega⟩)) _ _ rfl
    · have h5' : ¬ 1 < (tl f).length := fun z => h5 (decide_eq_true (by omega))
      refine ⟨_, rfl, _, _, rfl, hv, by omega, _, rfl, _, _, rfl, rfl, _, rfl, ?_⟩
      refine ite2 (fun h6 => ?_) (fun h6 => ?_)
      · have := of_decide_eq_true h6
        exact neg (by rw [hnum]; exact if_pos (.inr this)) _ _ rfl
      · refine ⟨_, rfl, _, _, rfl, hv, by omega, ?_⟩
        have h6' : ¬ m < (NumText.digitsVal (tl f) : Int) := fun z => h6 (decide_eq_true z)
        rw [hnum, if_neg (by rintro (z | z); exact h5' z.2; exact h6' z)] at q
        exact q
  · have h4' : ¬ (tl f).head? = some 48 := fun z => h4 (beq_iff_eq.mpr z)
    refine iteF ?_
    refine ⟨_, rfl, _, _, rfl, hv, by omega, _, rfl, _, _, rfl, rfl, _, rfl, ?_⟩
    refine ite2 (fun h6 => ?_) (fun h6 => ?_)
    · have := of_decide_eq_true h6
      exact neg (by rw [hnum]; exact if_pos (.inr this)) _ _ rfl
    · refine ⟨_, rfl, _, _, rfl, hv, by omega, ?_⟩
      have h6' : ¬ m < (NumText.digitsVal (tl f) : Int) := fun z => h6 (decide_eq_true z)
      rw [hnum, if_neg (by rintro (z | z); exact h4' z.1; exact h6' z)] at q
      exact q
end
/-! ### a kind by its word -/
def plainKinds : List Kd := [⟨.src, 0⟩, ⟨.snk, 0⟩, ⟨.both, 0⟩, ⟨.either, 0⟩, ⟨.odd, 0⟩, ⟨.plus, 0⟩, ⟨.pick, 0⟩]
def countedKind (z : Str) : Option Kd :=
  if numIn (tl (Txt.partition z ":").2.2) 63 < 1 then none
  else if tl (Txt.partition z ":").1 = tl "up" then some ⟨.up, numIn (tl (Txt.partition z ":").2.2) 63⟩
  else if tl (Txt.partition z ":").1 = tl "down" then some ⟨.down, numIn (tl (Txt.partition z ":").2.2) 63⟩
  else none
def kindBy (z : Str) : Option Kd := match plainKinds.find? (fun k => decide (tl k.word = tl z)) with
  | some k => some k
  | none => countedKind z
/-- a kind, newly made, or None -/
def KRes (K : PySem.W.Frag) (H H' : Hp) (v : V) : Option Kd → Prop
  | none => v = .non
  | some k => ∃ a, v = .ref a ∧ H a = none ∧ KindAt K H' a k
def spKindBy (K : PySem.W.Frag) : Sp := fun vs H Q _ => ∃ z : Str, vs = [.str z] ∧ z.length ≤ 100000 ∧ ∀ v H', Same H H' → KRes K H H' v (kindBy z) → Q v H'
theorem KindAt.mono {K : PySem.W.Frag} {H H' : Hp} {a : Addr} {k : Kd} (e : Same H H') (h : KindAt K H a k) : KindAt K H' a k := by
  obtain ⟨dx, h⟩ := h
  exact ⟨dx, e _ _ h⟩
theorem plain_ok {k : Kd} (h : k ∈ plainKinds) : k.ok := by
  simp only [plainKinds, List.mem_cons, List.not_mem_nil, or_false] at h
  rcases h with rfl | rfl | rfl | rfl | rfl | rfl | rfl <;> (intro z; cases z)
section
variable {P : Program} {w : World} {K : PySem.W.Frag} {mg : Str → Option Value} {base : Heap}
theorem ok_kind_by (T : Txt K mg) : Ok P w K mg base 3 (ga K "kind_by") ["word"] (spKindBy K) := by
  have G_number_in := ok_number_in (P := P) (w := w) (base := base) T
  have G_kind_word := ok_kind_word (P := P) (w := w) (base := base) T
  have G_Up_init := ok_Up_init (P := P) (w := w) (base := base) T
  have G_Down_init := ok_Down_init (P := P) (w := w) (base := base) T
  refine mkOk T.F_kind_by sc_kind_by (fun _ _ _ _ _ _ us hl => match us, hl with | [_], _ => rfl) (by rintro vs H Q E ⟨_, rfl, _⟩; rfl) (fun cdv A outer s H vs Q E hr h => ?_)
  obtain ⟨z, rfl, hz, q⟩ := h
  refine ⟨_, (pss_cons (ps_for PassesOwn.never rfl (piT (K := K) (pe_tup (pa_cons (pe_makeO0 T.mo_Source T.g_Source) (pa_cons (pe_makeO0 T.mo_Sink T.g_Sink) (pa_cons (pe_makeO0 T.mo_Both T.g_Both) (pa_cons (pe_makeO0 T.mo_Either T.g_Either) (pa_cons (pe_makeO0 T.mo_Odd T.g_Odd) (pa_cons (pe_makeO0 T.mo_Plus T.g_Plus) (pa_cons (pe_makeO0 T.mo_Pick T.g_Pick) pa_nil))))))))) (pg_name (i := 1) sc_kind_by.nd rfl (by first | exact Or.inl rfl | exact Or.inr rfl))
      (pss_one (ps_if (pt_cmpR op_eq (pe_ex fun c => (G_kind_word c).use fun fd F b => pe_meth0 (pv 1) (T.ck c) (T.mk_word_ c) F (hr.mono (by decide)) b .nil pass0) (pv 0) (nomark _)) (pss_one (ps_ret (pv 1))) pss_nil)))
      (pss_cons (ps_asg (pe_partition (pv 0) pe_str) (pg_tup rfl (pgs_cons (pg_name (i := 2) sc_kind_by.nd rfl (by first | exact Or.inl rfl | exact Or.inr rfl)) (pgs_cons (pg_name (i := 3) sc_kind_by.nd rfl (by first | exact Or.inl rfl | exact Or.inr rfl)) (pgs_cons (pg_name (i := 4) sc_kind_by.nd rfl (by first | exact Or.inl rfl | exact Or.inr rfl)) pgs_nil)))))
      (pss_cons (ps_set (i := 5) sc_kind_by.nd rfl (by first | exact Or.inl rfl | exact Or.inr rfl) (pe_callO G_number_in (hr.mono (by decide)) T.g_number_in (pa_cons (pv 4) (pa_cons pe_int pa_nil))))
      (pss_cons (ps_if (pt_cmpR op_lt (pv 5) pe_int (nomark _)) (pss_one (ps_ret pe_non)) pss_nil)
      (pss_cons (ps_if (pt_cmpR op_eq (pv 2) pe_str (nomark _)) (pss_one (ps_ret (pe_makeO T.mk_Up G_Up_init (hr.mono (by decide)) T.g_Up (pa_cons (pv 5) pa_nil)))) pss_nil)
      (pss_cons (ps_if (pt_cmpR op_eq (pv 2) pe_str (nomark _)) (pss_one (ps_ret (pe_makeO T.mk_Down G_Down_init (hr.mono (by decide)) T.g_Down (pa_cons (pv 5) pa_nil)))) pss_nil)
      (pss_one (ps_ret pe_non)))))))), ?_⟩
  intro x0 d0 n0 m0 e0
  obtain ⟨s0, k0⟩ := new_obj (C := ga K "Source") n0 m0
  revert s0 k0
  generalize upd (upd H d0 (HO.own x0)) x0 (HO.ins (ga K "Source") d0 []) = H1
  intro s0 k0
  have t1 : Same H H1 := s0
  intro x1 d1 n1 m1 e1
  obtain ⟨s1, k1⟩ := new_obj (C := ga K "Sink") n1 m1
  revert s1 k1
  generalize upd (upd H1 d1 (HO.own x1)) x1 (HO.ins (ga K "Sink") d1 []) = H2
  intro s1 k1
  have t2 : Same H H2 := Same.trans t1 s1
  intro x2 d2 n2 m2 e2
  obtain ⟨s2, k2⟩ := new_obj (C := ga K "Both") n2 m2
  revert s2 k2
  generalize upd (upd H2 d2 (HO.own x2)) x2 (HO.ins (ga K "Both") d2 []) = H3
  intro s2 k2
  have t3 : Same H H3 := Same.trans t2 s2
  intro x3 d3 n3 m3 e3
  obtain ⟨s3, k3⟩ := new_obj (C := ga K "Either") n3 m3
  revert s3 k3
  generalize upd (upd H3 d3 (HO.own x3)) x3 (HO.ins (ga K "Either") d3 []) = H4
  intro s3 k3
  have t4 : Same H H4 := Same.trans t3 s3
  intro x4 d4 n4 m4 e4
  obtain ⟨s4, k4⟩ := new_obj (C := ga K "Odd") n4 m4
  revert s4 k4
  generalize upd (upd H4 d4 (HO.own x4)) x4 (HO.ins (ga K "Odd") d4 []) = H5
  intro s4 k4
  have t5 : Same H H5 := Same.trans t4 s4
  intro x5 d5 n5 m5 e5
  obtain ⟨s5, k5⟩ := new_obj (C := ga K "Plus") n5 m5
  revert s5 k5
  generalize upd (upd H5 d5 (HO.own x5)) x5 (HO.ins (ga K "Plus") d5 []) = H6
  intro s5 k5
  have t6 : Same H H6 := Same.trans t5 s5
  intro x6 d6 n6 m6 e6
  obtain ⟨s6, k6⟩ := new_obj (C := ga K "Pick") n6 m6
  revert s6 k6
  generalize upd (upd H6 d6 (HO.own x6)) x6 (HO.ins (ga K "Pick") d6 []) = H7
  intro s6 k6
  have t7 : Same H H7 := Same.trans t6 s6
  refine ⟨(by show 7 ≤ sizeLine; decide), fun p hp => ⟨p, rfl, ⟨_, SqT.of upd_same⟩, ?_⟩⟩
  have s7 : Same H7 (upd H7 p (.tup [.ref x0, .ref x1, .ref x2, .ref x3, .ref x4, .ref x5, .ref x6])) := Same.new hp
  have hx : ∀ (i : Nat) (x : V), ([.ref x0, .ref x1, .ref x2, .ref x3, .ref x4, .ref x5, .ref x6] : List V)[i]? = some x → ∃ (a : Addr) (k : Kd), x = .ref a ∧ plainKinds[i]? = some k ∧ KindAt K (upd H7 p (.tup [.ref x0, .ref x1, .ref x2, .ref x3, .ref x4, .ref x5, .ref x6])) a k ∧ H a = none := by
    intro i x hi
    match i, hi with
    | 0, hi => cases hi; exact ⟨x0, _, rfl, rfl, ⟨d0, s7 _ _ (s6 _ _ (s5 _ _ (s4 _ _ (s3 _ _ (s2 _ _ (s1 _ _ k0))))))⟩, n0⟩
    | 1, hi => cases hi; exact ⟨x1, _, rfl, rfl, ⟨d1, s7 _ _ (s6 _ _ (s5 _ _ (s4 _ _ (s3 _ _ (s2 _ _ k1)))))⟩, t1.free n1⟩
    | 2, hi => cases hi; exact ⟨x2, _, rfl, rfl, ⟨d2, s7 _ _ (s6 _ _ (s5 _ _ (s4 _ _ (s3 _ _ k2))))⟩, t2.free n2⟩
    | 3, hi => cases hi; exact ⟨x3, _, rfl, rfl, ⟨d3, s7 _ _ (s6 _ _ (s5 _ _ (s4 _ _ k3)))⟩, t3.free n3⟩
    | 4, hi => cases hi; exact ⟨x4, _, rfl, rfl, ⟨d4, s7 _ _ (s6 _ _ (s5 _ _ k4))⟩, t4.free n4⟩
    | 5, hi => cases hi; exact ⟨x5, _, rfl, rfl, ⟨d5, s7 _ _ (s6 _ _ k5)⟩, t5.free n5⟩
    | 6, hi => cases hi; exact ⟨x6, _, rfl, rfl, ⟨d6, s7 _ _ k6⟩, t6.free n6⟩
    | i + 7, hi => simp at hi
  have t8 := Same.trans t7 s7
  have hxs : ([.ref x0, .ref x1, .ref x2, .ref x3, .ref x4, .ref x5, .ref x6] : List V).length = 7 := rfl
  have hsq : SqT K (upd H7 p (.tup [.ref x0, .ref x1, .ref x2, .ref x3, .ref x4, .ref x5, .ref x6])) p [.ref x0, .ref x1, .ref x2, .ref x3, .ref x4, .ref x5, .ref x6] := SqT.of upd_same
  revert hx t8 hxs hsq
  clear s7
  generalize upd H7 p (HO.tup [.ref x0, .ref x1, .ref x2, .ref x3, .ref x4, .ref x5, .ref x6]) = H8
  generalize ([.ref x0, .ref x1, .ref x2, .ref x3, .ref x4, .ref x5, .ref x6] : List V) = xs
  intro hx t8 hxs hsq
  refine for_tup (K := K) (a := p) (xs := xs) (fun i σ H' => ∃ v, σ = [some (.str z), v, none, none, none, none] ∧ H' = H8 ∧ (plainKinds.take i).find? (fun k => decide (tl k.word = tl z)) = none)
    ⟨none, rfl, rfl, rfl⟩ (fun i σ H' _ h => by obtain ⟨_, _, rfl, _⟩ := h; exact hsq) ?_ ?_
  · rintro i x σ H' hi ⟨v, rfl, rfl, hf⟩
    obtain ⟨a, k, rfl, hk, ⟨dx, ha⟩, hn⟩ := hx i x hi
    have hkm : k ∈ plainKinds := List.mem_of_getElem? hk
    refine ⟨k.c, _, rfl, a, dx, _, rfl, ha, flds_no _ (by decide +kernel), a, k, rfl, ⟨dx, ha⟩, rfl, plain_ok hkm, _, rfl, rfl, _, rfl, ?_⟩
    rw [dstr]
    have htk : plainKinds.take (i + 1) = plainKinds.take i ++ [k] := by
      rw [List.take_succ, hk] <;> rfl
    refine ite2 (fun h1 => ?_) (fun h1 => ?_)
    · refine ⟨_, rfl, ?_⟩
      have e : kindBy z = some k := by
        have e1 : plainKinds.find? (fun k => decide (tl k.word = tl z)) = some k := by
          rw [← List.take_append_drop (i + 1) plainKinds, htk, List.append_assoc, List.find?_append, hf]
          rw [Option.none_or, List.singleton_append, List.find?_cons, h1]
        unfold kindBy
        rw [e1]
      exact q _ _ t8 (by rw [e]; exact ⟨a, rfl, hn, dx, ha⟩)
    · refine ⟨_, rfl, rfl, ?_⟩
      rw [htk, List.find?_append, hf]
      rw [Option.none_or, List.find?_cons, Bool.eq_false_iff.mpr h1] <;> rfl
  · rintro σ H' ⟨v, rfl, rfl, hf⟩
    have e0 : kindBy z = countedKind z := by
      rw [hxs] at hf
      have e1 : plainKinds.find? (fun k => decide (tl k.word = tl z)) = none := hf
      unfold kindBy
      rw [e1]
    rw [e0] at q
    refine ⟨_, rfl, ⟨_, rfl⟩, _, _, rfl, rfl, rfl, line_le hz, fun t ht => ?_⟩
    have s8 := Same.trans t8 (Same.new (o := .tup [.str (Txt.partition z ":").1, .str (Txt.partition z ":").2.1, .str (Txt.partition z ":").2.2]) ht)
    refine ⟨t, _, rfl, SqT.of upd_same, rfl, _, _, rfl, _, _, rfl, _, _, rfl, rfl, ?_⟩
    refine ⟨_, rfl, _, _, rfl, Nat.le_trans (part1_len z ":" 58 tl_colon).2 hz, ?_⟩
    refine ⟨_, rfl, _, _, rfl, rfl, _, rfl, ?_⟩
    unfold countedKind at q
    refine ite2 (fun h1 => ?_) (fun h1 => ?_)
    · rw [if_pos (of_decide_eq_true h1)] at q
      exact q _ _ s8 rfl
    · rw [if_neg (fun z => h1 (decide_eq_true z))] at q
      refine ⟨_, rfl, rfl, _, rfl, ?_⟩
      rw [dstr]
      refine ite2 (fun h2 => ?_) (fun h2 => ?_)
      · rw [if_pos (of_decide_eq_true h2)] at q
        refine ⟨_, rfl, ?_⟩
        intro x dx nx mx ex
        refine ⟨x, dx, _, rfl, upd_same, rfl, ?_⟩
        refine q _ _ (fun b o e => ?_) ⟨x, rfl, s8.free nx, dx, upd_same⟩
        rw [upd_ne (ne_of_none (s8 _ _ e) nx), upd_ne (ne_of_none (s8 _ _ e) nx), upd_ne (ne_of_none (s8 _ _ e) mx)]
        exact s8 _ _ e
      · rw [if_neg (fun z => h2 (decide_eq_true z))] at q
        refine ⟨_, rfl, rfl, _, rfl, ?_⟩
        rw [dstr]
        refine ite2 (fun h3 => ?_) (fun h3 => ?_)
        · rw [if_pos (of_decide_eq_true h3)] at q
          refine ⟨_, rfl, ?_⟩
          intro x dx nx mx ex
          refine ⟨x, dx, _, rfl, upd_same, rfl, ?_⟩
          refine q _ _ (fun b o e => ?_) ⟨x, rfl, s8.free nx, dx, upd_same⟩
          rw [upd_ne (ne_of_none (s8 _ _ e) nx), upd_ne (ne_of_none (s8 _ _ e) nx), upd_ne (ne_of_none (s8 _ _ e) mx)]
          exact s8 _ _ e
        · rw [if_neg (fun z => h3 (decide_eq_true z))] at q
          exact q _ _ s8 rfl
end
end SW


/-! ### the law's draws -/
namespace SW
open PySem PySem.Spec PyProof.Rows L2 He TL
def primes : List Int := [1000003, 1000033, 1000037, 1000039, 1000081, 1000099, 1000117, 1000121, 1000133, 1000151, 1000159, 1000171, 1000183, 1000187, 1000193, 1000199]
def prime (k : Nat) : Int := primes.getD (k % 16) 1
def draw (c : Int) (k : Nat) (m : Int) : Int := (c * 48271 + (k : Int) * 69621) % prime k % m
theorem prime_pos (k : Nat) : 0 < prime k := by
  have h : k % 16 < 16 := Nat.mod_lt _ (by decide)
  unfold prime
  generalize k % 16 = i at h
  have : ∀ i < 16, 0 < primes.getD i 1 := by decide
  exact this i h
theorem draw_lo (c : Int) (k : Nat) {m : Int} (h : 0 < m) : 0 ≤ draw c k m := Int.emod_nonneg _ (by omega)
theorem draw_hi (c : Int) (k : Nat) {m : Int} (h : 0 < m) : draw c k m < m := Int.emod_lt_of_pos _ h
def spDraw : Sp := fun vs H Q _ => ∃ (c : Int) (k : Nat) (m : Int), vs = [.int c, .int (k : Int), .int m] ∧ k < 1000 ∧ 0 < m ∧ ∀ H', Same H H' → Q (.int (draw c k m)) H'
theorem at_prime (k : Nat) : atI (primes.map V.int) ((k : Int) % 16) = some (.int (prime k)) := by
  have h : k % 16 < 16 := Nat.mod_lt _ (by decide)
  have e : ((k : Int) % 16) = ((k % 16 : Nat) : Int) := by omega
  rw [e]
  refine atI_nat ?_
  unfold prime
  generalize k % 16 = i at h
  have : ∀ i < 16, (primes.map V.int)[i]? = some (.int (primes.getD i 1)) := by decide
  exact this i h
section
variable {P : Program} {w : World} {K : PySem.W.Frag} {mg : Str → Option Value} {base : Heap}
theorem ok_draw (T : Txt K mg) : Ok P w K mg base 1 (ga K "_law_draw") ["_law_cell", "_law_k", "_law_many"] spDraw := by
  refine mkOk T.F_law_draw sc_law_draw (fun _ _ _ _ _ _ us hl => match us, hl with | [_, _, _], _ => rfl) (by rintro vs H Q E ⟨_, _, _, rfl, _⟩; rfl) (fun cdv A outer s H vs Q E hr h => ?_)
  obtain ⟨c, k, m, rfl, hk, hm, q⟩ := h
  refine ⟨_, (pss_cons (ps_set (i := 3) sc_law_draw.nd rfl (by first | exact Or.inl rfl | exact Or.inr rfl) (pe_tup (pa_cons pe_int (pa_cons pe_int (pa_cons pe_int (pa_cons pe_int (pa_cons pe_int (pa_cons pe_int (pa_cons pe_int (pa_cons pe_int (pa_cons pe_int (pa_cons pe_int (pa_cons pe_int (pa_cons pe_int (pa_cons pe_int (pa_cons pe_int (pa_cons pe_int (pa_cons pe_int pa_nil))))))))))))))))))
      (pss_one (ps_ret (pe_op op_mod (pe_op op_mod (pe_op op_add (pe_op op_mul (pv 0) pe_int) (pe_op op_mul (pv 1) pe_int)) (pe_ix (ixT (K := K)) (pv 3) (pe_op op_mod (pv 1) pe_int) (fun _ _ => rfl))) (pv 2))))), ?_⟩
  refine ⟨(by show 16 ≤ sizeLine; decide), fun p hp => ?_⟩
  refine ⟨_, rfl, _, _, rfl, rfl, .inr ⟨by decide, by decide⟩, _, rfl, _, _, rfl, rfl, .inr ⟨by decide, by decide⟩, _, _, rfl, rfl, ?_⟩
  refine ⟨_, rfl, _, rfl, _, _, rfl, rfl, (show (0 : Int) < 16 by decide), p, primes.map V.int, _, _, rfl, rfl, SqT.of upd_same, at_prime k, ?_⟩
  refine ⟨_, _, rfl, rfl, prime_pos k, _, rfl, _, _, rfl, rfl, hm, ?_⟩
  exact q _ (Same.new hp)
end
end SW


/-! ### what a def leaves: G is what stands for good, H all that is tracked -/
namespace SW
open PySem PySem.Spec PyProof.Rows L2 He
structure Grow (G H G' H' : Hp) : Prop where
  gg : Same G G'
  hh : Same H H'
  gh : Same G' H'
  sep : ∀ a o, H a = some o → G a = none → G' a = none
theorem Grow.refl {G H : Hp} (e : Same G H) : Grow G H G H := ⟨Same.refl _, Same.refl _, e, fun _ _ _ h => h⟩
theorem Grow.trans {G H G1 H1 G2 H2 : Hp} (a : Grow G H G1 H1) (b : Grow G1 H1 G2 H2) : Grow G H G2 H2 :=
  ⟨a.gg.trans b.gg, a.hh.trans b.hh, b.gh, fun c o e n => b.sep c o (a.hh c o e) (a.sep c o e n)⟩
/-- a new object that is not for good (yet) -/
theorem Grow.temp {G0 H0 G H : Hp} {p : Addr} {o : HO} (a : Grow G0 H0 G H) (h : H p = none) : Grow G0 H0 G (upd H p o) :=
  ⟨a.gg, a.hh.trans (Same.new h), a.gh.trans (Same.new h), a.sep⟩
/-- a new object for good -/
theorem Grow.new {G0 H0 G H : Hp} {p : Addr} {o : HO} (a : Grow G0 H0 G H) (h : H p = none) : Grow G0 H0 (upd G p o) (upd H p o) := by
  have hg : G p = none := a.gh.free h
  refine ⟨a.gg.trans (Same.new hg), a.hh.trans (Same.new h), fun b u e => ?_, fun c u e n => ?_⟩
  · by_cases hb : b = p
    · subst hb
      rw [upd_same] at e ⊢
      exact e
    · rw [upd_ne hb] at e ⊢
      exact a.gh b u e
  · have : c ≠ p := ne_of_none (a.hh c u e) h
    rw [upd_ne this]
    exact a.sep c u e n
/-- an object of our own changes -/
theorem Grow.mut {G0 H0 G H : Hp} {p : Addr} {o : HO} (a : Grow G0 H0 G H) (h0 : H0 p = none) (hg : G p = none) : Grow G0 H0 G (upd H p o) :=
  ⟨a.gg, fun b u e => by rw [upd_ne (ne_of_none e h0)]; exact a.hh b u e, fun b u e => by rw [upd_ne (ne_of_none e hg)]; exact a.gh b u e, a.sep⟩
/-- an object of our own stands for good from here on -/
theorem Grow.keep {G0 H0 G H : Hp} {p : Addr} {o : HO} (a : Grow G0 H0 G H) (h0 : H0 p = none) (hg : G p = none) (h : H p = some o) : Grow G0 H0 (upd G p o) H := by
  refine ⟨a.gg.trans (Same.new hg), a.hh, fun b u e => ?_, fun c u e n => ?_⟩
  · by_cases hb : b = p
    · subst hb
      rw [upd_same] at e
      rw [h]
      exact e
    · rw [upd_ne hb] at e
      exact a.gh b u e
  · rw [upd_ne (ne_of_none e h0)]
    exact a.sep c u e n
/-- an instance made, not yet for good -/
theorem Grow.make {G0 H0 G H : Hp} {x dx C : Addr} {fs : List (Str × V)} (a : Grow G0 H0 G H) (n : H x = none) (m : H dx = none) : Grow G0 H0 G (upd (upd H dx (.own x)) x (.ins C dx fs)) := by
  have e : Same H (upd (upd H dx (.own x)) x (.ins C dx fs)) := fun b o e => by rw [upd_ne (ne_of_none e n), upd_ne (ne_of_none e m)]; exact e
  exact ⟨a.gg, a.hh.trans e, a.gh.trans e, a.sep⟩

/-! ### lists that agree item by item -/
def All2 {α β : Type} (R : α → β → Prop) (xs : List α) (ys : List β) : Prop := xs.length = ys.length ∧ ∀ (i : Nat) (x : α) (y : β), xs[i]? = some x → ys[i]? = some y → R x y
section
variable {α β : Type} {R S : α → β → Prop} {xs : List α} {ys : List β} {x : α} {y : β}
theorem All2.nil : All2 R [] [] := ⟨rfl, fun i x y h => by simp at h⟩
theorem All2.get (h : All2 R xs ys) {i : Nat} (e : xs[i]? = some x) : ∃ y, ys[i]? = some y ∧ R x y := by
  have hi : i < ys.length := by rw [← h.1]; exact (List.getElem?_eq_some_iff.mp e).1
  exact ⟨ys[i], List.getElem?_eq_getElem hi, h.2 i x _ e (List.getElem?_eq_getElem hi)⟩
theorem All2.get' (h : All2 R xs ys) {i : Nat} (e : ys[i]? = some y) : ∃ x, xs[i]? = some x ∧ R x y := by
  have hi : i < xs.length := by rw [h.1]; exact (List.getElem?_eq_some_iff.mp e).1
  exact ⟨xs[i], List.getElem?_eq_getElem hi, h.2 i _ y (List.getElem?_eq_getElem hi) e⟩
theorem All2.mono (h : All2 R xs ys) (f : ∀ x y, R x y → S x y) : All2 S xs ys := ⟨h.1, fun i x y a b => f x y (h.2 i x y a b)⟩
theorem All2.push (h : All2 R xs ys) (r : R x y) : All2 R (xs ++ [x]) (ys ++ [y]) := by
  refine ⟨by rw [List.length_append, List.length_append, h.1] <;> rfl, fun i a b e1 e2 => ?_⟩
  by_cases hi : i < xs.length
  · rw [List.getElem?_append_left hi] at e1
    rw [List.getElem?_append_left (by rw [← h.1]; exact hi)] at e2
    exact h.2 i a b e1 e2
  · rw [List.getElem?_append_right (by omega)] at e1
    rw [List.getElem?_append_right (by rw [← h.1]; omega), ← h.1] at e2
    cases q : i - xs.length with
    | zero =>
      rw [q] at e1 e2
      cases e1
      cases e2
      exact r
    | succ k =>
      rw [q] at e1
      simp at e1
theorem All2.cons (r : R x y) (h : All2 R xs ys) : All2 R (x :: xs) (y :: ys) := by
  refine ⟨by rw [List.length_cons, List.length_cons, h.1], fun i a b e1 e2 => ?_⟩
  cases i with
  | zero =>
    cases e1
    cases e2
    exact r
  | succ i => exact h.2 i a b (by simpa using e1) (by simpa using e2)
theorem All2.uncons (h : All2 R (x :: xs) (y :: ys)) : R x y ∧ All2 R xs ys :=
  ⟨h.2 0 x y rfl rfl, by have := h.1; simpa using this, fun i a b e1 e2 => h.2 (i + 1) a b (by simpa using e1) (by simpa using e2)⟩
theorem All2.map {γ : Type} {f : γ → α} {g : γ → β} {l : List γ} (h : ∀ c ∈ l, R (f c) (g c)) : All2 R (l.map f) (l.map g) := by
  refine ⟨by rw [List.length_map, List.length_map], fun i a b e1 e2 => ?_⟩
  rw [List.getElem?_map] at e1 e2
  cases q : l[i]? with
  | none =>
    rw [q] at e1
    cases e1
  | some c =>
    rw [q] at e1 e2
    cases e1
    cases e2
    exact h c (List.mem_of_getElem? q)
theorem take_one {α : Type} {l : List α} {i : Nat} {x : α} (h : l[i]? = some x) : l.take (i + 1) = l.take i ++ [x] := by
  rw [List.take_succ, h] <;> rfl
theorem lt_of_get {α : Type} {l : List α} {i : Nat} {x : α} (h : l[i]? = some x) : i < l.length := (List.getElem?_eq_some_iff.mp h).1
end
end SW


/-! ### works as data; how they stand in the heap -/
namespace SW
open PySem PySem.Spec PyProof.Rows L2 He TL
structure Pd where
  name : Str
  kd : Kd
  time : Int
  feeds : List (Str × Int)
  deriving DecidableEq
def Pd.isEnd (p : Pd) : Bool := decide (p.kd.c = .src) || decide (p.kd.c = .snk)
def FeedAt (G : Hp) (v : V) (f : Str × Int) : Prop := ∃ t, v = .ref t ∧ G t = some (.tup [.str f.1, .int f.2])
def partFlds (n : V) (k : V) (t : V) (l : V) : List (Str × V) := [("called", n), ("craft", k), ("takes", t), ("feeds", l)]
structure PartIn (K : PySem.W.Frag) (G : Hp) (a : Addr) (p : Pd) (dx k l : Addr) (vs : List V) : Prop where
  ob : G a = some (.ins (ga K "Part") dx (partFlds (.str p.name) (.ref k) (.int p.time) (.ref l)))
  kd : KindAt K G k p.kd
  ok : p.kd.ok
  ls : G l = some (.lst vs)
  fs : All2 (FeedAt G) vs p.feeds
def PartAt (K : PySem.W.Frag) (G : Hp) (v : V) (p : Pd) : Prop := ∃ a dx k l vs, v = .ref a ∧ PartIn K G a p dx k l vs
structure WorksIn (K : PySem.W.Frag) (G : Hp) (a : Addr) (ps : List Pd) (dx l : Addr) (vs : List V) : Prop where
  ob : G a = some (.ins (ga K "Works") dx [("parts", .ref l)])
  ls : G l = some (.lst vs)
  ps : All2 (PartAt K G) vs ps
def WorksAt (K : PySem.W.Frag) (G : Hp) (a : Addr) (ps : List Pd) : Prop := ∃ dx l vs, WorksIn K G a ps dx l vs
def LineAt (G : Hp) (v : V) (f : Str × Str × Int) : Prop := ∃ t, v = .ref t ∧ G t = some (.tup [.str f.1, .str f.2.1, .int f.2.2])
def linesOf (ps : List Pd) : List (Str × Str × Int) := ps.flatMap fun p => p.feeds.map fun f => (f.1, p.name, f.2)
section
variable {K : PySem.W.Frag} {G G' H : Hp}
theorem FeedAt.mono {v : V} {f : Str × Int} (e : Same G G') (h : FeedAt G v f) : FeedAt G' v f := by
  obtain ⟨t, r, h⟩ := h
  exact ⟨t, r, e _ _ h⟩
theorem LineAt.mono {v : V} {f : Str × Str × Int} (e : Same G G') (h : LineAt G v f) : LineAt G' v f := by
  obtain ⟨t, r, h⟩ := h
  exact ⟨t, r, e _ _ h⟩
theorem PartIn.mono {a : Addr} {p : Pd} {dx k l : Addr} {vs : List V} (e : Same G G') (h : PartIn K G a p dx k l vs) : PartIn K G' a p dx k l vs :=
  ⟨e _ _ h.ob, h.kd.mono e, h.ok, e _ _ h.ls, h.fs.mono fun _ _ z => z.mono e⟩
theorem PartAt.mono {v : V} {p : Pd} (e : Same G G') (h : PartAt K G v p) : PartAt K G' v p := by
  obtain ⟨a, dx, k, l, vs, r, h⟩ := h
  exact ⟨a, dx, k, l, vs, r, h.mono e⟩
theorem WorksIn.mono {a : Addr} {ps : List Pd} {dx l : Addr} {vs : List V} (e : Same G G') (h : WorksIn K G a ps dx l vs) : WorksIn K G' a ps dx l vs :=
  ⟨e _ _ h.ob, e _ _ h.ls, h.ps.mono fun _ _ z => z.mono e⟩
theorem WorksAt.mono {a : Addr} {ps : List Pd} (e : Same G G') (h : WorksAt K G a ps) : WorksAt K G' a ps := by
  obtain ⟨dx, l, vs, h⟩ := h
  exact ⟨dx, l, vs, h.mono e⟩
end
/-! ### promises -/
def spSet4 (C : Addr) (a b c d : Str) : Sp := fun vs H Q _ => ∃ (x dx : Addr) (v1 v2 v3 v4 : V), vs = [.ref x, v1, v2, v3, v4] ∧ H x = some (.ins C dx []) ∧ Q .non (upd H x (.ins C dx [(a, v1), (b, v2), (c, v3), (d, v4)]))
def spSet1 (C : Addr) (a : Str) : Sp := fun vs H Q _ => ∃ (x dx : Addr) (v1 : V), vs = [.ref x, v1] ∧ H x = some (.ins C dx []) ∧ Q .non (upd H x (.ins C dx [(a, v1)]))
def spEnd (K : PySem.W.Frag) : Sp := fun vs H Q _ => ∃ (G : Hp) (v : V) (p : Pd), vs = [v] ∧ Same G H ∧ PartAt K G v p ∧ ∀ H', Same H H' → Q (.bl p.isEnd) H'
def spNames (K : PySem.W.Frag) : Sp := fun vs H Q _ => ∃ (G : Hp) (a : Addr) (ps : List Pd), vs = [.ref a] ∧ Same G H ∧ WorksAt K G a ps ∧ ps.length ≤ 1000 ∧
  ∀ (q : Addr) (H' : Hp), Same H H' → H q = none → H' q = some (.lst (ps.map fun p => V.str p.name)) → Q (.ref q) H'
/-- the part of a name: which one -/
def spPart (K : PySem.W.Frag) : Sp := fun vs H Q _ => ∃ (G : Hp) (a : Addr) (ps : List Pd) (j : Nat) (p : Pd), vs = [.ref a, .str p.name] ∧ Same G H ∧ WorksAt K G a ps ∧ ps.length ≤ 1000 ∧ ps[j]? = some p ∧
  (∀ m q, m < j → ps[m]? = some q → q.name ≠ p.name) ∧ ∀ (v : V) (H' : Hp), Same H H' → PartAt K G v p → Q v H'
def spKindOf (K : PySem.W.Frag) : Sp := fun vs H Q _ => ∃ (G : Hp) (a : Addr) (ps : List Pd) (j : Nat) (p : Pd), vs = [.ref a, .str p.name] ∧ Same G H ∧ WorksAt K G a ps ∧ ps.length ≤ 1000 ∧ ps[j]? = some p ∧
  (∀ m q, m < j → ps[m]? = some q → q.name ≠ p.name) ∧ ∀ (k : Addr) (H' : Hp), Same H H' → KindAt K G k p.kd → Q (.ref k) H'
def spTimeOf (K : PySem.W.Frag) : Sp := fun vs H Q _ => ∃ (G : Hp) (a : Addr) (ps : List Pd) (j : Nat) (p : Pd), vs = [.ref a, .str p.name] ∧ Same G H ∧ WorksAt K G a ps ∧ ps.length ≤ 1000 ∧ ps[j]? = some p ∧
  (∀ m q, m < j → ps[m]? = some q → q.name ≠ p.name) ∧ ∀ (H' : Hp), Same H H' → Q (.int p.time) H'
def spLinesOf (K : PySem.W.Frag) : Sp := fun vs H Q _ => ∃ (G : Hp) (a : Addr) (ps : List Pd), vs = [.ref a] ∧ Same G H ∧ WorksAt K G a ps ∧ (linesOf ps).length ≤ 10000 ∧
  ∀ (q : Addr) (us : List V) (G' H' : Hp), Grow G H G' H' → H q = none → G' q = none → H' q = some (.lst us) → All2 (LineAt G') us (linesOf ps) → Q (.ref q) H'
theorem wst : (Kd.mk .src 0).word = "in" ∧ (Kd.mk .snk 0).word = "out" := ⟨rfl, rfl⟩
theorem tl_up : tl ("up:" : Str) = [117, 112, 58] := by decide +kernel
theorem tl_down : tl ("down:" : Str) = [100, 111, 119, 110, 58] := by decide +kernel
theorem tl_in : tl ("in" : Str) = [105, 110] := by decide +kernel
theorem tl_out : tl ("out" : Str) = [111, 117, 116] := by decide +kernel
theorem isEnd_word (k : Kd) : (k.word = "in" ↔ k.c = .src) ∧ (k.word = "out" ↔ k.c = .snk) := by
  obtain ⟨c, n⟩ := k
  have ne : ∀ {x y : Str}, tl x ≠ tl y → x ≠ y := fun h e => h (by rw [e])
  cases c
  · exact ⟨⟨fun _ => rfl, fun _ => rfl⟩, ⟨fun h => absurd (show ("in" : Str) = "out" from h) (by decide +kernel), fun h => by cases h⟩⟩
  · exact ⟨⟨fun h => absurd (show ("out" : Str) = "in" from h) (by decide +kernel), fun h => by cases h⟩, ⟨fun _ => rfl, fun _ => rfl⟩⟩
  · exact ⟨⟨fun h => absurd (show ("and" : Str) = "in" from h) (by decide +kernel), fun h => by cases h⟩, ⟨fun h => absurd (show ("and" : Str) = "out" from h) (by decide +kernel), fun h => by cases h⟩⟩
  · exact ⟨⟨fun h => absurd (show ("or" : Str) = "in" from h) (by decide +kernel), fun h => by cases h⟩, ⟨fun h => absurd (show ("or" : Str) = "out" from h) (by decide +kernel), fun h => by cases h⟩⟩
  · exact ⟨⟨fun h => absurd (show ("odd" : Str) = "in" from h) (by decide +kernel), fun h => by cases h⟩, ⟨fun h => absurd (show ("odd" : Str) = "out" from h) (by decide +kernel), fun h => by cases h⟩⟩
  · exact ⟨⟨fun h => absurd (show ("plus" : Str) = "in" from h) (by decide +kernel), fun h => by cases h⟩, ⟨fun h => absurd (show ("plus" : Str) = "out" from h) (by decide +kernel), fun h => by cases h⟩⟩
  · exact ⟨⟨fun h => absurd (show ("pick" : Str) = "in" from h) (by decide +kernel), fun h => by cases h⟩, ⟨fun h => absurd (show ("pick" : Str) = "out" from h) (by decide +kernel), fun h => by cases h⟩⟩
  · have e : tl (Kd.word ⟨.up, n⟩) = [117, 112, 58] ++ tl (toString n : Str) := by rw [← tl_up]; exact tl_append _ _
    exact ⟨⟨fun h => absurd h (ne (by rw [e, tl_in]; simp)), fun h => by cases h⟩, ⟨fun h => absurd h (ne (by rw [e, tl_out]; simp)), fun h => by cases h⟩⟩
  · have e : tl (Kd.word ⟨.down, n⟩) = [100, 111, 119, 110, 58] ++ tl (toString n : Str) := by rw [← tl_down]; exact tl_append _ _
    exact ⟨⟨fun h => absurd h (ne (by rw [e, tl_in]; simp)), fun h => by cases h⟩, ⟨fun h => absurd h (ne (by rw [e, tl_out]; simp)), fun h => by cases h⟩⟩
theorem eqV_str (a b : Str) : eqV (.str a) (.str b) = decide (a = b) := by
  show (a == b) = _
  rw [Bool.eq_iff_iff]
  simp
section
variable {P : Program} {w : World} {K : PySem.W.Frag} {mg : Str → Option Value} {base : Heap}
theorem ok_Part_init (T : Txt K mg) : Ok P w K mg base 1 (ma K (ga K "Part") "__init__") ["self", "name", "kind", "time", "feeds"] (spSet4 (ga K "Part") "called" "craft" "takes" "feeds") := by
  refine mkOk T.F_Part_init sc_Part_init (fun _ _ _ _ _ _ us hl => match us, hl with | [_, _, _, _, _], _ => rfl) (by rintro vs H Q E ⟨_, _, _, _, _, _, rfl, _⟩; rfl) (fun cdv A outer s H vs Q E hr h => ?_)
  obtain ⟨x, dx, v1, v2, v3, v4, rfl, hx, q⟩ := h
  refine ⟨_, (pss_cons (ps_fld (pv 0) (pv 1) rfl)
      (pss_cons (ps_fld (pv 0) (pv 2) rfl)
      (pss_cons (ps_fld (pv 0) (pv 3) rfl)
      (pss_one (ps_fld (pv 0) (pv 4) rfl))))), ?_⟩
  refine ⟨_, rfl, _, rfl, x, _, dx, [], rfl, hx, T.c_Part, T.n_Part_called, (by show 0 < 1000; decide), ?_⟩
  refine ⟨_, rfl, _, rfl, x, _, dx, _, rfl, upd_same, T.c_Part, T.n_Part_craft, (by show 1 < 1000; decide), ?_⟩
  refine ⟨_, rfl, _, rfl, x, _, dx, _, rfl, upd_same, T.c_Part, T.n_Part_takes, (by show 2 < 1000; decide), ?_⟩
  refine ⟨_, rfl, _, rfl, x, _, dx, _, rfl, upd_same, T.c_Part, T.n_Part_feeds, (by show 3 < 1000; decide), ?_⟩
  show Q .non _
  rw [upd_upd, upd_upd, upd_upd]
  exact q
theorem ok_Works_init (T : Txt K mg) : Ok P w K mg base 1 (ma K (ga K "Works") "__init__") ["self", "parts"] (spSet1 (ga K "Works") "parts") := by
  refine mkOk T.F_Works_init sc_Works_init (fun _ _ _ _ _ _ us hl => match us, hl with | [_, _], _ => rfl) (by rintro vs H Q E ⟨_, _, _, rfl, _⟩; rfl) (fun cdv A outer s H vs Q E hr h => ?_)
  obtain ⟨x, dx, v1, rfl, hx, q⟩ := h
  refine ⟨_, (pss_one (ps_fld (pv 0) (pv 1) rfl)), ?_⟩
  exact ⟨_, rfl, _, rfl, x, _, dx, [], rfl, hx, T.c_Works, T.n_Works_parts, (by show 0 < 1000; decide), q⟩
theorem ok_Part_end (T : Txt K mg) : Ok P w K mg base 2 (ma K (ga K "Part") "end") ["self"] (spEnd K) := by
  have G_kind_word := ok_kind_word (P := P) (w := w) (base := base) T
  refine mkOk T.F_Part_end sc_Part_end (fun _ _ _ _ _ _ us hl => match us, hl with | [_], _ => rfl) (by rintro vs H Q E ⟨_, _, _, rfl, _⟩; rfl) (fun cdv A outer s H vs Q E hr h => ?_)
  obtain ⟨G, v, p, rfl, sg, ⟨a, dx, k, l, us, rfl, hp⟩, q⟩ := h
  refine ⟨_, (pss_one (ps_ret (pe_cmpR (inQ (K := K)) (pe_ex fun c => (G_kind_word c).use fun fd F b => pe_meth0 (pe_fldK (K := K) (pv 0) rfl) (T.ck c) (T.mk_word_ c) F (hr.mono (by decide)) b .nil pass0) (pe_tup (pa_cons pe_str (pa_cons pe_str pa_nil))) (by rfl)))), ?_⟩
  have ⟨dk, hk⟩ := hp.kd.mono sg
  refine ⟨p.kd.c, _, rfl, a, _, dx, _, _, rfl, sg _ _ hp.ob, T.c_Part, T.n_Part_craft, rfl, k, dk, _, rfl, hk, flds_no _ (by decide +kernel), k, p.kd, rfl, ⟨dk, hk⟩, rfl, hp.ok, ?_⟩
  refine ⟨(by show 2 ≤ sizeLine; decide), fun t ht => ⟨t, _, rfl, .inr (SqT.of upd_same), rfl, rfl, ?_⟩⟩
  have := q _ (Same.new (o := .tup [.str "in", .str "out"]) ht)
  have e : inV (V.str p.kd.word) [.str "in", .str "out"] = p.isEnd := by
    obtain ⟨h1, h2⟩ := isEnd_word p.kd
    show (eqV (.str "in") (.str p.kd.word) || (eqV (.str "out") (.str p.kd.word) || false)) = _
    rw [eqV_str, eqV_str, Bool.or_false]
    unfold Pd.isEnd
    rw [Bool.eq_iff_iff]
    simp only [Bool.or_eq_true, decide_eq_true_eq]
    rw [← h1, ← h2]
    exact ⟨fun z => z.imp Eq.symm Eq.symm, fun z => z.imp Eq.symm Eq.symm⟩
  rw [← e] at this
  exact this
theorem ok_Works_names (T : Txt K mg) : Ok P w K mg base 1 (ma K (ga K "Works") "names") ["self"] (spNames K) := by
  refine mkOk T.F_Works_names sc_Works_names (fun _ _ _ _ _ _ us hl => match us, hl with | [_], _ => rfl) (by rintro vs H Q E ⟨_, _, _, rfl, _⟩; rfl) (fun cdv A outer s H vs Q E hr h => ?_)
  obtain ⟨G, a, ps, rfl, sg, ⟨dx, l, us, hw⟩, hl, q⟩ := h
  refine ⟨_, (pss_one (ps_ret (pe_lc (own := [("part", 1)]) rfl sc_Works_names.nd (piL (K := K) (pe_fldK (K := K) (pv 0) rfl)) (blkOk_by (own := [("part", 1)]) (N := ["self", "part"]) (sc := defScope s_Works_names) (by decide +kernel)) (fun _ _ _ _ _ => (pg_name (i := 1) sc_Works_names.nd rfl (by first | exact Or.inl rfl | exact Or.inr rfl))) (fun _ _ _ _ _ => pts_nil) (fun _ _ _ _ _ => (pe_fldK (K := K) (pv 1) rfl))))), ?_⟩
  refine ⟨_, rfl, a, _, dx, _, _, rfl, sg _ _ hw.ob, T.c_Works, T.n_Works_parts, rfl, l, rfl, ⟨_, SqL.of (sg _ _ hw.ls)⟩, fun D hD => ?_⟩
  refine lc_list (K := K) (a := l) (xs := us) (fun i H' => Same H H' ∧ H' D = some (.lst ((ps.take i).map fun p => V.str p.name))) ⟨Same.new hD, upd_same⟩ (fun i H' _ h => SqL.of (h.1 _ _ (sg _ _ hw.ls))) ?_ ?_
  · rintro i x H' hi ⟨s1, h1⟩
    obtain ⟨p, hpi, b, db, k, m, ws, rfl, hp⟩ := hw.ps.get hi
    refine ⟨rfl, iteT (B := True) ?_⟩
    refine ⟨_, rfl, b, _, db, _, _, rfl, s1 _ _ (sg _ _ hp.ob), T.c_Part, T.n_Part_called, rfl, _, h1, ?_, fun c o e => ?_, ?_⟩
    · rw [List.length_map, List.length_take]
      exact small1000 (by omega)
    · rw [upd_ne (ne_of_none e hD)]
      exact s1 c o e
    · rw [upd_same, take_one hpi, List.map_append] <;> rfl
  · rintro H' ⟨s1, h1⟩
    rw [hw.ps.1, List.take_length] at h1
    exact q D H' s1 hD h1

theorem names_at {ps : List Pd} {j : Nat} {p : Pd} (h : ps[j]? = some p) : (ps.map fun p => V.str p.name)[j]? = some (.str p.name) := by
  rw [List.getElem?_map, h] <;> rfl
theorem flat_names (ps : List Pd) : (ps.map fun p => V.str p.name).all flatV = true := by
  rw [List.all_eq_true]
  intro x hx
  obtain ⟨p, _, rfl⟩ := List.mem_map.mp hx
  rfl
theorem ok_Works_part (T : Txt K mg) : Ok P w K mg base 2 (ma K (ga K "Works") "part") ["self", "name"] (spPart K) := by
  have G_Works_names := ok_Works_names (P := P) (w := w) (base := base) T
  refine mkOk T.F_Works_part sc_Works_part (fun _ _ _ _ _ _ us hl => match us, hl with | [_, _], _ => rfl) (by rintro vs H Q E ⟨_, _, _, _, _, rfl, _⟩; rfl) (fun cdv A outer s H vs Q E hr h => ?_)
  obtain ⟨G, a, ps, j, p, rfl, sg, hwa, hl, hj, hfirst, q⟩ := h
  have ⟨dx, l, us, hw⟩ := hwa
  refine ⟨_, (pss_one (ps_ret (pe_ix (ixL (K := K)) (pe_fldK (K := K) (pv 0) rfl) (pe_bm PySem.F.plainAttrs_list PySem.F.slot_list_index PySem.F.type_list_index (indexK (K := K)) (G_Works_names.use fun fd F b => pe_meth0 (pv 0) T.c_Works T.m_Works_names F (hr.mono (by decide)) b .nil pass0) (pa_cons (pv 1) pa_nil)) (fun _ _ => rfl)))), ?_⟩
  refine ⟨_, rfl, a, _, dx, _, _, rfl, sg _ _ hw.ob, T.c_Works, T.n_Works_parts, rfl, ?_⟩
  refine ⟨_, rfl, a, dx, _, rfl, sg _ _ hw.ob, rfl, G, a, ps, rfl, sg, hwa, hl, fun m H' s1 hm e1 => ?_⟩
  refine ⟨.inl ⟨rfl, _, SqL.of e1⟩, _, rfl, m, _, _, j, _, rfl, rfl, SqL.of e1, rfl, flat_names ps, names_at hj, by rw [eqV_str]; exact decide_eq_true rfl, fun k z' hk hz => ?_, ?_⟩
  · rw [List.getElem?_map] at hz
    cases e : ps[k]? with
    | none =>
      rw [e] at hz
      cases hz
    | some r =>
      rw [e] at hz
      cases hz
      rw [eqV_str]
      exact decide_eq_false (hfirst k r hk e)
  · obtain ⟨v, hv, hp⟩ := hw.ps.get' hj
    exact ⟨l, _, _, v, rfl, rfl, SqL.of (s1 _ _ (sg _ _ hw.ls)), atI_nat hv, q v H' s1 hp⟩
theorem ok_Works_kind (T : Txt K mg) : Ok P w K mg base 3 (ma K (ga K "Works") "kind") ["self", "name"] (spKindOf K) := by
  have G_Works_part := ok_Works_part (P := P) (w := w) (base := base) T
  refine mkOk T.F_Works_kind sc_Works_kind (fun _ _ _ _ _ _ us hl => match us, hl with | [_, _], _ => rfl) (by rintro vs H Q E ⟨_, _, _, _, _, rfl, _⟩; rfl) (fun cdv A outer s H vs Q E hr h => ?_)
  obtain ⟨G, a, ps, j, p, rfl, sg, hwa, hl, hj, hfirst, q⟩ := h
  have ⟨dx, l, us, hw⟩ := hwa
  refine ⟨_, (pss_one (ps_ret (pe_fldK (K := K) (G_Works_part.use fun fd F b => pe_meth (pv 0) T.c_Works T.m_Works_part F (hr.mono (by decide)) b .nil pass0 (pa_cons (pv 1) pa_nil)) rfl))), ?_⟩
  refine ⟨_, rfl, a, dx, _, rfl, sg _ _ hw.ob, rfl, _, rfl, G, a, ps, j, p, rfl, sg, hwa, hl, hj, hfirst, fun v H' s1 hp => ?_⟩
  obtain ⟨b, db, k, m, ws, rfl, hp⟩ := hp
  exact ⟨b, _, db, _, _, rfl, s1 _ _ (sg _ _ hp.ob), T.c_Part, T.n_Part_craft, rfl, q k H' s1 hp.kd⟩
theorem ok_Works_time (T : Txt K mg) : Ok P w K mg base 3 (ma K (ga K "Works") "time") ["self", "name"] (spTimeOf K) := by
  have G_Works_part := ok_Works_part (P := P) (w := w) (base := base) T
  refine mkOk T.F_Works_time sc_Works_time (fun _ _ _ _ _ _ us hl => match us, hl with | [_, _], _ => rfl) (by rintro vs H Q E ⟨_, _, _, _, _, rfl, _⟩; rfl) (fun cdv A outer s H vs Q E hr h => ?_)
  obtain ⟨G, a, ps, j, p, rfl, sg, hwa, hl, hj, hfirst, q⟩ := h
  have ⟨dx, l, us, hw⟩ := hwa
  refine ⟨_, (pss_one (ps_ret (pe_fldK (K := K) (G_Works_part.use fun fd F b => pe_meth (pv 0) T.c_Works T.m_Works_part F (hr.mono (by decide)) b .nil pass0 (pa_cons (pv 1) pa_nil)) rfl))), ?_⟩
  refine ⟨_, rfl, a, dx, _, rfl, sg _ _ hw.ob, rfl, _, rfl, G, a, ps, j, p, rfl, sg, hwa, hl, hj, hfirst, fun v H' s1 hp => ?_⟩
  obtain ⟨b, db, k, m, ws, rfl, hp⟩ := hp
  exact ⟨b, _, db, _, _, rfl, s1 _ _ (sg _ _ hp.ob), T.c_Part, T.n_Part_takes, rfl, q H' s1⟩
theorem linesOf_take {ps : List Pd} {i : Nat} {p : Pd} (h : ps[i]? = some p) : linesOf (ps.take (i + 1)) = linesOf (ps.take i) ++ p.feeds.map fun f => (f.1, p.name, f.2) := by
  unfold linesOf
  rw [take_one h, List.flatMap_append, List.flatMap_singleton]
theorem linesOf_len {ps : List Pd} (i : Nat) : (linesOf (ps.take i)).length ≤ (linesOf ps).length := by
  have e : linesOf ps = linesOf (ps.take i) ++ linesOf (ps.drop i) := by
    unfold linesOf
    rw [← List.flatMap_append, List.take_append_drop]
  rw [e, List.length_append]
  omega
theorem ok_Works_lines (T : Txt K mg) : Ok P w K mg base 1 (ma K (ga K "Works") "lines") ["self"] (spLinesOf K) := by
  refine mkOk T.F_Works_lines sc_Works_lines (fun _ _ _ _ _ _ us hl => match us, hl with | [_], _ => rfl) (by rintro vs H Q E ⟨_, _, _, rfl, _⟩; rfl) (fun cdv A outer s H vs Q E hr h => ?_)
  obtain ⟨G, a, ps, rfl, sg, hwa, hlen, q⟩ := h
  have ⟨dx, l, us, hw⟩ := hwa
  refine ⟨_, (pss_cons (ps_set (i := 1) sc_Works_lines.nd rfl (by first | exact Or.inl rfl | exact Or.inr rfl) (pe_lst pa_nil))
      (pss_cons (ps_for PassesOwn.never rfl (piL (K := K) (pe_fldK (K := K) (pv 0) rfl)) (pg_name (i := 2) sc_Works_lines.nd rfl (by first | exact Or.inl rfl | exact Or.inr rfl))
      (pss_one (ps_for PassesOwn.never rfl (piL (K := K) (pe_fldK (K := K) (pv 2) rfl)) (pg_name (i := 3) sc_Works_lines.nd rfl (by first | exact Or.inl rfl | exact Or.inr rfl))
      (pss_one (ps_expr (pe_bm PySem.F.plainAttrs_list PySem.F.slot_list_append PySem.F.type_list_append mt_append (pv 1) (pa_cons (pe_tup (pa_cons (pe_ix (ixT (K := K)) (pv 3) pe_int (fun _ _ => rfl)) (pa_cons (pe_fldK (K := K) (pv 2) rfl) (pa_cons (pe_ix (ixT (K := K)) (pv 3) pe_int (fun _ _ => rfl)) pa_nil)))) pa_nil)))))))
      (pss_one (ps_ret (pv 1))))), ?_⟩
  refine ⟨Nat.zero_le _, fun p hp => ?_⟩
  have hpG : G p = none := sg.free hp
  refine ⟨_, rfl, a, _, dx, _, _, rfl, (by rw [upd_ne (ne_of_none (sg _ _ hw.ob) hp)]; exact sg _ _ hw.ob), T.c_Works, T.n_Works_parts, rfl, l, rfl, ⟨_, SqL.of (Same.new hp _ _ (sg _ _ hw.ls))⟩, ?_⟩
  refine for_list (K := K) (a := l) (xs := us) (fun i σ H' => ∃ v2 v3 G' ls, σ = [some (.ref a), some (.ref p), v2, v3] ∧ Grow G H G' H' ∧ G' p = none ∧ H' p = some (.lst ls) ∧ All2 (LineAt G') ls (linesOf (ps.take i)))
    ⟨none, none, G, [], rfl, (Grow.refl sg).temp hp, hpG, upd_same, All2.nil⟩ (fun i σ H' _ h => by obtain ⟨_, _, G', _, _, g, _⟩ := h; exact SqL.of (g.gh _ _ (g.gg _ _ hw.ls))) ?_ ?_
  · rintro i x σ H' hi ⟨v2, v3, G', ls, rfl, g, g0, h1, h2⟩
    obtain ⟨pd, hpi, b, db, k, m, ws, rfl, hp1⟩ := hw.ps.get hi
    have hb := g.gh _ _ (g.gg _ _ hp1.ob)
    refine ⟨_, rfl, b, _, db, _, _, rfl, hb, T.c_Part, T.n_Part_feeds, rfl, m, rfl, ⟨_, SqL.of (g.gh _ _ (g.gg _ _ hp1.ls))⟩, ?_⟩
    refine for_list (K := K) (a := m) (xs := ws) (fun j σ H' => ∃ v3 G' ls, σ = [some (.ref a), some (.ref p), some (.ref b), v3] ∧ Grow G H G' H' ∧ G' p = none ∧ H' p = some (.lst ls) ∧ All2 (LineAt G') ls (linesOf (ps.take i) ++ (pd.feeds.take j).map fun f => (f.1, pd.name, f.2)))
      ⟨v3, G', ls, rfl, g, g0, h1, by rw [List.take_zero, List.map_nil, List.append_nil]; exact h2⟩ (fun i σ H' _ h => by obtain ⟨_, G', _, _, g, _⟩ := h; exact SqL.of (g.gh _ _ (g.gg _ _ hp1.ls))) ?_ ?_
    · rintro j y σ H2 hj ⟨v3, G2, ls, rfl, g, g0, h1, h2⟩
      obtain ⟨f, hf, t, rfl, ht⟩ := hp1.fs.get hj
      have ht2 := g.gh _ _ (g.gg _ _ ht)
      have hb2 := g.gh _ _ (g.gg _ _ hp1.ob)
      refine ⟨_, rfl, .inl ⟨rfl, _, SqL.of h1⟩, _, rfl, t, _, _, _, rfl, rfl, SqT.of ht2, at0 _ _, _, rfl, b, _, db, _, _, rfl, hb2, T.c_Part, T.n_Part_called, rfl, _, rfl, t, _, _, _, rfl, rfl, SqT.of ht2, at1 _ _ _, (by show 3 ≤ sizeLine; decide), fun u hu => ?_⟩
      have hpu : p ≠ u := ne_of_none h1 hu
      have hll : ls.length ≤ 10000 := by
        rw [h2.1]
        have e := linesOf_take hpi
        have := linesOf_len (ps := ps) (i + 1)
        rw [e, List.length_append, List.length_map] at this
        rw [List.length_append, List.length_map, List.length_take]
        omega
      refine ⟨p, ls, _, rfl, rfl, by rw [upd_ne hpu]; exact h1, Nat.lt_of_le_of_lt hll (by decide), ?_⟩
      refine ⟨_, upd G2 u (.tup [.str f.1, .str pd.name, .int f.2]), _, rfl, (g.new hu).mut hp (by rw [upd_ne hpu]; exact g0), by rw [upd_ne hpu]; exact g0, upd_same, ?_⟩
      rw [take_one hf, List.map_append, ← List.append_assoc]
      exact (h2.mono fun x y z => z.mono (Same.new (g.gh.free hu))).push ⟨u, rfl, upd_same⟩
    · rintro σ H2 ⟨v3, G2, ls, rfl, g, g0, h1, h2⟩
      refine ⟨_, _, G2, ls, rfl, g, g0, h1, ?_⟩
      rw [hp1.fs.1, List.take_length] at h2
      rw [linesOf_take hpi]
      exact h2
  · rintro σ H' ⟨v2, v3, G', ls, rfl, g, g0, h1, h2⟩
    rw [hw.ps.1, List.take_length] at h2
    exact ⟨_, rfl, q p ls G' H' g hp g0 h1 h2⟩
end
end SW


/-! ### a part read from its words -/
namespace SW
open PySem PySem.Spec PyProof.Rows L2 He TL
def nameSign (c : Nat) : Bool := (decide (97 ≤ c) && decide (c ≤ 122)) || isDig c
def nameSigns : Str := "abcdefghijklmnopqrstuvwxyz0123456789"
theorem tl_signs : tl nameSigns = [97, 98, 99, 100, 101, 102, 103, 104, 105, 106, 107, 108, 109, 110, 111, 112, 113, 114, 115, 116, 117, 118, 119, 120, 121, 122, 48, 49, 50, 51, 52, 53, 54, 55, 56, 57] := by decide +kernel
theorem mem_signs (c : Nat) : c ∈ tl nameSigns ↔ nameSign c = true := by
  rw [tl_signs]
  unfold nameSign
  rw [Bool.or_eq_true, Bool.and_eq_true, decide_eq_true_eq, decide_eq_true_eq, isDig_iff]
  simp only [List.mem_cons, List.not_mem_nil, or_false]
  omega
def goodName (cs : List Nat) : Bool := (decide (1 ≤ cs.length) && decide (cs.length ≤ 8)) && cs.all nameSign
def feedOf (z : Str) : Option (Str × Int) :=
  if goodName (tl (Txt.partition z "/").1) = false then none
  else if tl (Txt.partition z "/").2.1 = [] then some ((Txt.partition z "/").1, 0)
  else if numIn (tl (Txt.partition z "/").2.2) 100 < 0 then none
  else some ((Txt.partition z "/").1, numIn (tl (Txt.partition z "/").2.2) 100)
def partOf : List Str → Option Pd
  | n :: kw :: tw :: fw =>
    if goodName (tl n) = false then none
    else match kindBy kw with
      | none => none
      | some k =>
        if numIn (tl tw) 1000 < 0 ∨ fw.length ≠ k.c.lines then none
        else if none ∈ fw.map feedOf ∨ ((decide (k.c = .src) || decide (k.c = .snk)) = true ∧ 0 < numIn (tl tw) 1000) then none
        else some ⟨n, k, numIn (tl tw) 1000, (fw.map feedOf).filterMap id⟩
  | _ => none
theorem tl_slash : tl ("/" : Str) = [47] := by decide +kernel
def spGood : Sp := fun vs H Q _ => ∃ z : Str, vs = [.str z] ∧ z.length ≤ 100000 ∧ Q (.bl (goodName (tl z))) H
/-- a feed read: None, or a new pair -/
def FRes (H H' : Hp) (v : V) : Option (Str × Int) → Prop
  | none => v = .non
  | some f => ∃ t, v = .ref t ∧ H t = none ∧ H' t = some (.tup [.str f.1, .int f.2])
def spFeedOf : Sp := fun vs H Q _ => ∃ z : Str, vs = [.str z] ∧ z.length ≤ 100000 ∧ ∀ v H', Same H H' → FRes H H' v (feedOf z) → Q v H'
def PRes (K : PySem.W.Frag) (G : Hp) (v : V) : Option Pd → Prop
  | none => v = .non
  | some p => PartAt K G v p
def spPartOf (K : PySem.W.Frag) : Sp := fun vs H Q _ => ∃ (G : Hp) (l : Addr) (ws : List Str), vs = [.ref l] ∧ Same G H ∧ SqL K H l (ws.map V.str) ∧ ws.length ≤ 100000 ∧ (∀ z ∈ ws, z.length ≤ 100000) ∧
  ∀ v G' H', Grow G H G' H' → PRes K G' v (partOf ws) → Q v H'
theorem kindBy_ok {z : Str} {k : Kd} (h : kindBy z = some k) : k.ok := by
  unfold kindBy at h
  cases e : plainKinds.find? (fun k => decide (tl k.word = tl z)) with
  | some k' =>
    rw [e] at h
    cases h
    exact plain_ok (List.mem_of_find?_eq_some e)
  | none =>
    rw [e] at h
    unfold countedKind at h
    have hle := numIn_le (tl (Txt.partition z ":").2.2) (most := 63) (by decide)
    dsimp only at h
    split at h
    · cases h
    · rename_i h1
      split at h
      · cases h
        exact fun _ => ⟨by dsimp only; omega, hle⟩
      · split at h
        · cases h
          exact fun _ => ⟨by dsimp only; omega, hle⟩
        · cases h
/-- what a fresh object is for good -/
theorem Grow.got {G0 H0 G H H' : Hp} {p : Addr} {o : HO} (a : Grow G0 H0 G H) (s : Same H H') (n : H p = none) (h : H' p = some o) : Grow G0 H0 (upd G p o) H' := by
  have hg : G p = none := a.gh.free n
  refine ⟨a.gg.trans (Same.new hg), a.hh.trans s, fun b u e => ?_, fun c u e m => ?_⟩
  · by_cases hb : b = p
    · subst hb
      rw [upd_same] at e
      rw [h]
      exact e
    · rw [upd_ne hb] at e
      exact s _ _ (a.gh b u e)
  · rw [upd_ne (ne_of_none (a.hh _ _ e) n)]
    exact a.sep c u e m
theorem Grow.same {G0 H0 G H H' : Hp} (a : Grow G0 H0 G H) (s : Same H H') : Grow G0 H0 G H' := ⟨a.gg, a.hh.trans s, a.gh.trans s, a.sep⟩
section
variable {P : Program} {w : World} {K : PySem.W.Frag} {mg : Str → Option Value} {base : Heap}
theorem ok_good_name (T : Txt K mg) : Ok P w K mg base 1 (ga K "good_name") ["name"] spGood := by
  refine mkOk T.F_good_name sc_good_name (fun _ _ _ _ _ _ us hl => match us, hl with | [_], _ => rfl) (by rintro vs H Q E ⟨_, rfl, _⟩; rfl) (fun cdv A outer s H vs Q E hr h => ?_)
  obtain ⟨z, rfl, hz, q⟩ := h
  refine ⟨_, (pss_one (ps_ret (pe_and (pe_chain op_le op_le pe_int (pe_callB call_len_str (by rfl) T.f_len (by decide +kernel) (pa_cons (pv 0) pa_nil)) pe_int) (pe_one (pe_cmpR op_eq (pe_bm PySem.F.plainAttrs_str PySem.F.slot_str_strip PySem.F.type_str_strip mt_stripChars (pv 0) (pa_cons pe_str pa_nil)) pe_str (nomark _)))))), ?_⟩
  have hl := len_tl z
  have hst : tl (Txt.stripChars z nameSigns) = [] ↔ (tl z).all nameSign = true := by
    rw [strip_nil, List.all_eq_true]
    exact ⟨fun h c hc => (mem_signs c).mp (h c hc), fun h c hc => (mem_signs c).mpr (h c hc)⟩
  have e1 : decide ((1 : Int) ≤ (z.length : Int)) = decide (1 ≤ (tl z).length) := by rw [hl]; exact decide_eq_decide.mpr (by omega)
  have e2 : decide ((z.length : Int) ≤ 8) = decide ((tl z).length ≤ 8) := by rw [hl]; exact decide_eq_decide.mpr (by omega)
  unfold goodName at q
  refine ⟨_, rfl, _, rfl, line_le hz, _, _, rfl, rfl, _, rfl, ?_⟩
  rw [e1]
  refine ite2 (fun h1 => ?_) (fun h1 => ?_)
  · rw [h1, Bool.true_and] at q
    refine ⟨_, _, rfl, rfl, _, rfl, ?_⟩
    rw [e2]
    refine ite2 (fun h2 => ?_) (fun h2 => ?_)
    · rw [h2, Bool.true_and] at q
      refine ⟨_, rfl, rfl, _, _, rfl, rfl, line_le hz, rfl, ?_⟩
      rw [dstr, tl_emp]
      have : (tl z).all nameSign = decide (tl (Txt.stripChars z nameSigns) = []) := by
        rw [Bool.eq_iff_iff, decide_eq_true_eq]
        exact hst.symm
      rw [this] at q
      exact q
    · rw [Bool.eq_false_iff.mpr h2] at q
      exact q
  · rw [Bool.eq_false_iff.mpr h1] at q
    exact ⟨_, rfl, iteF q⟩
theorem ok_feed_of (T : Txt K mg) : Ok P w K mg base 2 (ga K "feed_of") ["word"] spFeedOf := by
  have G_good_name := ok_good_name (P := P) (w := w) (base := base) T
  have G_number_in := ok_number_in (P := P) (w := w) (base := base) T
  refine mkOk T.F_feed_of sc_feed_of (fun _ _ _ _ _ _ us hl => match us, hl with | [_], _ => rfl) (by rintro vs H Q E ⟨_, rfl, _⟩; rfl) (fun cdv A outer s H vs Q E hr h => ?_)
  obtain ⟨z, rfl, hz, q⟩ := h
  refine ⟨_, (pss_cons (ps_asg (pe_partition (pv 0) pe_str) (pg_tup rfl (pgs_cons (pg_name (i := 1) sc_feed_of.nd rfl (by first | exact Or.inl rfl | exact Or.inr rfl)) (pgs_cons (pg_name (i := 2) sc_feed_of.nd rfl (by first | exact Or.inl rfl | exact Or.inr rfl)) (pgs_cons (pg_name (i := 3) sc_feed_of.nd rfl (by first | exact Or.inl rfl | exact Or.inr rfl)) pgs_nil)))))
      (pss_cons (ps_if (pt_not (pt_val (pe_callO G_good_name (hr.mono (by decide)) T.g_good_name (pa_cons (pv 1) pa_nil)))) (pss_one (ps_ret pe_non)) pss_nil)
      (pss_cons (ps_if (pt_cmpR op_eq (pv 2) pe_str (nomark _)) (pss_one (ps_ret (pe_tup (pa_cons (pv 1) (pa_cons pe_int pa_nil))))) pss_nil)
      (pss_cons (ps_set (i := 4) sc_feed_of.nd rfl (by first | exact Or.inl rfl | exact Or.inr rfl) (pe_callO G_number_in (hr.mono (by decide)) T.g_number_in (pa_cons (pv 3) (pa_cons pe_int pa_nil))))
      (pss_cons (ps_if (pt_cmpR op_lt (pv 4) pe_int (nomark _)) (pss_one (ps_ret pe_non)) pss_nil)
      (pss_one (ps_ret (pe_tup (pa_cons (pv 1) (pa_cons (pv 4) pa_nil)))))))))), ?_⟩
  obtain ⟨l1, l2⟩ := part1_len z "/" 47 tl_slash
  refine ⟨_, rfl, ⟨_, rfl⟩, _, _, rfl, rfl, rfl, line_le hz, fun t ht => ?_⟩
  have s1 := Same.new (o := .tup [.str (Txt.partition z "/").1, .str (Txt.partition z "/").2.1, .str (Txt.partition z "/").2.2]) ht
  refine ⟨t, _, rfl, SqT.of upd_same, rfl, _, _, rfl, _, _, rfl, _, _, rfl, rfl, ?_⟩
  unfold feedOf at q
  refine ⟨_, rfl, _, rfl, Nat.le_trans l1 hz, _, rfl, ?_⟩
  cases hg : goodName (tl (Txt.partition z "/").1) with
  | false =>
    rw [if_pos hg] at q
    exact iteT (q _ _ s1 rfl)
  | true =>
    rw [if_neg (by rw [hg]; simp)] at q
    refine iteF ?_
    refine ⟨_, rfl, rfl, _, rfl, ?_⟩
    rw [dstr, tl_emp]
    refine ite2 (fun h1 => ?_) (fun h1 => ?_)
    · rw [if_pos (of_decide_eq_true h1)] at q
      refine ⟨_, rfl, (by show 2 ≤ sizeLine; decide), fun u hu => ?_⟩
      exact q _ _ (s1.trans (Same.new hu)) ⟨u, rfl, s1.free hu, upd_same⟩
    · rw [if_neg (fun e => h1 (decide_eq_true e))] at q
      refine ⟨_, rfl, _, _, rfl, Nat.le_trans l2 hz, ?_⟩
      refine ⟨_, rfl, _, _, rfl, rfl, _, rfl, ?_⟩
      refine ite2 (fun h2 => ?_) (fun h2 => ?_)
      · rw [if_pos (of_decide_eq_true h2)] at q
        exact q _ _ s1 rfl
      · rw [if_neg (fun e => h2 (decide_eq_true e))] at q
        refine ⟨_, rfl, _, rfl, (by show 2 ≤ sizeLine; decide), fun u hu => ?_⟩
        exact q _ _ (s1.trans (Same.new hu)) ⟨u, rfl, s1.free hu, upd_same⟩

def FeedOpt (G : Hp) (v : V) : Option (Str × Int) → Prop
  | none => v = .non
  | some f => FeedAt G v f
theorem FeedOpt.mono {G G' : Hp} {v : V} {o : Option (Str × Int)} (e : Same G G') (h : FeedOpt G v o) : FeedOpt G' v o := by
  cases o with
  | none => exact h
  | some f => exact FeedAt.mono e h
def toD : Option (Str × Int) → PyData
  | none => .none
  | some f => .tuple [.str f.1, .int f.2]
theorem feedOf_good {z : Str} {f : Str × Int} (h : feedOf z = some f) : goodName (tl f.1) = true ∧ 0 ≤ f.2 ∧ f.2 ≤ 100 := by
  unfold feedOf at h
  have hle := numIn_le (tl (Txt.partition z "/").2.2) (most := 100) (by decide)
  split at h
  · cases h
  · rename_i h1
    have h1' : goodName (tl (Txt.partition z "/").1) = true := by
      cases e : goodName (tl (Txt.partition z "/").1) with
      | true => rfl
      | false => exact absurd e h1
    split at h
    · cases h
      exact ⟨h1', (by show (0 : Int) ≤ 0; decide), (by show (0 : Int) ≤ 100; decide)⟩
    · split at h
      · cases h
      · cases h
        exact ⟨h1', by dsimp only; omega, hle⟩
theorem nameSign_lt {c : Nat} (h : nameSign c = true) : c < 1114112 := by
  unfold nameSign at h
  rw [Bool.or_eq_true, Bool.and_eq_true, decide_eq_true_eq, decide_eq_true_eq, isDig_iff] at h
  omega
theorem goodName_ok {z : Str} (h : goodName (tl z) = true) : PyData.strOk z = true := by
  unfold goodName at h
  rw [Bool.and_eq_true] at h
  show z.cps.all _ = true
  rw [Array.all_eq_true']
  intro c hc
  have := List.all_eq_true.mp h.2 c (by simpa [tl] using hc)
  exact decide_eq_true (nameSign_lt this)
theorem dpFeeds {K : PySem.W.Frag} {G H : Hp} (e : Same G H) : ∀ {vs : List V} {os : List (Option (Str × Int))}, All2 (FeedOpt G) vs os → DpAll K H vs (os.map toD)
  | [], [], _ => .nil
  | [], _ :: _, h => by have := h.1; simp at this
  | _ :: _, [], h => by have := h.1; simp at this
  | v :: vs, o :: os, h => by
    obtain ⟨h1, h2⟩ := h.uncons
    refine .cons ?_ (dpFeeds e h2)
    cases o with
    | none =>
      cases (show v = .non from h1)
      exact .non
    | some f =>
      obtain ⟨t, rfl, ht⟩ := (show FeedAt G v f from h1)
      exact .tup (SqT.of (e _ _ ht)) (.cons (.str _) (.cons (.int _) .nil))
theorem layFeeds : ∀ {os : List (Option (Str × Int))}, (∀ f, some f ∈ os → goodName (tl f.1) = true) → PyData.canLayAll0 (os.map toD) = true ∧ PyData.depthAll (os.map toD) ≤ 1
  | [], _ => ⟨rfl, Nat.zero_le _⟩
  | o :: os, h => by
    obtain ⟨h1, h2⟩ := layFeeds (os := os) fun f hf => h f (List.mem_cons_of_mem _ hf)
    cases o with
    | none =>
      refine ⟨?_, ?_⟩
      · show (PyData.canLay0 .none && PyData.canLayAll0 (os.map toD)) = true
        rw [h1] <;> rfl
      · show max (PyData.depth .none) (PyData.depthAll (os.map toD)) ≤ 1
        exact Nat.max_le.mpr ⟨Nat.zero_le _, h2⟩
    | some f =>
      have h3 := goodName_ok (h f (List.mem_cons_self ..))
      refine ⟨?_, ?_⟩
      · show ((PyData.strOk f.1 && (true && true)) && PyData.canLayAll0 (os.map toD)) = true
        rw [h1, h3] <;> rfl
      · show max (max 0 (max 0 0) + 1) (PyData.depthAll (os.map toD)) ≤ 1
        exact Nat.max_le.mpr ⟨by decide, h2⟩
theorem anyFeeds : ∀ os : List (Option (Str × Int)), ((os.map toD).any fun z => PyData.eqv z .none) = decide (none ∈ os)
  | [] => rfl
  | o :: os => by
    have ih := anyFeeds os
    rw [List.map_cons, List.any_cons, ih]
    cases o with
    | none =>
      show (true || _) = _
      rw [Bool.true_or]
      exact (decide_eq_true (List.mem_cons_self ..)).symm
    | some f =>
      show (false || _) = _
      rw [Bool.false_or]
      exact decide_eq_decide.mpr (by simp)
theorem cut_drop (xs : List V) (n : Nat) : cutV xs (some (n : Int)) none = xs.drop n := by
  unfold cutV
  rw [HT.sIx_none, HT.sIx_nat]
  by_cases h : n ≤ xs.length
  · rw [Nat.min_eq_left h, List.take_of_length_le (by rw [List.length_drop]; exact Nat.le_refl _)]
  · rw [Nat.min_eq_right (by omega), List.drop_length, List.drop_of_length_le (by omega), List.take_nil]
theorem lines_le (c : Kc) : c.lines ≤ 3 := by cases c <;> decide
theorem allSome : ∀ {vs : List V} {os : List (Option (Str × Int))} {G : Hp}, All2 (FeedOpt G) vs os → none ∉ os → All2 (FeedAt G) vs (os.filterMap id)
  | [], [], _, _, _ => All2.nil
  | [], _ :: _, _, h, _ => by have := h.1; simp at this
  | _ :: _, [], _, h, _ => by have := h.1; simp at this
  | v :: vs, o :: os, G, h, hn => by
    obtain ⟨h1, h2⟩ := h.uncons
    cases o with
    | none => exact absurd (List.mem_cons_self ..) hn
    | some f => exact All2.cons h1 (allSome h2 fun m => hn (List.mem_cons_of_mem _ m))
theorem ok_part_of (T : Txt K mg) : Ok P w K mg base 4 (ga K "part_of") ["words"] (spPartOf K) := by
  have G_good_name := ok_good_name (P := P) (w := w) (base := base) T
  have G_number_in := ok_number_in (P := P) (w := w) (base := base) T
  have G_kind_by := ok_kind_by (P := P) (w := w) (base := base) T
  have G_feed_of := ok_feed_of (P := P) (w := w) (base := base) T
  have G_kind_lines := ok_kind_lines (P := P) (w := w) (base := base) T
  have G_Part_init := ok_Part_init (P := P) (w := w) (base := base) T
  have G_Part_end := ok_Part_end (P := P) (w := w) (base := base) T
  refine mkOk T.F_part_of sc_part_of (fun _ _ _ _ _ _ us hl => match us, hl with | [_], _ => rfl) (by rintro vs H Q E ⟨_, _, _, rfl, _⟩; rfl) (fun cdv A outer s H vs Q E hr h => ?_)
  obtain ⟨G, l, ws, rfl, sg, hS, hwl, hzl, q⟩ := h
  refine ⟨_, (pss_cons (ps_if (PW.pt (pw_or (pt_cmpR op_lt (pe_callB (lenQ (K := K)) (by rfl) T.f_len (by decide +kernel) (pa_cons (pv 0) pa_nil)) pe_int (nomark _)) (pw_or1 (pt_not (pt_val (pe_callO G_good_name (hr.mono (by decide)) T.g_good_name (pa_cons (pe_ix (ixL (K := K)) (pv 0) pe_int (fun _ _ => rfl)) pa_nil))))))) (pss_one (ps_ret pe_non)) pss_nil)
      (pss_cons (ps_set (i := 1) sc_part_of.nd rfl (by first | exact Or.inl rfl | exact Or.inr rfl) (pe_callO G_kind_by (hr.mono (by decide)) T.g_kind_by (pa_cons (pe_ix (ixL (K := K)) (pv 0) pe_int (fun _ _ => rfl)) pa_nil)))
      (pss_cons (ps_set (i := 2) sc_part_of.nd rfl (by first | exact Or.inl rfl | exact Or.inr rfl) (pe_callO G_number_in (hr.mono (by decide)) T.g_number_in (pa_cons (pe_ix (ixL (K := K)) (pv 0) pe_int (fun _ _ => rfl)) (pa_cons pe_int pa_nil))))
      (pss_cons (ps_if (PW.pt (pw_or (pt_cmpR op_isN (pv 1) pe_non (nomark _)) (pw_or (pt_cmpR op_lt (pv 2) pe_int (nomark _)) (pw_or1 (pt_cmpR op_ne (pe_callB (lenQ (K := K)) (by rfl) T.f_len (by decide +kernel) (pa_cons (pv 0) pa_nil)) (pe_op op_add pe_int (pe_ex fun c => (G_kind_lines c).use fun fd F b => pe_meth0 (pv 1) (T.ck c) (T.mk_lines_ c) F (hr.mono (by decide)) b .nil pass0)) (nomark _)))))) (pss_one (ps_ret pe_non)) pss_nil)
      (pss_cons (ps_setLc (i := 3) (own := [("word", 4)]) rfl sc_part_of.nd rfl rfl (sw_true rfl rfl rfl (by decide +kernel)) (piL (K := K) (pe_slice (slL (K := K)) (pv 0) (po_some pe_int) po_none)) (blkOk_by (own := [("word", 4)]) (N := ["words", "kind", "time", "feeds", "word", "part"]) (sc := defScope s_part_of) (by decide +kernel)) (fun _ _ _ _ _ => (pg_name (i := 4) sc_part_of.nd rfl (by first | exact Or.inl rfl | exact Or.inr rfl))) (fun _ _ _ _ _ => pts_nil) (fun _ _ _ _ _ => (pe_callO G_feed_of (hr.mono (by decide)) T.g_feed_of (pa_cons (pv 4) pa_nil))))
      (pss_cons (ps_set (i := 5) sc_part_of.nd rfl (by first | exact Or.inl rfl | exact Or.inr rfl) (pe_makeO T.mk_Part G_Part_init (hr.mono (by decide)) T.g_Part (pa_cons (pe_ix (ixL (K := K)) (pv 0) pe_int (fun _ _ => rfl)) (pa_cons (pv 1) (pa_cons (pv 2) (pa_cons (pv 3) pa_nil))))))
      (pss_cons (ps_if (PW.pt (pw_or (pt_cmpR (inDK (K := K) (hu65 hr)) pe_non (pv 3) (by rfl)) (pw_or1 (PW.pt (pw_and (pt_val (G_Part_end.use fun fd F b => pe_meth0 (pv 5) T.c_Part T.m_Part_end F (hr.mono (by decide)) b .nil pass0)) (pw_and1 (pt_cmpR op_gt (pv 2) pe_int (nomark _)))))))) (pss_one (ps_ret pe_non)) pss_nil)
      (pss_one (ps_ret (pv 5)))))))))), ?_⟩
  have g0 := Grow.refl sg
  refine ⟨_, rfl, l, _, rfl, .inl hS, _, _, rfl, rfl, _, rfl, ?_⟩
  rw [List.length_map]
  refine ite2 (fun h1 => iteT ?_) (fun h1 => ?_)
  · have h3 := of_decide_eq_true h1
    refine q _ _ _ g0 ?_
    match ws, h3 with
    | [], _ => exact rfl
    | [_], _ => exact rfl
    | [_, _], _ => exact rfl
    | _ :: _ :: _ :: r, h3 => exfalso; simp only [List.length_cons] at h3; omega
  have h3 : ¬ ws.length < 3 := fun z => h1 (decide_eq_true (by omega))
  obtain ⟨n, kw, tw, fw, rfl⟩ := cons3 (l := ws) (by omega)
  have hzn : n.length ≤ 100000 := hzl n (by simp)
  have hzk : kw.length ≤ 100000 := hzl kw (by simp)
  have hzt : tw.length ≤ 100000 := hzl tw (by simp)
  have hS0 : ∀ {H'}, Same H H' → SqL K H' l (V.str n :: V.str kw :: V.str tw :: fw.map V.str) := fun s => s.seq hS
  have hpd : partOf (n :: kw :: tw :: fw) = if goodName (tl n) = false then none else match kindBy kw with
      | none => none
      | some k => if numIn (tl tw) 1000 < 0 ∨ fw.length ≠ k.c.lines then none
        else if none ∈ fw.map feedOf ∨ ((decide (k.c = .src) || decide (k.c = .snk)) = true ∧ 0 < numIn (tl tw) 1000) then none
        else some ⟨n, k, numIn (tl tw) 1000, (fw.map feedOf).filterMap id⟩ := rfl
  refine ⟨_, rfl, l, _, _, _, rfl, rfl, hS0 (Same.refl _), at0 _ _, n, rfl, hzn, _, rfl, ?_⟩
  cases hgn : goodName (tl n) with
  | false =>
    refine iteT ?_
    rw [hpd, if_pos hgn] at q
    exact q _ _ _ g0 rfl
  | true =>
  refine iteF ?_
  rw [hpd, if_neg (by rw [hgn]; simp)] at q
  -- kind, time
  refine ⟨_, rfl, l, _, _, _, rfl, rfl, hS0 (Same.refl _), at1 _ _ _, kw, rfl, hzk, fun kv H1 s1 kr => ?_⟩
  refine ⟨_, rfl, l, _, _, _, rfl, rfl, hS0 s1, at2 _ _ _ _, _, _, rfl, hzt, ?_⟩
  refine ⟨_, rfl, rfl, _, rfl, ?_⟩
  cases hkb : kindBy kw with
  | none =>
    rw [hkb] at q kr
    cases (show kv = .non from kr)
    exact iteT (iteT (q _ _ _ (g0.same s1) rfl))
  | some k =>
  rw [hkb] at q kr
  obtain ⟨ka, rfl, hka, dk, hk⟩ := kr
  have hkok := kindBy_ok hkb
  refine iteF ?_
  refine ⟨_, rfl, _, _, rfl, rfl, _, rfl, ?_⟩
  dsimp only at q ⊢
  refine ite2 (fun h2 => iteT ?_) (fun h2 => ?_)
  · rw [if_pos (.inl (of_decide_eq_true h2))] at q
    exact q _ _ _ (g0.same s1) rfl
  have h2' : ¬ numIn (tl tw) 1000 < 0 := fun z => h2 (decide_eq_true z)
  refine ⟨_, rfl, l, _, rfl, .inl (hS0 s1), k.c, _, rfl, ka, dk, _, rfl, hk, flds_no _ (by decide +kernel), ka, k, rfl, ⟨dk, hk⟩, rfl, _, _, rfl, rfl, rfl, _, rfl, ?_⟩
  have hlen : decide (V.int ((V.str n :: V.str kw :: V.str tw :: fw.map V.str).length : Int) = V.int (3 + (k.c.lines : Int))) = decide (fw.length = k.c.lines) := by
    refine decide_eq_decide.mpr ⟨fun z => ?_, fun z => ?_⟩
    · have := V.int.inj z
      simp only [List.length_cons, List.length_map] at this
      omega
    · simp only [List.length_cons, List.length_map]
      congr 1
      omega
  rw [hlen]
  by_cases h4 : fw.length = k.c.lines
  rotate_left
  · rw [decide_eq_false h4]
    rw [if_pos (.inr h4)] at q
    exact iteT (q _ _ _ (g0.same s1) rfl)
  rw [decide_eq_true h4]
  refine iteF ?_
  have h5 : ¬ (numIn (tl tw) 1000 < 0 ∨ fw.length ≠ k.c.lines) := fun z => z.elim h2' fun z => z h4
  rw [if_neg h5] at q
  have g1 := g0.got s1 hka hk
  have hkG : (upd G ka (.ins (ga K k.c.nm) dk k.flds)) ka = some (.ins (ga K k.c.nm) dk k.flds) := upd_same
  revert g1 hkG
  generalize upd G ka (HO.ins (ga K k.c.nm) dk k.flds) = G1
  intro g1 hkG
  -- the feeds
  refine ⟨_, rfl, _, rfl, l, _, rfl, hS0 s1, fun p hp => ?_⟩
  have ecut : cutV (V.str n :: V.str kw :: V.str tw :: fw.map V.str) (some 3) none = fw.map V.str := cut_drop _ 3
  rw [ecut]
  refine ⟨p, rfl, ⟨_, SqL.of upd_same⟩, fun D hD => ?_⟩
  have hDp : D ≠ p := fun z => by rw [z, upd_same] at hD; cases hD
  have hD1 : H1 D = none := by rw [upd_ne hDp] at hD; exact hD
  have hDH : H D = none := g1.hh.free hD1
  have hDG : G1 D = none := g1.gh.free hD1
  have g2 : Grow G H G1 (upd (upd H1 p (.lst (fw.map V.str))) D (.lst [])) := (g1.temp hp).temp hD
  refine lc_list (K := K) (a := p) (xs := fw.map V.str) (fun i H' => ∃ G' fs, Grow G H G' H' ∧ Same G1 G' ∧ G' D = none ∧ H' D = some (.lst fs) ∧ H' p = some (.lst (fw.map V.str)) ∧ All2 (FeedOpt G') fs ((fw.take i).map feedOf))
    ⟨G1, [], g2, Same.refl _, hDG, upd_same, by rw [upd_ne hDp.symm, upd_same], All2.nil⟩ (fun i H' _ h => by obtain ⟨_, _, _, _, _, _, h, _⟩ := h; exact SqL.of h) ?_ ?_
  · rintro i x H2 hi ⟨G2, fs, g, gs, d0, d1, hp2, hA⟩
    rw [List.getElem?_map] at hi
    cases e : fw[i]? with
    | none => rw [e] at hi; cases hi
    | some z =>
    rw [e] at hi
    cases hi
    refine ⟨rfl, iteT (B := True) ?_⟩
    refine ⟨_, rfl, z, rfl, hzl z (by simp only [List.mem_cons]; exact .inr (.inr (.inr (List.mem_of_getElem? e)))), fun v H3 s3 fr => ?_⟩
    have hil : fs.length ≤ 3 := by
      rw [hA.1, List.length_map, List.length_take]
      have := lines_le k.c
      omega
    refine ⟨fs, s3 _ _ d1, small1000 (by omega), ?_⟩
    have hpD : p ≠ D := hDp.symm
    cases ef : feedOf z with
    | none =>
      rw [ef] at fr
      cases (show v = .non from fr)
      refine ⟨G2, _, (g.same s3).mut hDH d0, gs, d0, upd_same, by rw [upd_ne hpD]; exact s3 _ _ hp2, ?_⟩
      rw [take_one e, List.map_append]
      exact hA.push (show FeedOpt G2 .non (feedOf z) by rw [ef]; exact rfl)
    | some f =>
      rw [ef] at fr
      obtain ⟨t, rfl, ht0, ht1⟩ := fr
      have htD : t ≠ D := (ne_of_none d1 ht0).symm
      refine ⟨upd G2 t (.tup [.str f.1, .int f.2]), _, (g.got s3 ht0 ht1).mut hDH (by rw [upd_ne htD.symm]; exact d0), gs.trans (Same.new (g.gh.free ht0)), by rw [upd_ne htD.symm]; exact d0, upd_same, by rw [upd_ne hpD]; exact s3 _ _ hp2, ?_⟩
      rw [take_one e, List.map_append]
      exact (hA.mono fun _ _ z => z.mono (Same.new (g.gh.free ht0))).push (show FeedOpt _ (.ref t) (feedOf z) by rw [ef]; exact ⟨t, rfl, upd_same⟩)
  rintro H2 ⟨G2, fs, g, gs, d0, d1, _, hA⟩
  rw [List.length_map, List.take_length] at hA
  -- the part
  refine ⟨_, rfl, l, _, _, _, rfl, rfl, g.hh.seq hS, at0 _ _, _, rfl, _, rfl, _, rfl, ?_⟩
  intro x dx nx mx ex
  refine ⟨x, dx, _, _, _, _, rfl, upd_same, ⟨rfl, ?_⟩⟩
  rw [upd_upd]
  have g3 := g.make (C := ga K "Part") (fs := [("called", .str n), ("craft", .ref ka), ("takes", .int (numIn (tl tw) 1000)), ("feeds", .ref D)]) nx mx
  have d3 : (upd (upd H2 dx (.own x)) x (.ins (ga K "Part") dx [("called", .str n), ("craft", .ref ka), ("takes", .int (numIn (tl tw) 1000)), ("feeds", .ref D)])) D = some (.lst fs) := by
    rw [upd_ne (ne_of_none d1 nx), upd_ne (ne_of_none d1 mx)]
    exact d1
  have x3 : (upd (upd H2 dx (.own x)) x (.ins (ga K "Part") dx [("called", .str n), ("craft", .ref ka), ("takes", .int (numIn (tl tw) 1000)), ("feeds", .ref D)])) x = some (.ins (ga K "Part") dx [("called", .str n), ("craft", .ref ka), ("takes", .int (numIn (tl tw) 1000)), ("feeds", .ref D)]) := upd_same
  revert g3 d3 x3
  show Grow _ _ _ (upd (upd H2 dx (HO.own x)) x (HO.ins (ga K "Part") dx [("called", .str n), ("craft", .ref ka), ("takes", .int (numIn (tl tw) 1000)), ("feeds", .ref D)])) → _ → _ → _
  generalize upd (upd H2 dx (HO.own x)) x (HO.ins (ga K "Part") dx [("called", .str n), ("craft", .ref ka), ("takes", .int (numIn (tl tw) 1000)), ("feeds", .ref D)]) = H3
  intro g3 d3 x3
  have hgood : ∀ f, some f ∈ fw.map feedOf → goodName (tl f.1) = true := fun f hf => by
    obtain ⟨z, _, hz⟩ := List.mem_map.mp hf
    exact (feedOf_good hz).1
  obtain ⟨lay, dep⟩ := layFeeds hgood
  have shp : SeqAt.shaped (.list ((fw.map feedOf).map toD)) = true := by
    show (PyData.canLayAll0 _ && decide (PyData.depthAll _ + 1 ≤ 64)) = true
    rw [lay]
    exact decide_eq_true (by omega)
  refine ⟨_, rfl, .none, _, .non, .lst (SqL.of d3) (dpFeeds g3.gh hA), rfl, shp, ?_⟩
  rw [anyFeeds]
  refine ⟨_, rfl, ?_⟩
  by_cases hno : none ∈ fw.map feedOf
  · rw [decide_eq_true hno]
    rw [if_pos (.inl hno)] at q
    exact iteT (iteT (q _ _ _ g3 rfl))
  rw [decide_eq_false hno]
  refine iteF ?_
  have hall := allSome hA hno
  have hxH : H x = none := g.hh.free nx
  have hxG : G2 x = none := g.gh.free nx
  have hDx : D ≠ x := ne_of_none d1 nx
  have g4 := (g3.keep hDH d0 d3).keep hxH (by rw [upd_ne hDx.symm]; exact hxG) x3
  have hDG4 : (upd (upd G2 D (.lst fs)) x (.ins (ga K "Part") dx [("called", .str n), ("craft", .ref ka), ("takes", .int (numIn (tl tw) 1000)), ("feeds", .ref D)])) D = some (.lst fs) := by rw [upd_ne hDx, upd_same]
  have hxG4 : (upd (upd G2 D (.lst fs)) x (.ins (ga K "Part") dx [("called", .str n), ("craft", .ref ka), ("takes", .int (numIn (tl tw) 1000)), ("feeds", .ref D)])) x = some (.ins (ga K "Part") dx [("called", .str n), ("craft", .ref ka), ("takes", .int (numIn (tl tw) 1000)), ("feeds", .ref D)]) := upd_same
  have s24 : Same G2 (upd (upd G2 D (.lst fs)) x (.ins (ga K "Part") dx [("called", .str n), ("craft", .ref ka), ("takes", .int (numIn (tl tw) 1000)), ("feeds", .ref D)])) := (Same.new d0).trans (Same.new (by rw [upd_ne hDx.symm]; exact hxG))
  revert g4 hDG4 hxG4 s24
  generalize upd (upd G2 D (HO.lst fs)) x (HO.ins (ga K "Part") dx [("called", .str n), ("craft", .ref ka), ("takes", .int (numIn (tl tw) 1000)), ("feeds", .ref D)]) = G4
  intro g4 hDG4 hxG4 s24
  have hpart : PartAt K G4 (.ref x) ⟨n, k, numIn (tl tw) 1000, (fw.map feedOf).filterMap id⟩ :=
    ⟨x, dx, ka, D, fs, rfl, hxG4, ⟨dk, s24 _ _ (gs _ _ hkG)⟩, hkok, hDG4, hall.mono fun _ _ z => z.mono s24⟩
  refine ⟨_, rfl, x, dx, _, rfl, x3, rfl, G4, _, _, rfl, g4.gh, hpart, fun H5 s5 => ⟨_, rfl, ?_⟩⟩
  cases he : Pd.isEnd ⟨n, k, numIn (tl tw) 1000, (fw.map feedOf).filterMap id⟩ with
  | false =>
    have he' : (decide (k.c = .src) || decide (k.c = .snk)) = false := he
    rw [if_neg (by rintro (z | z); exact hno z; rw [he'] at z; cases z.1)] at q
    exact iteF ⟨_, rfl, q _ _ _ (g4.same s5) hpart⟩
  | true =>
    have he' : (decide (k.c = .src) || decide (k.c = .snk)) = true := he
    refine iteT ?_
    refine ⟨_, rfl, _, _, rfl, rfl, _, rfl, ?_⟩
    refine ite2 (fun h6 => ?_) (fun h6 => ?_)
    · rw [if_pos (.inr ⟨he', of_decide_eq_true h6⟩)] at q
      exact q _ _ _ (g4.same s5) rfl
    · rw [if_neg (by rintro (z | z); exact hno z; exact h6 (decide_eq_true z.2))] at q
      exact ⟨_, rfl, q _ _ _ (g4.same s5) hpart⟩
end
end SW


/-! ### parts in an order in which each stands behind those that feed it without a store -/
namespace SW
open PySem PySem.Spec PyProof.Rows L2 He TL
structure Wf (ps : List Pd) : Prop where
  few : ps.length ≤ 60
  nd : (ps.map Pd.name).Nodup
  nn : ∀ p ∈ ps, goodName (tl p.name) = true
  cl : ∀ p ∈ ps, ∀ f ∈ p.feeds, ∃ r ∈ ps, r.name = f.1
  ln : ∀ p ∈ ps, p.feeds.length = p.kd.c.lines
  ac : ∃ rank : Str → Nat, ∀ p ∈ ps, ∀ f ∈ p.feeds, f.2 = 0 → rank f.1 < rank p.name
/-- each behind those that feed it without a store -/
def Topo (os : List Pd) : Prop := ∀ i p, os[i]? = some p → ∀ f ∈ p.feeds, f.2 = 0 → f.1 ∈ (os.take i).map Pd.name
structure Ord (ps os : List Pd) : Prop where
  nd : (os.map Pd.name).Nodup
  sub : ∀ p ∈ os, p ∈ ps
  topo : Topo os
theorem Topo.nil : Topo [] := fun i p h => by simp at h
theorem Topo.push {os : List Pd} {p : Pd} (h : Topo os) (hp : ∀ f ∈ p.feeds, f.2 = 0 → f.1 ∈ os.map Pd.name) : Topo (os ++ [p]) := by
  intro i q hi f hf h0
  by_cases hl : i < os.length
  · rw [List.getElem?_append_left hl] at hi
    rw [List.take_append_of_le_length (by omega)]
    exact h i q hi f hf h0
  · have : i = os.length := by
      have := lt_of_get hi
      rw [List.length_append] at this
      simp at this
      omega
    subst this
    rw [List.getElem?_append_right (by omega), Nat.sub_self] at hi
    cases hi
    rw [List.take_append_of_le_length (by omega), List.take_length]
    exact hp f hf h0
/-- as many items, none twice, all of them there: then all are there -/
theorem sub_full {α : Type} [DecidableEq α] : ∀ {xs ys : List α}, xs.Nodup → (∀ x ∈ xs, x ∈ ys) → ys.length ≤ xs.length → ∀ y ∈ ys, y ∈ xs
  | [], ys, _, _, hl, y, hy => by
    have : ys = [] := List.eq_nil_of_length_eq_zero (by simpa using hl)
    rw [this] at hy
    cases hy
  | x :: xs, ys, hn, hs, hl, y, hy => by
    obtain ⟨hx, hn'⟩ := List.nodup_cons.mp hn
    by_cases e : y = x
    · rw [e]
      exact List.mem_cons_self ..
    · refine List.mem_cons_of_mem _ (sub_full (ys := ys.erase x) hn' (fun z hz => ?_) ?_ y ((List.mem_erase_of_ne e).mpr hy))
      · have hzx : z ≠ x := fun q => hx (q ▸ hz)
        exact (List.mem_erase_of_ne hzx).mpr (hs z (List.mem_cons_of_mem _ hz))
      · have := hs x (List.mem_cons_self ..)
        rw [List.length_erase_of_mem this]
        rw [List.length_cons] at hl
        omega
theorem nodup_len {α : Type} [DecidableEq α] : ∀ {xs ys : List α}, xs.Nodup → (∀ x ∈ xs, x ∈ ys) → xs.length ≤ ys.length
  | [], _, _, _ => Nat.zero_le _
  | x :: xs, ys, hn, hs => by
    obtain ⟨hx, hn'⟩ := List.nodup_cons.mp hn
    have := nodup_len (ys := ys.erase x) hn' fun z hz => (List.mem_erase_of_ne (fun q => hx (by rw [← q]; exact hz))).mpr (hs z (List.mem_cons_of_mem _ hz))
    have hm := hs x (List.mem_cons_self ..)
    rw [List.length_erase_of_mem hm] at this
    have := List.length_pos_of_mem hm
    rw [List.length_cons]
    omega
/-- where not all are done, one is ready -/
theorem some_ready {ps os : List Pd} (hf : Wf ps) (ho : Ord ps os) (hl : os.length < ps.length) : ∃ p ∈ ps, p.name ∉ os.map Pd.name ∧ ∀ f ∈ p.feeds, f.2 = 0 → f.1 ∈ os.map Pd.name := by
  obtain ⟨rank, hr⟩ := hf.ac
  have h1 : ∃ p ∈ ps, p.name ∉ os.map Pd.name := by
    refine Classical.byContradiction fun z => ?_
    have h2 : ∀ x ∈ ps.map Pd.name, x ∈ os.map Pd.name := fun x hx => by
      obtain ⟨p, hp, rfl⟩ := List.mem_map.mp hx
      exact Classical.byContradiction fun y => z ⟨p, hp, y⟩
    have := nodup_len hf.nd h2
    rw [List.length_map, List.length_map] at this
    omega
  have key : ∀ (n : Nat) (p : Pd), p ∈ ps → p.name ∉ os.map Pd.name → rank p.name ≤ n → ∃ p ∈ ps, p.name ∉ os.map Pd.name ∧ ∀ f ∈ p.feeds, f.2 = 0 → f.1 ∈ os.map Pd.name := by
    intro n
    induction n with
    | zero =>
      intro p hp hn hz
      exact ⟨p, hp, hn, fun f hf' h0 => absurd (hr p hp f hf' h0) (by omega)⟩
    | succ n ih =>
      intro p hp hn hz
      by_cases hall : ∀ f ∈ p.feeds, f.2 = 0 → f.1 ∈ os.map Pd.name
      · exact ⟨p, hp, hn, hall⟩
      · obtain ⟨f, hf', h0, hno⟩ : ∃ f ∈ p.feeds, f.2 = 0 ∧ f.1 ∉ os.map Pd.name := by
          refine Classical.byContradiction fun z => hall fun f a b => Classical.byContradiction fun c => z ⟨f, a, b, c⟩
        obtain ⟨r, hr1, hr2⟩ := hf.cl p hp f hf'
        exact ih r hr1 (by rw [hr2]; exact hno) (by rw [hr2]; have := hr p hp f hf' h0; omega)
  obtain ⟨p, hp, hn⟩ := h1
  exact key _ p hp hn (Nat.le_refl _)
def doneK (os : List Pd) : List (Key × V) := os.map fun p => ((Sum.inr p.name : Key), V.bl true)
theorem val_done (os : List Pd) (n : Str) : (valV (doneK os) (Sum.inr n : Key)).isSome = decide (n ∈ os.map Pd.name) := by
  unfold valV doneK
  rw [Option.isSome_map, Bool.eq_iff_iff, decide_eq_true_eq]
  rw [List.find?_isSome]
  constructor
  · rintro ⟨x, hx, h⟩
    obtain ⟨p, hp, rfl⟩ := List.mem_map.mp hx
    have := of_decide_eq_true h
    exact List.mem_map.mpr ⟨p, hp, Sum.inr.inj this⟩
  · intro h
    obtain ⟨p, hp, rfl⟩ := List.mem_map.mp h
    exact ⟨_, List.mem_map.mpr ⟨p, hp, rfl⟩, decide_eq_true rfl⟩
theorem val_done_none {os : List Pd} {n : Str} (h : n ∉ os.map Pd.name) : valV (doneK os) (Sum.inr n : Key) = none := by
  have := val_done os n
  rw [decide_eq_false h] at this
  cases e : valV (doneK os) (Sum.inr n : Key) with
  | none => rfl
  | some v =>
    rw [e] at this
    cases this
def notDone (os : List Pd) (f : Str × Int) : Bool := decide (f.2 = 0) && !decide (f.1 ∈ os.map Pd.name)
def spSettled (K : PySem.W.Frag) : Sp := fun vs H Q _ => ∃ (G : Hp) (a : Addr) (ps : List Pd), vs = [.ref a] ∧ Same G H ∧ WorksAt K G a ps ∧ Wf ps ∧
  ∀ (q : Addr) (us : List V) (os : List Pd) (H' : Hp), Same H H' → H q = none → H' q = some (.lst us) → All2 (PartAt K G) us os → Ord ps os → os.length = ps.length → Q (.ref q) H'
theorem Wf.good {ps : List Pd} (h : Wf ps) {p : Pd} (hp : p ∈ ps) {f : Str × Int} (hf : f ∈ p.feeds) : goodName (tl f.1) = true := by
  obtain ⟨r, hr, e⟩ := h.cl p hp f hf
  rw [← e]
  exact h.nn r hr
section
variable {P : Program} {w : World} {K : PySem.W.Frag} {mg : Str → Option Value} {base : Heap}
theorem ok_settled (T : Txt K mg) : Ok P w K mg base 1 (ga K "settled") ["works"] (spSettled K) := by
  refine mkOk T.F_settled sc_settled (fun _ _ _ _ _ _ us hl => match us, hl with | [_], _ => rfl) (by rintro vs H Q E ⟨_, _, _, rfl, _⟩; rfl) (fun cdv A outer s H vs Q E hr h => ?_)
  obtain ⟨G, a, ps, rfl, sg, hwa, hf, q⟩ := h
  have ⟨dx, l, us, hw⟩ := hwa
  have hu := hu_of hr
  refine ⟨_, (pss_cons (ps_set (i := 1) sc_settled.nd rfl (by first | exact Or.inl rfl | exact Or.inr rfl) (pe_lst pa_nil))
      (pss_cons (ps_set (i := 2) sc_settled.nd rfl (by first | exact Or.inl rfl | exact Or.inr rfl) pe_dnewK)
      (pss_cons (ps_while PassesOwn.never (pt_cmpR op_lt (pe_callB (lenQ (K := K)) (by rfl) T.f_len (by decide +kernel) (pa_cons (pv 1) pa_nil)) (pe_callB (lenQ (K := K)) (by rfl) T.f_len (by decide +kernel) (pa_cons (pe_fldK (K := K) (pv 0) rfl) pa_nil)) (nomark _)) (pss_cons (ps_set (i := 3) sc_settled.nd rfl (by first | exact Or.inl rfl | exact Or.inr rfl) pe_bl)
      (pss_cons (ps_for PassesOwn.never rfl (piL (K := K) (pe_fldK (K := K) (pv 0) rfl)) (pg_name (i := 4) sc_settled.nd rfl (by first | exact Or.inl rfl | exact Or.inr rfl))
      (pss_cons (ps_setLc (i := 5) (own := [("feed", 6)]) rfl sc_settled.nd rfl rfl (sw_true rfl rfl rfl (by decide +kernel)) (piL (K := K) (pe_fldK (K := K) (pv 4) rfl)) (blkOk_by (own := [("feed", 6)]) (N := ["works", "order", "done", "found", "part", "ready", "feed"]) (sc := defScope s_settled) (by decide +kernel)) (fun _ _ _ _ _ => (pg_name (i := 6) sc_settled.nd rfl (by first | exact Or.inl rfl | exact Or.inr rfl))) (fun _ _ _ _ _ => pts_one (PW.pt (pw_and (pt_cmpR op_eq (pe_ix (ixT (K := K)) (pv 6) pe_int (fun _ _ => rfl)) pe_int (nomark _)) (pw_and1 (pt_cmp (pc_dnotin hu (pe_ix (ixT (K := K)) (pv 6) pe_int (fun _ _ => rfl)) (pv 2))))))) (fun _ _ _ _ _ => (pv 6)))
      (pss_one (ps_if (PW.pt (pw_and (pt_cmpR (eqEmpK (K := K) (hu0_of hr)) (pv 5) (pe_lst pa_nil) (nomark _)) (pw_and1 (pt_cmp (pc_dnotin hu (pe_fldK (K := K) (pv 4) rfl) (pv 2)))))) (pss_cons (ps_dput hu (pv 2) (pe_fldK (K := K) (pv 4) rfl) pe_bl rfl)
      (pss_cons (ps_expr (pe_bm PySem.F.plainAttrs_list PySem.F.slot_list_append PySem.F.type_list_append mt_append (pv 1) (pa_cons (pv 4) pa_nil)))
      (pss_one (ps_set (i := 3) sc_settled.nd rfl (by first | exact Or.inl rfl | exact Or.inr rfl) pe_bl)))) pss_nil))))
      (pss_one (ps_if (pt_not (pt_val (pv 3))) (pss_one ps_never) pss_nil)))))
      (pss_one (ps_ret (pv 1)))))), ?_⟩
  refine ⟨Nat.zero_le _, fun qo hq => ?_⟩
  intro d hd
  have hqd : qo ≠ d := fun z => by rw [z] at hd; rw [upd_same] at hd; cases hd
  have hdH : H d = none := by rw [upd_ne hqd.symm] at hd; exact hd
  have fewl := hf.few
  refine ⟨fun m σ H' => ∃ os us' v3 v4 v5 v6, m = ps.length - os.length ∧ σ = [some (.ref a), some (.ref qo), some (.ref d), v3, v4, v5, v6] ∧ Same H H' ∧ H' qo = some (.lst us') ∧ H' d = some (.dK (doneK os)) ∧ All2 (PartAt K G) us' os ∧ Ord ps os,
    ⟨_, [], [], none, none, none, none, rfl, rfl, (Same.new hq).trans (Same.new hd), by rw [upd_ne hqd, upd_same], upd_same, All2.nil, ⟨List.nodup_nil, fun p h => (by cases h), Topo.nil⟩⟩, ?_⟩
  rintro m σ H1 ⟨os, us', v3, v4, v5, v6, rfl, rfl, s1, o1, d1, hA, hO⟩
  have hall := s1
  refine ⟨_, rfl, qo, _, rfl, .inl (SqL.of o1), _, rfl, a, _, dx, _, _, rfl, s1 _ _ (sg _ _ hw.ob), T.c_Works, T.n_Works_parts, rfl, l, _, rfl, .inl (SqL.of (s1 _ _ (sg _ _ hw.ls))), _, _, rfl, rfl, _, rfl, ?_⟩
  have hsub : os.length ≤ ps.length := by
    have := nodup_len hO.nd (ys := ps.map Pd.name) fun x hx => by
      obtain ⟨p, hp, rfl⟩ := List.mem_map.mp hx
      exact List.mem_map.mpr ⟨p, hO.sub p hp, rfl⟩
    rw [List.length_map, List.length_map] at this
    exact this
  refine ite2 (fun hlt => ?_) (fun hlt => ?_)
  rotate_left
  · have : os.length = ps.length := by
      have h1 : ¬ ((us'.length : Int) < (us.length : Int)) := fun z => hlt (decide_eq_true z)
      rw [hA.1, hw.ps.1] at h1
      omega
    exact ⟨_, rfl, q qo us' os H1 s1 hq o1 hA hO this⟩
  have hlt' : os.length < ps.length := by
    have := of_decide_eq_true hlt
    rw [hA.1, hw.ps.1] at this
    omega
  refine ⟨fun σ H' => ∃ os' us' v3 v4 v5 v6, os.length < os'.length ∧ σ = [some (.ref a), some (.ref qo), some (.ref d), v3, v4, v5, v6] ∧ Same H H' ∧ H' qo = some (.lst us') ∧ H' d = some (.dK (doneK os')) ∧ All2 (PartAt K G) us' os' ∧ Ord ps os',
    fun σ H' ⟨os', us', v3, v4, v5, v6, h1, h2, h3⟩ => ⟨ps.length - os'.length, by omega, os', us', v3, v4, v5, v6, rfl, h2, h3⟩, ?_⟩
  -- one round
  refine ⟨_, rfl, a, _, dx, _, _, rfl, s1 _ _ (sg _ _ hw.ob), T.c_Works, T.n_Works_parts, rfl, l, rfl, ⟨_, SqL.of (s1 _ _ (sg _ _ hw.ls))⟩, ?_⟩
  let Pv : Nat → L2.St → Hp → Prop := fun i σ H' => ∃ os' us' b v4 v5 v6, σ = [some (.ref a), some (.ref qo), some (.ref d), some (.bl b), v4, v5, v6] ∧ Same H H' ∧ H' qo = some (.lst us') ∧ H' d = some (.dK (doneK os')) ∧ All2 (PartAt K G) us' os' ∧ Ord ps os' ∧
      (b = true → os.length < os'.length) ∧ (b = false → os' = os ∧ ∀ p ∈ ps.take i, p.name ∈ os.map Pd.name ∨ ∃ f ∈ p.feeds, f.2 = 0 ∧ f.1 ∉ os.map Pd.name)
  refine for_list (K := K) (a := l) (xs := us) Pv
    ⟨os, us', false, v4, v5, v6, rfl, s1, o1, d1, hA, hO, (fun z => by cases z), fun _ => ⟨rfl, fun p h => by rw [List.take_zero] at h; cases h⟩⟩ (fun i σ H' _ h => by obtain ⟨_, _, _, _, _, _, _, s, _⟩ := h; exact SqL.of (s _ _ (sg _ _ hw.ls))) ?_ ?_
  rotate_left
  · -- found?
    rintro σ H2 ⟨os', us2, b, v4, v5, v6, rfl, s2, o2, d2, hA2, hO2, hb1, hb2⟩
    cases b with
    | true => exact ⟨_, rfl, true, rfl, iteF ⟨os', us2, _, _, _, _, hb1 rfl, rfl, s2, o2, d2, hA2, hO2⟩⟩
    | false =>
      exfalso
      obtain ⟨_, hno⟩ := hb2 rfl
      obtain ⟨p, hp, h1, h2⟩ := some_ready hf hO hlt'
      rw [hw.ps.1, List.take_length] at hno
      rcases hno p hp with h | ⟨f, hf1, h0, hf2⟩
      · exact h1 h
      · exact hf2 (h2 f hf1 h0)
  rintro i x σ H2 hi ⟨os', us2, b, v4, v5, v6, rfl, s2, o2, d2, hA2, hO2, hb1, hb2⟩
  obtain ⟨p, hpi, pa, dp, k, fl, ws, rfl, hp⟩ := hw.ps.get hi
  have hpm : p ∈ ps := List.mem_of_getElem? hpi
  have hpob : ∀ {H'}, Same H H' → H' pa = _ := fun s => s _ _ (sg _ _ hp.ob)
  -- ready
  refine ⟨_, rfl, pa, _, dp, _, _, rfl, hpob s2, T.c_Part, T.n_Part_feeds, rfl, fl, rfl, ⟨_, SqL.of (s2 _ _ (sg _ _ hp.ls))⟩, fun D hD => ?_⟩
  have hDH : H D = none := s2.free hD
  refine lc_list (K := K) (a := fl) (xs := ws) (fun j H' => ∃ acc, Same H2 H' ∧ H' D = some (.lst acc) ∧ All2 (FeedAt G) acc ((p.feeds.take j).filter (notDone os')))
    ⟨[], Same.new hD, upd_same, All2.nil⟩ (fun j H' _ h => by obtain ⟨_, s, _⟩ := h; exact SqL.of (s _ _ (s2 _ _ (sg _ _ hp.ls)))) ?_ ?_
  · rintro j y H3 hj ⟨acc, s3, e3, hAc⟩
    obtain ⟨f, hfj, t, rfl, ht⟩ := hp.fs.get hj
    have ht3 := s3 _ _ (s2 _ _ (sg _ _ ht))
    refine ⟨rfl, ?_⟩
    refine ⟨_, rfl, t, _, _, _, rfl, rfl, SqT.of ht3, at1 _ _ _, rfl, _, rfl, ?_⟩
    have put : notDone os' f = true → ∃ acc', H3 D = some (.lst acc') ∧ acc'.length < sizeLine ∧ ∃ acc2, Same H2 (upd H3 D (.lst (acc' ++ [.ref t]))) ∧ (upd H3 D (.lst (acc' ++ [.ref t]))) D = some (.lst acc2) ∧ All2 (FeedAt G) acc2 ((p.feeds.take (j + 1)).filter (notDone os')) := fun hn => by
      refine ⟨acc, e3, ?_, acc ++ [.ref t], fun c o e => by rw [upd_ne (ne_of_none e hD)]; exact s3 c o e, upd_same, ?_⟩
      · rw [hAc.1]
        have h1 := List.length_filter_le (notDone os') (p.feeds.take j)
        rw [List.length_take] at h1
        have h2 := hf.ln p hpm
        have h3 := lines_le p.kd.c
        exact small1000 (by omega)
      · rw [take_one hfj, List.filter_append, List.filter_cons, hn]
        exact hAc.push ⟨t, rfl, ht⟩
    have skip : notDone os' f = false → ∃ acc2, Same H2 H3 ∧ H3 D = some (.lst acc2) ∧ All2 (FeedAt G) acc2 ((p.feeds.take (j + 1)).filter (notDone os')) := fun hn => by
      refine ⟨acc, s3, e3, ?_⟩
      rw [take_one hfj, List.filter_append, List.filter_cons, hn]
      simp only [Bool.false_eq_true, if_false, List.filter_nil, List.append_nil]
      exact hAc
    refine ite2 (fun h0 => ?_) (fun h0 => ?_)
    · have h0' : f.2 = 0 := V.int.inj (of_decide_eq_true h0)
      refine ⟨_, rfl, t, _, _, _, rfl, rfl, SqT.of ht3, at0 _ _, _, rfl, d, _, rfl, DGet.k (k := Sum.inr f.1) (s3 _ _ d2), _, rfl, ?_⟩
      rw [val_done]
      by_cases hm : f.1 ∈ os'.map Pd.name
      · rw [decide_eq_true hm]
        exact iteF (skip (by unfold notDone; rw [decide_eq_true hm]; simp))
      · rw [decide_eq_false hm]
        exact iteT ⟨_, rfl, put (by unfold notDone; rw [decide_eq_false hm, decide_eq_true h0']; rfl)⟩
    · exact iteF (skip (by unfold notDone; rw [decide_eq_false (fun z => h0 (decide_eq_true (by rw [z])))]; rfl))
  rintro H3 ⟨acc, s3, e3, hAc⟩
  rw [hp.fs.1, List.take_length] at hAc
  have s03 := s2.trans s3
  -- if ready == [] and part.called not in done
  have eem : acc.isEmpty = (p.feeds.filter (notDone os')).isEmpty := by
    have := hAc.1
    cases acc <;> cases e : p.feeds.filter (notDone os') <;> rw [e] at this <;> first | rfl | simp at this
  refine ⟨_, rfl, Nat.zero_le _, fun z hz => ?_⟩
  have s3z : Same H3 (upd H3 z (.lst [])) := Same.new hz
  refine ⟨D, z, acc, rfl, rfl, SqL.of (s3z _ _ e3), SqL.of upd_same, _, rfl, ?_⟩
  rw [eem]
  have s04 := s03.trans s3z
  have o4 := s3z _ _ (s3 _ _ o2)
  have d4 := s3z _ _ (s3 _ _ d2)
  revert s04 o4 d4
  generalize upd H3 z (HO.lst []) = H4
  intro s04 o4 d4
  have stay : ∀ v6, (∃ f ∈ p.feeds, f.2 = 0 ∧ f.1 ∉ os'.map Pd.name) ∨ p.name ∈ os'.map Pd.name → Pv (i + 1) [some (.ref a), some (.ref qo), some (.ref d), some (.bl b), some (.ref pa), some (.ref D), v6] H4 := fun v6 hst => by
    refine ⟨os', us2, b, _, _, v6, rfl, s04, o4, d4, hA2, hO2, hb1, fun hb => ?_⟩
    obtain ⟨e, hno⟩ := hb2 hb
    refine ⟨e, fun r hr' => ?_⟩
    rw [take_one hpi] at hr'
    rcases List.mem_append.mp hr' with h | h
    · exact hno r h
    · rw [List.mem_singleton.mp h, ← e]
      exact hst.symm
  cases hem : (p.feeds.filter (notDone os')).isEmpty with
  | false =>
    refine iteF ?_
    have : ∃ f ∈ p.feeds, f.2 = 0 ∧ f.1 ∉ os'.map Pd.name := by
      cases e : p.feeds.filter (notDone os') with
      | nil => rw [e] at hem; cases hem
      | cons f r =>
        have hm : f ∈ p.feeds.filter (notDone os') := by rw [e]; exact List.mem_cons_self ..
        obtain ⟨h1, h2⟩ := List.mem_filter.mp hm
        unfold notDone at h2
        simp only [Bool.and_eq_true, decide_eq_true_eq, Bool.not_eq_true', decide_eq_false_iff_not] at h2
        exact ⟨f, h1, h2⟩
    exact stay _ (.inl this)
  | true =>
    refine iteT ?_
    have hnone : ∀ f ∈ p.feeds, f.2 = 0 → f.1 ∈ os'.map Pd.name := fun f hf1 h0 => by
      refine Classical.byContradiction fun hn => ?_
      have hm : f ∈ p.feeds.filter (notDone os') := List.mem_filter.mpr ⟨hf1, by unfold notDone; rw [decide_eq_true h0, decide_eq_false hn]; rfl⟩
      rw [List.isEmpty_iff.mp hem] at hm
      cases hm
    refine ⟨_, rfl, pa, _, dp, _, _, rfl, hpob s04, T.c_Part, T.n_Part_called, rfl, _, rfl, d, _, rfl, DGet.k (k := Sum.inr p.name) d4, _, rfl, ?_⟩
    rw [val_done]
    by_cases hm : p.name ∈ os'.map Pd.name
    · rw [decide_eq_true hm]
      exact iteF (stay _ (.inr hm))
    · rw [decide_eq_false hm]
      refine iteT ?_
      have hol : os'.length ≤ 60 := by
        have := nodup_len hO2.nd (ys := ps.map Pd.name) fun x hx => by
          obtain ⟨p, hp, rfl⟩ := List.mem_map.mp hx
          exact List.mem_map.mpr ⟨p, hO2.sub p hp, rfl⟩
        rw [List.length_map, List.length_map] at this
        omega
      have hdl : (doneK os').length < sizeLine := by
        unfold doneK
        rw [List.length_map]
        exact small1000 (by omega)
      refine ⟨_, rfl, _, rfl, pa, _, dp, _, _, rfl, hpob s04, T.c_Part, T.n_Part_called, rfl, d, _, rfl, DPut.k (k := Sum.inr p.name) d4 hdl, ?_⟩
      have ed : putK (doneK os') (Sum.inr p.name : Key) (V.bl true) = doneK (os' ++ [p]) := by
        rw [putK_new _ (val_done_none hm)]
        unfold doneK
        rw [List.map_append] <;> rfl
      rw [ed]
      refine ⟨_, rfl, .inl ⟨rfl, _, SqL.of (by rw [upd_ne hqd]; exact o4)⟩, _, rfl, qo, us2, _, rfl, rfl, by rw [upd_ne hqd]; exact o4, by rw [hA2.1]; exact small1000 (by omega), ?_⟩
      refine ⟨os' ++ [p], us2 ++ [.ref pa], true, some (.ref pa), some (.ref D), v6, rfl, fun c o e => ?_, upd_same, ?_, ?_, ?_, fun _ => ?_, fun z => by cases z⟩
      · rw [upd_ne (ne_of_none e hq), upd_ne (ne_of_none e hdH)]
        exact s04 c o e
      · rw [upd_ne hqd.symm, upd_same]
      · exact hA2.push ⟨pa, dp, k, fl, ws, rfl, hp⟩
      · refine ⟨?_, fun r hr' => ?_, hO2.topo.push hnone⟩
        · rw [List.map_append]
          exact List.nodup_append.mpr ⟨hO2.nd, by simp, fun x hx y hy => by
            rw [List.map_cons, List.map_nil, List.mem_singleton] at hy
            rw [hy]
            exact fun e => hm (e ▸ hx)⟩
        · rcases List.mem_append.mp hr' with h | h
          · exact hO2.sub r h
          · rw [List.mem_singleton.mp h]
            exact hpm
      · rw [List.length_append, List.length_singleton]
        cases b with
        | true => have := hb1 rfl; omega
        | false => have := (hb2 rfl).1; rw [this]; omega
end
end SW


/-! ### a works read from its text -/
namespace SW
open PySem PySem.Spec PyProof.Rows L2 He TL
/-- a dict by names -/
def dictOf (f : Pd → V) (ps : List Pd) : List (Key × V) := ps.map fun p => ((Sum.inr p.name : Key), f p)
theorem val_dict_none {f : Pd → V} {ps : List Pd} {n : Str} (h : n ∉ ps.map Pd.name) : valV (dictOf f ps) (Sum.inr n : Key) = none := by
  unfold valV dictOf
  rw [Option.map_eq_none_iff, List.find?_eq_none]
  intro x hx e
  obtain ⟨p, hp, rfl⟩ := List.mem_map.mp hx
  exact h (List.mem_map.mpr ⟨p, hp, Sum.inr.inj (of_decide_eq_true e)⟩)
theorem val_dict {f : Pd → V} : ∀ {ps : List Pd} {p : Pd}, (ps.map Pd.name).Nodup → p ∈ ps → valV (dictOf f ps) (Sum.inr p.name : Key) = some (f p)
  | r :: ps, p, hn, hp => by
    rw [List.map_cons, List.nodup_cons] at hn
    by_cases e : r.name = p.name
    · rcases List.mem_cons.mp hp with h | h
      · subst h
        exact valV_pos (p := ((Sum.inr p.name : Key), f p)) rfl
      · exact absurd (by rw [e]; exact List.mem_map.mpr ⟨p, h, rfl⟩) hn.1
    · have hp' : p ∈ ps := by
        rcases List.mem_cons.mp hp with h | h
        · exact absurd (by rw [h]) e
        · exact h
      have h := val_dict (f := f) hn.2 hp'
      unfold dictOf at h ⊢
      rw [List.map_cons, valV_neg (fun z => e (Sum.inr.inj z))]
      exact h
theorem dict_push (f : Pd → V) (ps : List Pd) (p : Pd) (h : p.name ∉ ps.map Pd.name) : putK (dictOf f ps) (Sum.inr p.name : Key) (f p) = dictOf f (ps ++ [p]) := by
  rw [putK_new _ (val_dict_none h)]
  unfold dictOf
  rw [List.map_append] <;> rfl
def fullWord (z : Str) : Bool := !decide (tl z = [])
def wordsOf (row : Str) : List Str := (Txt.split row " ").filter fullWord
def rowsOf (text : Str) : List Str := Txt.split text "\n"
def partsOf (rows : List Str) : List Pd := rows.filterMap fun row => partOf (wordsOf row)
structure Reads (text : Str) (ps : List Pd) : Prop where
  len : text.length ≤ 100000
  many : (rowsOf text).length ≤ 1000
  small : ∀ row ∈ rowsOf text, row.length ≤ 100000 ∧ (Txt.split row " ").length ≤ 1000 ∧ ∀ z ∈ Txt.split row " ", z.length ≤ 100000
  good : ∀ row ∈ rowsOf text, wordsOf row = [] ∨ ∃ p, partOf (wordsOf row) = some p
  eq : partsOf (rowsOf text) = ps
  wf : Wf ps
  ne : ps ≠ []
  fed : ∀ p ∈ ps, ∀ f ∈ p.feeds, ∃ r ∈ ps, r.name = f.1 ∧ r.kd.c ≠ .snk
def spRead (K : PySem.W.Frag) : Sp := fun vs H Q _ => ∃ (G : Hp) (text : Str) (ps : List Pd), vs = [.str text] ∧ Same G H ∧ Reads text ps ∧
  ∀ a G' H', Grow G H G' H' → H a = none → WorksAt K G' a ps → Q (.ref a) H'
theorem partsOf_take {rows : List Str} {i : Nat} {row : Str} (h : rows[i]? = some row) : partsOf (rows.take (i + 1)) = partsOf (rows.take i) ++ (match partOf (wordsOf row) with | some p => [p] | none => []) := by
  unfold partsOf
  rw [take_one h, List.filterMap_append]
  cases e : partOf (wordsOf row) <;> simp [e]
theorem partsOf_pre (rows : List Str) (i : Nat) : ∃ r, partsOf rows = partsOf (rows.take i) ++ r := by
  refine ⟨partsOf (rows.drop i), ?_⟩
  unfold partsOf
  rw [← List.filterMap_append, List.take_append_drop]
section
variable {P : Program} {w : World} {K : PySem.W.Frag} {mg : Str → Option Value} {base : Heap}
theorem ok_read (T : Txt K mg) : Ok P w K mg base 5 (ga K "read") ["text"] (spRead K) := by
  have G_part_of := ok_part_of (P := P) (w := w) (base := base) T
  have G_kind_word := ok_kind_word (P := P) (w := w) (base := base) T
  have G_Works_init := ok_Works_init (P := P) (w := w) (base := base) T
  have G_settled := ok_settled (P := P) (w := w) (base := base) T
  obtain ⟨tM, hM⟩ := T.g_MOST
  refine mkOk T.F_read sc_read (fun _ _ _ _ _ _ us hl => match us, hl with | [_], _ => rfl) (by rintro vs H Q E ⟨_, _, _, rfl, _⟩; rfl) (fun cdv A outer s H vs Q E hr h => ?_)
  obtain ⟨G, text, ps, rfl, sg, hR, q⟩ := h
  have hu := hu_of hr
  refine ⟨_, (pss_cons (ps_set (i := 1) sc_read.nd rfl (by first | exact Or.inl rfl | exact Or.inr rfl) (pe_lst pa_nil))
      (pss_cons (ps_set (i := 2) sc_read.nd rfl (by first | exact Or.inl rfl | exact Or.inr rfl) (pe_lst pa_nil))
      (pss_cons (ps_set (i := 3) sc_read.nd rfl (by first | exact Or.inl rfl | exact Or.inr rfl) pe_dnewK)
      (pss_cons (ps_for PassesOwn.never rfl (pi_enum (by rfl) T.f_enumerate (pa_cons (pe_split (pv 0) pe_str) pa_nil)) (pg_tup rfl (pgs_cons (pg_name (i := 4) sc_read.nd rfl (by first | exact Or.inl rfl | exact Or.inr rfl)) (pgs_cons (pg_name (i := 5) sc_read.nd rfl (by first | exact Or.inl rfl | exact Or.inr rfl)) pgs_nil)))
      (pss_cons (ps_setLc (i := 6) (own := [("word", 7)]) rfl sc_read.nd rfl rfl (sw_true rfl rfl rfl (by decide +kernel)) (piL (K := K) (pe_split (pv 5) pe_str)) (blkOk_by (own := [("word", 7)]) (N := ["text", "parts", "rows", "kinds", "place", "row", "words", "word", "part", "feed", "works"]) (sc := defScope s_read) (by decide +kernel)) (fun _ _ _ _ _ => (pg_name (i := 7) sc_read.nd rfl (by first | exact Or.inl rfl | exact Or.inr rfl))) (fun _ _ _ _ _ => pts_one (pt_cmpR op_ne (pv 7) pe_str (nomark _))) (fun _ _ _ _ _ => (pv 7)))
      (pss_cons (ps_if (pt_cmpR (eqEmpK (K := K) (hu0_of hr)) (pv 6) (pe_lst pa_nil) (nomark _)) (pss_one ps_continue) pss_nil)
      (pss_cons (ps_set (i := 8) sc_read.nd rfl (by first | exact Or.inl rfl | exact Or.inr rfl) (pe_callO G_part_of (hr.mono (by decide)) T.g_part_of (pa_cons (pv 6) pa_nil)))
      (pss_cons (ps_if (PW.pt (pw_or (pt_cmpR op_isN (pv 8) pe_non (nomark _)) (pw_or1 (pt_cmp (pc_din hu (pe_fldK (K := K) (pv 8) rfl) (pv 3)))))) (pss_one ps_never) pss_nil)
      (pss_cons (ps_if (pt_cmpR op_eq (pe_callB (lenQ (K := K)) (by rfl) T.f_len (by decide +kernel) (pa_cons (pv 1) pa_nil)) (pe_glob (v := .int 60) rfl hM ⟨_, rfl⟩) (nomark _)) (pss_one ps_never) pss_nil)
      (pss_cons (ps_expr (pe_bm PySem.F.plainAttrs_list PySem.F.slot_list_append PySem.F.type_list_append mt_append (pv 1) (pa_cons (pv 8) pa_nil)))
      (pss_cons (ps_expr (pe_bm PySem.F.plainAttrs_list PySem.F.slot_list_append PySem.F.type_list_append mt_append (pv 2) (pa_cons (pv 4) pa_nil)))
      (pss_one (ps_dput hu (pv 3) (pe_fldK (K := K) (pv 8) rfl) (pe_ex fun c => (G_kind_word c).use fun fd F b => pe_meth0 (pe_fldK (K := K) (pv 8) rfl) (T.ck c) (T.mk_word_ c) F (hr.mono (by decide)) b .nil pass0) rfl))))))))))
      (pss_cons (ps_if (pt_cmpR (eqEmpK (K := K) (hu0_of hr)) (pv 1) (pe_lst pa_nil) (nomark _)) (pss_one ps_never) pss_nil)
      (pss_cons (ps_for PassesOwn.never rfl (pi_zip (by rfl) T.f_zip (pa_cons (pv 1) (pa_cons (pv 2) pa_nil))) (pg_tup rfl (pgs_cons (pg_name (i := 8) sc_read.nd rfl (by first | exact Or.inl rfl | exact Or.inr rfl)) (pgs_cons (pg_name (i := 4) sc_read.nd rfl (by first | exact Or.inl rfl | exact Or.inr rfl)) pgs_nil)))
      (pss_one (ps_for PassesOwn.never rfl (piL (K := K) (pe_fldK (K := K) (pv 8) rfl)) (pg_name (i := 9) sc_read.nd rfl (by first | exact Or.inl rfl | exact Or.inr rfl))
      (pss_one (ps_if (pt_cmpR op_eq (pe_dget2 hu (pv 3) (pe_ix (ixT (K := K)) (pv 9) pe_int (fun _ _ => rfl)) pe_str ⟨rfl, rfl, rfl, rfl⟩) pe_str (nomark _)) (pss_one ps_never) pss_nil)))))
      (pss_cons (ps_set (i := 10) sc_read.nd rfl (by first | exact Or.inl rfl | exact Or.inr rfl) (pe_makeO T.mk_Works G_Works_init (hr.mono (by decide)) T.g_Works (pa_cons (pv 1) pa_nil)))
      (pss_cons (ps_expr (pe_callO G_settled (hr.mono (by decide)) T.g_settled (pa_cons (pv 10) pa_nil)))
      (pss_one (ps_ret (pv 10))))))))))), ?_⟩
  refine ⟨Nat.zero_le _, fun pa hpa => ⟨Nat.zero_le _, fun ra hra => fun da hda => ?_⟩⟩
  have hrp : ra ≠ pa := fun z => by rw [z, upd_same] at hra; cases hra
  have hdr : da ≠ ra := fun z => by rw [z, upd_same] at hda; cases hda
  have hdp : da ≠ pa := fun z => by rw [z, upd_ne hrp.symm, upd_same] at hda; cases hda
  have hraH : H ra = none := by rw [upd_ne hrp] at hra; exact hra
  have hdaH : H da = none := by rw [upd_ne hdr, upd_ne hdp] at hda; exact hda
  have g1 := (((Grow.refl sg).temp (o := .lst []) hpa).temp (o := .lst []) hra).temp (o := .dK []) hda
  have e1 : (upd (upd (upd H pa (.lst [])) ra (.lst [])) da (.dK [])) pa = some (.lst []) := by rw [upd_ne hdp.symm, upd_ne hrp.symm, upd_same]
  have e2 : (upd (upd (upd H pa (.lst [])) ra (.lst [])) da (.dK [])) ra = some (.lst []) := by rw [upd_ne hdr.symm, upd_same]
  have e3 : (upd (upd (upd H pa (.lst [])) ra (.lst [])) da (.dK [])) da = some (.dK []) := upd_same
  revert g1 e1 e2 e3
  generalize upd (upd (upd H pa (HO.lst [])) ra (HO.lst [])) da (HO.dK []) = H1
  intro g1 e1 e2 e3
  refine ⟨_, rfl, ⟨_, rfl⟩, _, _, rfl, rfl, rfl, Nat.le_trans (Nat.add_le_add_right hR.len 2) (by decide), fun la hla => ?_⟩
  have hlaH : H la = none := g1.hh.free hla
  refine ⟨la, _, rfl, SqL.of upd_same, ?_⟩
  have hwf := hR.wf
  have hpaH := hpa
  have hne : ∀ {H' : Hp}, Same H1 H' → True := fun _ => trivial
  have hlp : la ≠ pa := fun z => by rw [z, e1] at hla; cases hla
  have hlr : la ≠ ra := fun z => by rw [z, e2] at hla; cases hla
  have hld : la ≠ da := fun z => by rw [z, e3] at hla; cases hla
  have hGp : G pa = none := sg.free hpa
  have hGr : G ra = none := sg.free hraH
  have hGd : G da = none := sg.free hdaH
  refine for_it (walk_enum (K := K) (a := la) (xs := (Txt.split text "\n").map V.str)) (fun i σ H' => ∃ v4 v5 v6 v7 v8 v9 v10 G' us ns, σ = [some (.str text), some (.ref pa), some (.ref ra), some (.ref da), v4, v5, v6, v7, v8, v9, v10] ∧ Grow G H G' H' ∧ G' pa = none ∧ G' ra = none ∧ G' da = none ∧
      H' pa = some (.lst us) ∧ H' ra = some (.lst ns) ∧ us.length = ns.length ∧ H' da = some (.dK (dictOf (fun p => V.str p.kd.word) (partsOf ((rowsOf text).take i)))) ∧ H' la = some (.lst ((Txt.split text "\n").map V.str)) ∧ All2 (PartAt K G') us (partsOf ((rowsOf text).take i)))
    ⟨none, none, none, none, none, none, none, G, [], [], rfl, g1.temp hla, hGp, hGr, hGd, by rw [upd_ne hlp.symm]; exact e1, by rw [upd_ne hlr.symm]; exact e2, rfl, by rw [upd_ne hld.symm]; exact e3, upd_same, All2.nil⟩
    (fun i σ H' _ h => by obtain ⟨_, _, _, _, _, _, _, _, _, _, _, _, _, _, _, _, _, _, _, e, _⟩ := h; exact SqL.of e) ?_ ?_
  · rintro i x σ H2 H3 hi ⟨v4, v5, v6, v7, v8, v9, v10, G2, us, ns, rfl, g2, p2, r2, d2, e1, e2, hl, e3, e4, hA⟩ ⟨t, y, z, rfl, ht, rfl, hy, hz⟩
    cases hy
    have hz : ((Txt.split text "\n").map V.str)[i]? = some z := hz
    rw [List.getElem?_map] at hz
    obtain ⟨row, hrow, rfl⟩ : ∃ row, (rowsOf text)[i]? = some row ∧ V.str row = z := by
      cases e : (Txt.split text "\n")[i]? with
      | none => rw [e] at hz; cases hz
      | some row => rw [e] at hz; cases hz; exact ⟨row, e, rfl⟩
    have hmem : row ∈ rowsOf text := List.mem_of_getElem? hrow
    obtain ⟨sm1, sm2, sm3⟩ := hR.small row hmem
    have htH : H t = none := g2.hh.free ht
    have g3 := g2.temp (o := .tup [.int (i : Nat), .str row]) ht
    have e1' : upd H2 t (.tup [.int (i : Nat), .str row]) pa = some (.lst us) := by rw [upd_ne (ne_of_none e1 ht)]; exact e1
    have e2' : upd H2 t (.tup [.int (i : Nat), .str row]) ra = some (.lst ns) := by rw [upd_ne (ne_of_none e2 ht)]; exact e2
    have e3' := (Same.new (o := .tup [.int (i : Nat), .str row]) ht) _ _ e3
    have e4' := (Same.new (o := .tup [.int (i : Nat), .str row]) ht) _ _ e4
    refine ⟨t, _, rfl, SqT.of upd_same, rfl, _, _, rfl, _, _, rfl, rfl, ?_⟩
    clear e1 e2 e3 e4 g2
    revert g3 e1' e2' e3' e4'
    generalize upd H2 t (HO.tup [V.int (i : Nat), V.str row]) = H3
    intro g3 e1 e2 e3 e4
    -- the row's words
    refine ⟨_, rfl, ⟨_, rfl⟩, _, _, rfl, rfl, rfl, Nat.le_trans (Nat.add_le_add_right sm1 2) (by decide), fun sa hsa => ?_⟩
    have g4 := g3.temp (o := .lst ((Txt.split row " ").map V.str)) hsa
    refine ⟨sa, rfl, ⟨_, SqL.of upd_same⟩, fun wa hwa => ?_⟩
    refine lc_list (K := K) (a := sa) (xs := (Txt.split row " ").map V.str) (fun j H' => Same (upd H3 sa (.lst ((Txt.split row " ").map V.str))) H' ∧ H' wa = some (.lst ((((Txt.split row " ").take j).filter fullWord).map V.str)))
      ⟨Same.new hwa, upd_same⟩ (fun j H' _ h => SqL.of (h.1 _ _ upd_same)) ?_ ?_
    · rintro j x H5 hj ⟨s5, f5⟩
      have hj : ((Txt.split row " ").map V.str)[j]? = some x := hj
      rw [List.getElem?_map] at hj
      obtain ⟨z, hz, rfl⟩ : ∃ z, (Txt.split row " ")[j]? = some z ∧ V.str z = x := by
        cases e : (Txt.split row " ")[j]? with
        | none => rw [e] at hj; cases hj
        | some z => rw [e] at hj; cases hj; exact ⟨z, rfl, rfl⟩
      refine ⟨rfl, ?_⟩
      refine ⟨_, rfl, rfl, _, rfl, ?_⟩
      rw [dstr, tl_emp]
      have eN : (((Txt.split row " ").take (j + 1)).filter fullWord) = (((Txt.split row " ").take j).filter fullWord) ++ (if fullWord z = true then [z] else []) := by
        rw [take_one hz, List.filter_append, List.filter_cons, List.filter_nil]
      refine ite2 (fun h0 => ?_) (fun h0 => ?_)
      · refine ⟨_, rfl, _, f5, ?_, fun c o e => ?_, ?_⟩
        · rw [List.length_map]
          have h1 := List.length_filter_le fullWord ((Txt.split row " ").take j)
          rw [List.length_take] at h1
          exact small1000 (by omega)
        · rw [upd_ne (ne_of_none e hwa)]
          exact s5 c o e
        · rw [upd_same, eN, if_pos (show fullWord z = true from h0), List.map_append] <;> rfl
      · refine ⟨s5, ?_⟩
        rw [f5, eN, if_neg (show ¬ fullWord z = true from h0), List.append_nil]
    · rintro H5 ⟨s5, f5⟩
      rw [List.length_map, List.take_length] at f5
      have f5 : H5 wa = some (.lst ((wordsOf row).map V.str)) := f5
      have hsaH : H sa = none := g3.hh.free hsa
      have hwa3 : H3 wa = none := (Same.new hsa).free hwa
      have hwaH : H wa = none := g3.hh.free hwa3
      have s35 : Same H3 H5 := (Same.new hsa).trans s5
      have g5 : Grow G H G2 H5 := g3.same s35
      have e1 := s35 _ _ e1
      have e2 := s35 _ _ e2
      have e3 := s35 _ _ e3
      have e4 := s35 _ _ e4
      refine ⟨_, rfl, Nat.zero_le _, fun ea hea => ?_⟩
      refine ⟨wa, ea, _, rfl, rfl, SqL.of (Same.new hea _ _ f5), SqL.of upd_same, _, rfl, ?_⟩
      have heaH : H ea = none := g5.hh.free hea
      have g6 : Grow G H G2 (upd H5 ea (.lst [])) := g5.temp hea
      have e1 := Same.new (o := .lst []) hea _ _ e1
      have e2 := Same.new (o := .lst []) hea _ _ e2
      have e3 := Same.new (o := .lst []) hea _ _ e3
      have e4 := Same.new (o := .lst []) hea _ _ e4
      have f6 := Same.new (o := .lst []) hea _ _ f5
      revert g6 e1 e2 e3 e4 f6
      generalize upd H5 ea (HO.lst []) = H6
      intro g6 e1 e2 e3 e4 f6
      cases hw : wordsOf row with
      | nil =>
        refine iteT ?_
        refine ⟨_, _, _, _, _, _, _, G2, us, ns, rfl, g6, p2, r2, d2, e1, e2, hl, ?_, e4, ?_⟩
        · rw [partsOf_take hrow, hw]
          show _ = some (HO.dK (dictOf _ (_ ++ [])))
          rw [List.append_nil]
          exact e3
        · rw [partsOf_take hrow, hw]
          show All2 _ _ (_ ++ [])
          rw [List.append_nil]
          exact hA
      | cons w0 wr =>
        refine iteF ?_
        obtain ⟨p, hp⟩ : ∃ p, partOf (wordsOf row) = some p := (hR.good row hmem).resolve_left (by rw [hw]; simp)
        have hnext : partsOf ((rowsOf text).take (i + 1)) = partsOf ((rowsOf text).take i) ++ [p] := by
          rw [partsOf_take hrow, hp]
        obtain ⟨rest, hrest⟩ := partsOf_pre (rowsOf text) (i + 1)
        rw [hR.eq, hnext] at hrest
        have hpm : p ∈ ps := by rw [hrest]; simp
        have hnew : p.name ∉ (partsOf ((rowsOf text).take i)).map Pd.name := by
          have := hwf.nd
          rw [hrest, List.map_append, List.map_append, List.append_assoc] at this
          intro hin
          exact (List.nodup_append.mp this).2.2 _ hin p.name (by simp) rfl
        have hfew : (partsOf ((rowsOf text).take i)).length < 60 := by
          have h1 := hwf.few
          rw [hrest, List.length_append, List.length_append, List.length_singleton] at h1
          omega
        have hwl : (wordsOf row).length ≤ 1000 := Nat.le_trans (List.length_filter_le _ _) sm2
        refine ⟨_, rfl, G2, wa, wordsOf row, rfl, g6.gh, SqL.of f6, Nat.le_trans hwl (by decide), fun z hz => sm3 z (List.mem_filter.mp hz).1, fun v G7 H7 g7 hv => ?_⟩
        rw [hp] at hv
        obtain ⟨a, dx, k, fl, fvs, rfl, hpi⟩ := hv
        have g8 := g6.trans g7
        have p3 := g7.sep _ _ e1 p2
        have r3 := g7.sep _ _ e2 r2
        have d3 := g7.sep _ _ e3 d2
        have e1 := g7.hh _ _ e1
        have e2 := g7.hh _ _ e2
        have e3 := g7.hh _ _ e3
        have e4 := g7.hh _ _ e4
        have hA0 := hA.1
        have hA := (hA.mono (fun x y z => PartAt.mono g7.gg z)).push ⟨a, dx, k, fl, fvs, rfl, hpi⟩
        rw [← hnext] at hA
        have hob := g7.gh _ _ hpi.ob
        refine ⟨_, rfl, rfl, false, congrArg V.bl (decide_eq_false (fun z => by cases z)), iteF ?_⟩
        refine ⟨_, rfl, a, _, dx, _, _, rfl, hob, T.c_Part, T.n_Part_called, rfl, _, rfl, da, _, rfl, DGet.k (k := Sum.inr p.name) e3, ?_⟩
        rw [val_dict_none hnew]
        refine ⟨false, rfl, iteF ?_⟩
        have hul : us.length < 60 := by rw [hA0]; exact hfew
        refine ⟨_, rfl, pa, _, rfl, .inl (SqL.of e1), rfl, false, congrArg V.bl (decide_eq_false (fun z => by have := V.int.inj z; omega)), iteF ?_⟩
        refine ⟨_, rfl, .inl ⟨rfl, _, SqL.of e1⟩, _, rfl, pa, us, _, rfl, rfl, e1, small1000 (by omega), ?_⟩
        have e2' : upd H7 pa (.lst (us ++ [.ref a])) ra = some (.lst ns) := by rw [upd_ne hrp]; exact e2
        refine ⟨_, rfl, .inl ⟨rfl, _, SqL.of e2'⟩, _, rfl, ra, ns, _, rfl, rfl, e2', small1000 (by omega), ?_⟩
        have g9 := (g8.mut (o := .lst (us ++ [.ref a])) hpaH p3).mut (o := .lst (ns ++ [.int (i : Nat)])) hraH r3
        have k1 : upd (upd H7 pa (.lst (us ++ [.ref a]))) ra (.lst (ns ++ [.int (i : Nat)])) pa = some (.lst (us ++ [.ref a])) := by rw [upd_ne hrp.symm, upd_same]
        have k2 : upd (upd H7 pa (.lst (us ++ [.ref a]))) ra (.lst (ns ++ [.int (i : Nat)])) ra = some (.lst (ns ++ [.int (i : Nat)])) := upd_same
        have k3 : upd (upd H7 pa (.lst (us ++ [.ref a]))) ra (.lst (ns ++ [.int (i : Nat)])) da = some (.dK (dictOf (fun p => V.str p.kd.word) (partsOf ((rowsOf text).take i)))) := by rw [upd_ne hdr, upd_ne hdp]; exact e3
        have k4 : upd (upd H7 pa (.lst (us ++ [.ref a]))) ra (.lst (ns ++ [.int (i : Nat)])) la = some (.lst ((Txt.split text "\n").map V.str)) := by rw [upd_ne hlr, upd_ne hlp]; exact e4
        revert g9 k1 k2 k3 k4
        generalize upd (upd H7 pa (.lst (us ++ [.ref a]))) ra (.lst (ns ++ [.int (i : Nat)])) = H9
        intro g9 k1 k2 k3 k4
        have hob := g9.gh _ _ hpi.ob
        have ⟨dk, hk⟩ := hpi.kd.mono g9.gh
        refine ⟨p.kd.c, _, rfl, a, _, dx, _, _, rfl, hob, T.c_Part, T.n_Part_craft, rfl, k, dk, _, rfl, hk, flds_no _ (by decide +kernel), k, p.kd, rfl, ⟨dk, hk⟩, rfl, hpi.ok, ?_⟩
        have hdl : (dictOf (fun p => V.str p.kd.word) (partsOf ((rowsOf text).take i))).length < sizeLine := by
          unfold dictOf
          rw [List.length_map]
          exact small1000 (by omega)
        refine ⟨_, rfl, _, rfl, a, _, dx, _, _, rfl, hob, T.c_Part, T.n_Part_called, rfl, da, _, rfl, DPut.k (k := Sum.inr p.name) k3 hdl, ?_⟩
        rw [dict_push (fun p => V.str p.kd.word) _ _ hnew, ← hnext]
        refine ⟨_, _, _, _, _, _, _, G7, _, _, rfl, g9.mut hdaH d3, p3, r3, d3, by rw [upd_ne hdp.symm]; exact k1, by rw [upd_ne hdr.symm]; exact k2, ?_, upd_same, by rw [upd_ne hld]; exact k4, hA⟩
        rw [List.length_append, List.length_append, hl] <;> rfl
  · rintro σ H2 ⟨v4, v5, v6, v7, v8, v9, v10, G2, us, ns, rfl, g2, p2, r2, d2, e1, e2, hl, e3, e4, hA⟩
    have etake : partsOf ((rowsOf text).take ((Txt.split text "\n").map V.str).length) = ps := by
      rw [List.length_map]
      show partsOf ((rowsOf text).take (rowsOf text).length) = ps
      rw [List.take_length, hR.eq]
    rw [etake] at e3 hA
    clear e4
    refine ⟨_, rfl, Nat.zero_le _, fun ea hea => ?_⟩
    have g3 : Grow G H G2 (upd H2 ea (.lst [])) := g2.temp hea
    refine ⟨pa, ea, _, rfl, rfl, SqL.of (Same.new hea _ _ e1), SqL.of upd_same, false, ?_, iteF ?_⟩
    · cases hus : us with
      | nil =>
        have := hA.1
        rw [hus] at this
        exact absurd (List.eq_nil_of_length_eq_zero this.symm) hR.ne
      | cons u r => rfl
    have e1 := Same.new (o := .lst []) hea _ _ e1
    have e2 := Same.new (o := .lst []) hea _ _ e2
    have e3 := Same.new (o := .lst []) hea _ _ e3
    revert g3 e1 e2 e3
    generalize upd H2 ea (HO.lst []) = H3
    intro g3 e1 e2 e3
    clear g2
    refine ⟨_, rfl, _, rfl, pa, ra, us, ns, rfl, SqL.of e1, SqL.of e2, ?_⟩
    refine for_it (walk_zip (K := K) (a := pa) (b := ra) (xs := us) (ys := ns) (n := us.length) (by omega)) (fun i σ H' => ∃ v4 v5 v6 v7 v8 v9 v10, σ = [some (.str text), some (.ref pa), some (.ref ra), some (.ref da), v4, v5, v6, v7, v8, v9, v10] ∧ Same H3 H')
      ⟨_, _, _, _, _, _, _, rfl, Same.refl _⟩ (fun i σ H' _ h => by obtain ⟨_, _, _, _, _, _, _, _, s⟩ := h; exact ⟨SqL.of (s _ _ e1), SqL.of (s _ _ e2)⟩) ?_ ?_
    · rintro i x σ H4 H5 hi ⟨v4, v5, v6, v7, v8, v9, v10, rfl, s4⟩ ⟨t, y, z, rfl, ht, rfl, hy, hz⟩
      obtain ⟨p, hpi, a, dx, k, fl, fvs, rfl, hp⟩ := hA.get hy
      have hpm : p ∈ ps := List.mem_of_getElem? hpi
      refine ⟨t, _, rfl, SqT.of upd_same, rfl, _, _, rfl, _, _, rfl, rfl, ?_⟩
      have s5 : Same H3 (upd H4 t (.tup [.ref a, z])) := s4.trans (Same.new ht)
      revert s5
      generalize upd H4 t (HO.tup [.ref a, z]) = H5
      intro s5
      have hob := s5 _ _ (g3.gh _ _ hp.ob)
      refine ⟨_, rfl, a, _, dx, _, _, rfl, hob, T.c_Part, T.n_Part_feeds, rfl, fl, rfl, ⟨_, SqL.of (s5 _ _ (g3.gh _ _ hp.ls))⟩, ?_⟩
      refine for_list (K := K) (a := fl) (xs := fvs) (fun j σ H' => ∃ v5 v6 v7 v9 v10, σ = [some (.str text), some (.ref pa), some (.ref ra), some (.ref da), some z, v5, v6, v7, some (.ref a), v9, v10] ∧ Same H5 H')
        ⟨_, _, _, _, _, rfl, Same.refl _⟩ (fun i σ H' _ h => by obtain ⟨_, _, _, _, _, _, s⟩ := h; exact SqL.of (s _ _ (s5 _ _ (g3.gh _ _ hp.ls)))) ?_ ?_
      · rintro j y σ H6 hj ⟨v5, v6, v7, v9, v10, rfl, s6⟩
        obtain ⟨f, hfj, ft, rfl, hft⟩ := hp.fs.get hj
        have hfm : f ∈ p.feeds := List.mem_of_getElem? hfj
        have hft6 := s6 _ _ (s5 _ _ (g3.gh _ _ hft))
        have e36 := s6 _ _ (s5 _ _ e3)
        obtain ⟨r, hrm, hrn, hrc⟩ := hR.fed p hpm f hfm
        refine ⟨_, rfl, da, rfl, .inl ⟨_, .inl e36⟩, _, rfl, ft, _, _, _, rfl, rfl, SqT.of hft6, at0 _ _, _, DGet.k (k := Sum.inr f.1) e36, ?_⟩
        rw [← hrn, val_dict hwf.nd hrm]
        refine ⟨rfl, false, ?_, iteF ⟨_, _, _, _, _, rfl, s6⟩⟩
        have : r.kd.word ≠ "out" := fun z => hrc ((isEnd_word r.kd).2.mp z)
        exact congrArg V.bl (decide_eq_false (fun z => this (V.str.inj z)))
      · rintro σ H6 ⟨v5, v6, v7, v9, v10, rfl, s6⟩
        exact ⟨_, _, _, _, _, _, _, rfl, s5.trans s6⟩
    · rintro σ H4 ⟨v4, v5, v6, v7, v8, v9, v10, rfl, s4⟩
      have g4 := g3.same s4
      have e1 := s4 _ _ e1
      refine ⟨_, rfl, ?_⟩
      intro x dx nx mx ex
      refine ⟨x, dx, _, rfl, upd_same, ⟨rfl, ?_⟩⟩
      rw [upd_upd]
      have g5 := g4.make (C := ga K "Works") (fs := [("parts", .ref pa)]) nx mx
      have s45 : Same H4 (upd (upd H4 dx (.own x)) x (.ins (ga K "Works") dx [("parts", .ref pa)])) := fun b o e => by rw [upd_ne (ne_of_none e nx), upd_ne (ne_of_none e mx)]; exact e
      have e1 := s45 _ _ e1
      have x5 : (upd (upd H4 dx (.own x)) x (.ins (ga K "Works") dx [("parts", .ref pa)])) x = some (.ins (ga K "Works") dx [("parts", .ref pa)]) := upd_same
      have hpx : pa ≠ x := ne_of_none (s4 _ _ (by assumption)) nx
      revert g5 e1 x5
      show Grow _ _ _ (upd (upd H4 dx (HO.own x)) x (HO.ins (ga K "Works") dx [("parts", .ref pa)])) → _ → _ → _
      generalize upd (upd H4 dx (HO.own x)) x (HO.ins (ga K "Works") dx [("parts", .ref pa)]) = H5
      intro g5 e1 x5
      have hxH : H x = none := g4.hh.free nx
      have hxG : G2 x = none := g4.gh.free nx
      have g6 := (g5.keep hpaH p2 e1).keep hxH (by rw [upd_ne hpx.symm]; exact hxG) x5
      have w6 : WorksAt K (upd (upd G2 pa (.lst us)) x (.ins (ga K "Works") dx [("parts", .ref pa)])) x ps :=
        ⟨dx, pa, us, upd_same, by rw [upd_ne hpx, upd_same], hA.mono fun _ _ z => z.mono ((Same.new p2).trans (Same.new (by rw [upd_ne hpx.symm]; exact hxG)))⟩
      refine ⟨_, rfl, _, x, ps, rfl, g6.gh, w6, hwf, fun qo us' os H6 s6 _ _ _ _ _ => ?_⟩
      exact ⟨_, rfl, q x _ _ (g6.same s6) hxH w6⟩
end
end SW


/-! ### the text of a works -/
namespace SW
open PySem PySem.Spec PyProof.Rows L2 He TL
def feedText (f : Str × Int) : Str := if f.2 = 0 then f.1 else (f.1 ++ ("/" : Str)) ++ Str.ofString (toString f.2)
def rowWords (p : Pd) : List Str := [p.name, p.kd.word, Str.ofString (toString p.time)] ++ p.feeds.map feedText
def shownRow (p : Pd) : Str := Txt.join " " (rowWords p)
def shownText (ps : List Pd) : Str := Txt.join "\n" (ps.map shownRow)
def Tell (ps : List Pd) : Prop := ∀ p ∈ ps, (0 ≤ p.time ∧ p.time < 10000) ∧ ∀ f ∈ p.feeds, 0 ≤ f.2 ∧ f.2 < 10000
def spShown (K : PySem.W.Frag) : Sp := fun vs H Q _ => ∃ (G : Hp) (a : Addr) (ps : List Pd), vs = [.ref a] ∧ Same G H ∧ WorksAt K G a ps ∧ Wf ps ∧ Tell ps ∧
  ∀ H', Same H H' → Q (.str (shownText ps)) H'
theorem joinL_len (S : List Nat) : ∀ ps : List (List Nat), (joinL S ps).length ≤ (ps.map List.length).sum + ps.length * S.length
  | [] => Nat.zero_le _
  | [p] => by
    show p.length ≤ _
    simp
  | p :: q :: r => by
    have ih := joinL_len S (q :: r)
    have e : joinL S (p :: q :: r) = p ++ (S ++ joinL S (q :: r)) := rfl
    rw [e, List.length_append, List.length_append, List.map_cons, List.sum_cons, List.length_cons (a := p), Nat.add_mul]
    omega
theorem join_len (y : Str) (parts : List Str) : (Txt.join y parts).length ≤ (parts.map (·.length)).sum + parts.length * y.length := by
  rw [join_eq, len_tl, tl_join]
  have := joinL_len (tl y) (parts.map tl)
  rw [List.map_map, List.length_map, ← len_tl] at this
  have e : (List.length ∘ tl) = fun x : Str => x.length := funext fun x => (len_tl x).symm
  rw [e] at this
  exact this
theorem sum_le {α : Type} (f : α → Nat) (m : Nat) : ∀ l : List α, (∀ x ∈ l, f x ≤ m) → (l.map f).sum ≤ l.length * m
  | [], _ => by simp
  | x :: l, h => by
    have h1 := sum_le f m l fun y hy => h y (List.mem_cons_of_mem _ hy)
    have h2 := h x (List.mem_cons_self ..)
    rw [List.map_cons, List.sum_cons, List.length_cons, Nat.add_mul]
    omega
theorem word_len {k : Kd} (h : k.ok) : k.word.length ≤ 10 := by
  obtain ⟨c, n⟩ := k
  cases c
  · show ("in" : Str).length ≤ 10; decide +kernel
  · show ("out" : Str).length ≤ 10; decide +kernel
  · show ("and" : Str).length ≤ 10; decide +kernel
  · show ("or" : Str).length ≤ 10; decide +kernel
  · show ("odd" : Str).length ≤ 10; decide +kernel
  · show ("plus" : Str).length ≤ 10; decide +kernel
  · show ("pick" : Str).length ≤ 10; decide +kernel
  · have h1 : 1 ≤ n ∧ n ≤ 63 := h rfl
    have h2 : (Str.ofString (toString n)).length ≤ 4 := num_len (by have := h1.1; omega) (by have := h1.2; omega)
    show (("up:" : Str) ++ Str.ofString (toString n)).length ≤ 10
    rw [len_tl, tl_append, List.length_append, ← len_tl, ← len_tl, up_len]
    omega
  · have h1 : 1 ≤ n ∧ n ≤ 63 := h rfl
    have h2 : (Str.ofString (toString n)).length ≤ 4 := num_len (by have := h1.1; omega) (by have := h1.2; omega)
    show (("down:" : Str) ++ Str.ofString (toString n)).length ≤ 10
    rw [len_tl, tl_append, List.length_append, ← len_tl, ← len_tl, down_len]
    omega
theorem name_len {z : Str} (h : goodName (tl z) = true) : z.length ≤ 8 := by
  unfold goodName at h
  rw [Bool.and_eq_true, Bool.and_eq_true, decide_eq_true_eq, decide_eq_true_eq] at h
  rw [len_tl]
  exact h.1.2
theorem slash_len : ("/" : Str).length = 1 := by decide +kernel
theorem feedText_len {f : Str × Int} (h : f.1.length ≤ 8) (h0 : 0 ≤ f.2) (h1 : f.2 < 10000) : (feedText f).length ≤ 20 := by
  unfold feedText
  split
  · omega
  · rw [len_tl, tl_append, tl_append, List.length_append, List.length_append, ← len_tl, ← len_tl, ← len_tl, slash_len]
    have := num_len h0 h1
    omega
theorem rowWords_le {p : Pd} {ps : List Pd} (hf : Wf ps) (ht : Tell ps) (ok : p.kd.ok) (hp : p ∈ ps) : (∀ z ∈ rowWords p, z.length ≤ 20) ∧ (rowWords p).length ≤ 6 := by
  refine ⟨fun z hz => ?_, ?_⟩
  · unfold rowWords at hz
    rcases List.mem_append.mp hz with h | h
    · simp only [List.mem_cons, List.not_mem_nil, or_false] at h
      rcases h with rfl | rfl | rfl
      · exact Nat.le_trans (name_len (hf.nn p hp)) (by decide)
      · exact Nat.le_trans (word_len ok) (by decide)
      · exact Nat.le_trans (num_len (ht p hp).1.1 (ht p hp).1.2) (by decide)
    · obtain ⟨f, hfm, rfl⟩ := List.mem_map.mp h
      exact feedText_len (name_len (hf.good hp hfm)) ((ht p hp).2 f hfm).1 ((ht p hp).2 f hfm).2
  · unfold rowWords
    rw [List.length_append, List.length_map, hf.ln p hp]
    have := lines_le p.kd.c
    show 3 + _ ≤ 6
    omega
theorem shownRow_le {p : Pd} {ps : List Pd} (hf : Wf ps) (ht : Tell ps) (ok : p.kd.ok) (hp : p ∈ ps) : (shownRow p).length ≤ 130 := by
  obtain ⟨h1, h2⟩ := rowWords_le hf ht ok hp
  have h3 := join_len " " (rowWords p)
  have h4 := sum_le (fun x : Str => x.length) 20 (rowWords p) h1
  have e : (" " : Str).length = 1 := by decide +kernel
  rw [e] at h3
  have h5 := Nat.mul_le_mul_right 20 h2
  unfold shownRow
  omega
end SW


/-! ### the laws' small helpers: a cell, how many lines, a name, a word -/
namespace SW
open PySem PySem.Spec PyProof.Rows L2 He TL
def cellAt (ns : List Int) (k : Nat) : Int := (ns[k]?).getD 0
def spCellAt (K : PySem.W.Frag) : Sp := fun vs H Q _ => ∃ (a : Addr) (ns : List Int) (k : Nat), vs = [.ref a, .int (k : Int)] ∧ SqL K H a (ns.map V.int) ∧ Q (.int (cellAt ns k)) H
def spAsks : Sp := fun vs H Q _ => ∃ (kd : Kd), vs = [.str kd.word] ∧ kd.ok ∧ Q (.int (kd.c.lines : Nat)) H
theorem tl_cut (z : Str) (n : Nat) : tl (cutS z none (some (n : Int))) = (tl z).take n := by
  have h := len_tl z
  show ((z.cps.toList.drop (HT.sIx z.length 0 none)).take (HT.sIx z.length z.length (some (n : Int)) - HT.sIx z.length 0 none)) = (z.cps.toList).take n
  rw [HT.sIx_none, HT.sIx_nat, List.drop_zero, Nat.sub_zero]
  by_cases hn : n ≤ z.length
  · rw [Nat.min_eq_left hn]
  · rw [Nat.min_eq_right (by omega), List.take_of_length_le, List.take_of_length_le]
    · show (tl z).length ≤ n; omega
    · show (tl z).length ≤ z.length; omega
theorem tl_up2 : tl ("up" : Str) = [117, 112] := by decide +kernel
theorem tl_down2 : tl ("down" : Str) = [100, 111, 119, 110] := by decide +kernel
theorem tl_pick2 : tl ("pick" : Str) = [112, 105, 99, 107] := by decide +kernel
/-- what the law asks of a word -/
theorem asks_word (kd : Kd) : (decide (tl kd.word = tl ("in" : Str)) = decide (kd.c = .src)) ∧ ((decide (tl kd.word = tl ("out" : Str)) || (decide ((tl kd.word).take 2 = tl ("up" : Str)) || decide ((tl kd.word).take 4 = tl ("down" : Str)))) = decide (kd.c = .snk ∨ kd.c = .up ∨ kd.c = .down)) ∧
    (decide (tl kd.word = tl ("pick" : Str)) = decide (kd.c = .pick)) := by
  obtain ⟨c, n⟩ := kd
  rw [tl_in, tl_out, tl_up2, tl_down2, tl_pick2]
  cases c
  · exact (by decide +kernel : (decide (tl ("in" : Str) = [105, 110]) = decide (Kc.src = .src)) ∧ ((decide (tl ("in" : Str) = [111, 117, 116]) || (decide ((tl ("in" : Str)).take 2 = [117, 112]) || decide ((tl ("in" : Str)).take 4 = [100, 111, 119, 110]))) = decide (Kc.src = .snk ∨ Kc.src = .up ∨ Kc.src = .down)) ∧ (decide (tl ("in" : Str) = [112, 105, 99, 107]) = decide (Kc.src = .pick)))
  · exact (by decide +kernel : (decide (tl ("out" : Str) = [105, 110]) = decide (Kc.snk = .src)) ∧ ((decide (tl ("out" : Str) = [111, 117, 116]) || (decide ((tl ("out" : Str)).take 2 = [117, 112]) || decide ((tl ("out" : Str)).take 4 = [100, 111, 119, 110]))) = decide (Kc.snk = .snk ∨ Kc.snk = .up ∨ Kc.snk = .down)) ∧ (decide (tl ("out" : Str) = [112, 105, 99, 107]) = decide (Kc.snk = .pick)))
  · exact (by decide +kernel : (decide (tl ("and" : Str) = [105, 110]) = decide (Kc.both = .src)) ∧ ((decide (tl ("and" : Str) = [111, 117, 116]) || (decide ((tl ("and" : Str)).take 2 = [117, 112]) || decide ((tl ("and" : Str)).take 4 = [100, 111, 119, 110]))) = decide (Kc.both = .snk ∨ Kc.both = .up ∨ Kc.both = .down)) ∧ (decide (tl ("and" : Str) = [112, 105, 99, 107]) = decide (Kc.both = .pick)))
  · exact (by decide +kernel : (decide (tl ("or" : Str) = [105, 110]) = decide (Kc.either = .src)) ∧ ((decide (tl ("or" : Str) = [111, 117, 116]) || (decide ((tl ("or" : Str)).take 2 = [117, 112]) || decide ((tl ("or" : Str)).take 4 = [100, 111, 119, 110]))) = decide (Kc.either = .snk ∨ Kc.either = .up ∨ Kc.either = .down)) ∧ (decide (tl ("or" : Str) = [112, 105, 99, 107]) = decide (Kc.either = .pick)))
  · exact (by decide +kernel : (decide (tl ("odd" : Str) = [105, 110]) = decide (Kc.odd = .src)) ∧ ((decide (tl ("odd" : Str) = [111, 117, 116]) || (decide ((tl ("odd" : Str)).take 2 = [117, 112]) || decide ((tl ("odd" : Str)).take 4 = [100, 111, 119, 110]))) = decide (Kc.odd = .snk ∨ Kc.odd = .up ∨ Kc.odd = .down)) ∧ (decide (tl ("odd" : Str) = [112, 105, 99, 107]) = decide (Kc.odd = .pick)))
  · exact (by decide +kernel : (decide (tl ("plus" : Str) = [105, 110]) = decide (Kc.plus = .src)) ∧ ((decide (tl ("plus" : Str) = [111, 117, 116]) || (decide ((tl ("plus" : Str)).take 2 = [117, 112]) || decide ((tl ("plus" : Str)).take 4 = [100, 111, 119, 110]))) = decide (Kc.plus = .snk ∨ Kc.plus = .up ∨ Kc.plus = .down)) ∧ (decide (tl ("plus" : Str) = [112, 105, 99, 107]) = decide (Kc.plus = .pick)))
  · exact (by decide +kernel : (decide (tl ("pick" : Str) = [105, 110]) = decide (Kc.pick = .src)) ∧ ((decide (tl ("pick" : Str) = [111, 117, 116]) || (decide ((tl ("pick" : Str)).take 2 = [117, 112]) || decide ((tl ("pick" : Str)).take 4 = [100, 111, 119, 110]))) = decide (Kc.pick = .snk ∨ Kc.pick = .up ∨ Kc.pick = .down)) ∧ (decide (tl ("pick" : Str) = [112, 105, 99, 107]) = decide (Kc.pick = .pick)))
  · have e : tl (Kd.word ⟨.up, n⟩) = [117, 112, 58] ++ tl (toString n : Str) := by rw [← tl_up]; exact tl_append _ _
    rw [e]
    refine ⟨?_, ?_, ?_⟩ <;> simp
  · have e : tl (Kd.word ⟨.down, n⟩) = [100, 111, 119, 110, 58] ++ tl (toString n : Str) := by rw [← tl_down]; exact tl_append _ _
    rw [e]
    refine ⟨?_, ?_, ?_⟩ <;> simp
def nameSignAt (i : Nat) : Nat := if i < 26 then 97 + i else 22 + i
def lawName (k : Nat) (m : Int) : Str := ((repS "q" (m % 4).toNat ++ (⟨#[nameSignAt (((k : Int) + m) % 36).toNat]⟩ : Str)) ++ (⟨#[48 + k / 36]⟩ : Str)) ++ repS "q" (m / 4 % 3).toNat
theorem sign_at {i : Nat} (h : i < 36) : (tl nameSigns)[i]? = some (nameSignAt i) := by
  rw [tl_signs]
  have : ∀ i < 36, ([97, 98, 99, 100, 101, 102, 103, 104, 105, 106, 107, 108, 109, 110, 111, 112, 113, 114, 115, 116, 117, 118, 119, 120, 121, 122, 48, 49, 50, 51, 52, 53, 54, 55, 56, 57] : List Nat)[i]? = some (nameSignAt i) := by decide
  exact this i h
theorem tl_q : tl ("q" : Str) = [113] := by decide +kernel
theorem tl_repq (n : Nat) : tl (repS "q" n) = List.replicate n 113 := by
  rw [rep_len, tl_q]
  induction n with
  | zero => rfl
  | succ n ih => rw [List.replicate_succ, List.flatten_cons, ih, List.replicate_succ] <;> rfl
theorem tl_name (k : Nat) (m : Int) : tl (lawName k m) = List.replicate (m % 4).toNat 113 ++ nameSignAt (((k : Int) + m) % 36).toNat :: (48 + k / 36) :: List.replicate (m / 4 % 3).toNat 113 := by
  unfold lawName
  rw [tl_append, tl_append, tl_append, tl_repq, tl_repq, List.append_assoc, List.append_assoc] <;> rfl
theorem name_good {k : Nat} (m : Int) (h : k < 72) : goodName (tl (lawName k m)) = true := by
  have h1 : 0 ≤ m % 4 ∧ m % 4 < 4 := ⟨Int.emod_nonneg _ (by decide), Int.emod_lt_of_pos _ (by decide)⟩
  have h2 : 0 ≤ m / 4 % 3 ∧ m / 4 % 3 < 3 := ⟨Int.emod_nonneg _ (by decide), Int.emod_lt_of_pos _ (by decide)⟩
  have h3 : 0 ≤ ((k : Int) + m) % 36 ∧ ((k : Int) + m) % 36 < 36 := ⟨Int.emod_nonneg _ (by decide), Int.emod_lt_of_pos _ (by decide)⟩
  unfold goodName
  rw [tl_name]
  rw [Bool.and_eq_true, Bool.and_eq_true, decide_eq_true_eq, decide_eq_true_eq, List.all_eq_true]
  refine ⟨⟨?_, ?_⟩, fun c hc => ?_⟩
  · simp
    omega
  · simp
    omega
  · have hq : nameSign 113 = true := by decide
    rcases List.mem_append.mp hc with hc | hc
    · rw [(List.mem_replicate.mp hc).2]
      exact hq
    · rcases List.mem_cons.mp hc with hc | hc
      · rw [hc]
        have : ∀ i < 36, nameSign (nameSignAt i) = true := by decide
        exact this _ (by omega)
      · rcases List.mem_cons.mp hc with hc | hc
        · rw [hc]
          have : ∀ i < 2, nameSign (48 + i) = true := by decide
          exact this _ (by omega)
        · rw [(List.mem_replicate.mp hc).2]
          exact hq
theorem name_inj {j k : Nat} {m : Int} (hj : j < 72) (hk : k < 72) (h : lawName j m = lawName k m) : j = k := by
  have h1 := congrArg tl h
  rw [tl_name, tl_name] at h1
  have h2 := List.append_cancel_left h1
  simp only [List.cons.injEq] at h2
  obtain ⟨e1, e2, _⟩ := h2
  have a1 : 0 ≤ ((j : Int) + m) % 36 ∧ ((j : Int) + m) % 36 < 36 := ⟨Int.emod_nonneg _ (by decide), Int.emod_lt_of_pos _ (by decide)⟩
  have a2 : 0 ≤ ((k : Int) + m) % 36 ∧ ((k : Int) + m) % 36 < 36 := ⟨Int.emod_nonneg _ (by decide), Int.emod_lt_of_pos _ (by decide)⟩
  unfold nameSignAt at e1
  split at e1 <;> split at e1 <;> omega
def spName : Sp := fun vs H Q _ => ∃ (k : Nat) (m : Int), vs = [.int (k : Int), .int m] ∧ k < 72 ∧ Q (.str (lawName k m)) H
/-- counted kinds within bounds, others without a count -/
def Kd.fit (k : Kd) : Prop := k.ok ∧ (k.c.cnt = false → k.n = 0)
def spWordL : Sp := fun vs H Q _ => ∃ (c : Int) (k : Nat), vs = [.int c, .int (k : Int)] ∧ k < 1000 ∧ ∀ (kd : Kd) (H' : Hp), kd.fit → Same H H' → Q (.str kd.word) H'
section
variable {P : Program} {w : World} {K : PySem.W.Frag} {mg : Str → Option Value} {base : Heap}
theorem ok_cell_at (T : Txt K mg) : Ok P w K mg base 1 (ga K "_law_cell_at") ["_law_script", "_law_k"] (spCellAt K) := by
  refine mkOk T.F_law_cell_at sc_law_cell_at (fun _ _ _ _ _ _ us hl => match us, hl with | [_, _], _ => rfl) (by rintro vs H Q E ⟨_, _, _, rfl, _⟩; rfl) (fun cdv A outer s H vs Q E hr h => ?_)
  obtain ⟨a, ns, k, rfl, hS, q⟩ := h
  refine ⟨_, (pss_cons (ps_if (pt_cmpR op_lt (pv 1) (pe_callB (lenQ (K := K)) (by rfl) T.f_len (by decide +kernel) (pa_cons (pv 0) pa_nil)) (nomark _)) (pss_one (ps_ret (pe_ix (ixL (K := K)) (pv 0) (pv 1) (fun _ _ => rfl)))) pss_nil)
      (pss_one (ps_ret pe_int))), ?_⟩
  refine ⟨_, rfl, _, rfl, a, _, rfl, .inl hS, _, _, rfl, rfl, _, rfl, ?_⟩
  rw [List.length_map]
  unfold cellAt at q
  refine ite2 (fun h1 => ?_) (fun h1 => ?_)
  · have h2 : k < ns.length := by have := of_decide_eq_true h1; omega
    refine ⟨_, rfl, _, rfl, a, _, _, V.int ns[k], rfl, rfl, hS, atI_nat (by rw [List.getElem?_map, List.getElem?_eq_getElem h2] <;> rfl), ?_⟩
    rw [List.getElem?_eq_getElem h2] at q
    exact q
  · have h2 : ¬ k < ns.length := fun z => h1 (decide_eq_true (by omega))
    rw [List.getElem?_eq_none (by omega)] at q
    exact q
theorem ok_asks (T : Txt K mg) : Ok P w K mg base 1 (ga K "_law_asks") ["_law_word_here"] spAsks := by
  refine mkOk T.F_law_asks sc_law_asks (fun _ _ _ _ _ _ us hl => match us, hl with | [_], _ => rfl) (by rintro vs H Q E ⟨_, rfl, _⟩; rfl) (fun cdv A outer s H vs Q E hr h => ?_)
  obtain ⟨kd, rfl, hok, q⟩ := h
  refine ⟨_, (pss_cons (ps_if (pt_cmpR op_eq (pv 0) pe_str (nomark _)) (pss_one (ps_ret pe_int)) pss_nil)
      (pss_cons (ps_if (PW.pt (pw_or (pt_cmpR op_eq (pv 0) pe_str (nomark _)) (pw_or (pt_cmpR op_eq (pe_slice sl_str (pv 0) po_none (po_some pe_int)) pe_str (nomark _)) (pw_or1 (pt_cmpR op_eq (pe_slice sl_str (pv 0) po_none (po_some pe_int)) pe_str (nomark _)))))) (pss_one (ps_ret pe_int)) pss_nil)
      (pss_cons (ps_if (pt_cmpR op_eq (pv 0) pe_str (nomark _)) (pss_one (ps_ret pe_int)) pss_nil)
      (pss_one (ps_ret pe_int))))), ?_⟩
  obtain ⟨a1, a2, a3⟩ := asks_word kd
  have hl : kd.word.length ≤ 100000 := Nat.le_trans (word_len hok) (by decide)
  refine ⟨_, rfl, rfl, _, rfl, ?_⟩
  rw [dstr, a1]
  refine ite2 (fun h1 => ?_) (fun h1 => ?_)
  · have hc : kd.c = .src := of_decide_eq_true h1
    rw [hc] at q
    exact q
  have hs : kd.c ≠ .src := fun z => h1 (decide_eq_true z)
  have yes : (kd.c = .snk ∨ kd.c = .up ∨ kd.c = .down) → Q (.int 1) H := fun z => by
    rcases z with z | z | z <;> rw [z] at q <;> exact q
  have no : ¬ (kd.c = .snk ∨ kd.c = .up ∨ kd.c = .down) → kd.c = .pick ∧ Q (.int 3) H ∨ kd.c ≠ .pick ∧ Q (.int 2) H := fun z => by
    revert hs z q
    cases kd.c <;> intro q hs z <;> first
      | exact absurd rfl hs
      | exact absurd (.inl rfl) z
      | exact absurd (.inr (.inl rfl)) z
      | exact absurd (.inr (.inr rfl)) z
      | exact .inl ⟨rfl, q⟩
      | exact .inr ⟨by decide, q⟩
  refine ⟨_, rfl, rfl, _, rfl, ?_⟩
  rw [dstr]
  refine ite2 (fun h2 => ?_) (fun h2 => ?_)
  · refine iteT (yes ?_)
    rw [h2] at a2
    exact of_decide_eq_true a2.symm
  rw [Bool.eq_false_iff.mpr h2, Bool.false_or] at a2
  refine ⟨_, rfl, _, rfl, kd.word, rfl, Nat.le_trans hl (by decide), rfl, _, rfl, ?_⟩
  rw [dstr, show tl (cutS kd.word none (some 2)) = (tl kd.word).take 2 from tl_cut _ 2]
  refine ite2 (fun h3 => ?_) (fun h3 => ?_)
  · refine iteT (yes ?_)
    rw [h3] at a2
    exact of_decide_eq_true a2.symm
  rw [Bool.eq_false_iff.mpr h3, Bool.false_or] at a2
  refine ⟨_, rfl, _, rfl, kd.word, rfl, Nat.le_trans hl (by decide), rfl, _, rfl, ?_⟩
  rw [dstr, show tl (cutS kd.word none (some 4)) = (tl kd.word).take 4 from tl_cut _ 4]
  refine ite2 (fun h4 => ?_) (fun h4 => ?_)
  · refine yes ?_
    rw [h4] at a2
    exact of_decide_eq_true a2.symm
  rw [Bool.eq_false_iff.mpr h4] at a2
  have hno : ¬ (kd.c = .snk ∨ kd.c = .up ∨ kd.c = .down) := of_decide_eq_false a2.symm
  refine ⟨_, rfl, rfl, _, rfl, ?_⟩
  rw [dstr, a3]
  rcases no hno with ⟨h, q⟩ | ⟨h, q⟩
  · rw [decide_eq_true h]
    exact iteT q
  · rw [decide_eq_false h]
    exact iteF q
theorem ok_name (T : Txt K mg) : Ok P w K mg base 1 (ga K "_law_name") ["_law_k", "_law_mark"] spName := by
  refine mkOk T.F_law_name sc_law_name (fun _ _ _ _ _ _ us hl => match us, hl with | [_, _], _ => rfl) (by rintro vs H Q E ⟨_, _, rfl, _⟩; rfl) (fun cdv A outer s H vs Q E hr h => ?_)
  obtain ⟨k, m, rfl, hk, q⟩ := h
  refine ⟨_, (pss_cons (ps_set (i := 2) sc_law_name.nd rfl (by first | exact Or.inl rfl | exact Or.inr rfl) (pe_ix ix_str pe_str (pe_op op_mod (pe_op op_add (pv 0) (pv 1)) pe_int) (fun _ _ => rfl)))
      (pss_one (ps_ret (pe_op op_add_str (pe_op op_add_str (pe_op op_add_str (pe_op op_mul_str pe_str (pe_op op_mod (pv 1) pe_int)) (pv 2)) (pe_ix ix_str pe_str (pe_op op_fdiv (pv 0) pe_int) (fun _ _ => rfl))) (pe_op op_mul_str pe_str (pe_op op_mod (pe_op op_fdiv (pv 1) pe_int) pe_int)))))), ?_⟩
  have h1 : 0 ≤ m % 4 ∧ m % 4 < 4 := ⟨Int.emod_nonneg _ (by decide), Int.emod_lt_of_pos _ (by decide)⟩
  have h2 : 0 ≤ m / 4 % 3 ∧ m / 4 % 3 < 3 := ⟨Int.emod_nonneg _ (by decide), Int.emod_lt_of_pos _ (by decide)⟩
  have h3 : 0 ≤ ((k : Int) + m) % 36 ∧ ((k : Int) + m) % 36 < 36 := ⟨Int.emod_nonneg _ (by decide), Int.emod_lt_of_pos _ (by decide)⟩
  have e1 : m % 4 = (((m % 4).toNat : Nat) : Int) := by omega
  have e2 : m / 4 % 3 = (((m / 4 % 3).toNat : Nat) : Int) := by omega
  have e3 : ((k : Int) + m) % 36 = (((((k : Int) + m) % 36).toNat : Nat) : Int) := by omega
  refine ⟨_, rfl, _, rfl, _, _, rfl, rfl, _, _, rfl, rfl, (by decide : (0 : Int) < 36), nameSigns, _, nameSignAt (((k : Int) + m) % 36).toNat, rfl, rfl, (by decide +kernel), ?_, ?_⟩
  · rw [e3]
    exact atI_nat (sign_at (by omega))
  have lq : ∀ n, (repS "q" n).length = n := fun n => by rw [len_tl, tl_repq, List.length_replicate]
  have l1 : ∀ c, (⟨#[c]⟩ : Str).length = 1 := fun c => rfl
  have la : ∀ a b : Str, (a ++ b).length = a.length + b.length := fun a b => by rw [len_tl, tl_append, List.length_append, ← len_tl, ← len_tl]
  have big : ∀ {n : Nat}, n ≤ 100 → n ≤ sizeLine := fun h => Nat.le_trans h (by decide)
  have eq1 : ("q" : Str).length ≤ 100 := by decide +kernel
  refine ⟨_, rfl, _, _, rfl, rfl, (by decide : (0 : Int) < 4), _, _, rfl, congrArg V.int e1, eq1, by omega, ?_⟩
  refine ⟨_, rfl, _, _, rfl, rfl, big (by rw [lq, l1]; omega), ?_⟩
  have e4 : (k : Int) / 36 = ((k / 36 : Nat) : Int) := rfl
  refine ⟨_, rfl, _, _, rfl, rfl, ⟨by decide, by decide⟩, ("01" : Str), _, 48 + k / 36, rfl, rfl, (by decide +kernel), ?_, ?_⟩
  · rw [e4]
    refine atI_nat ?_
    have t01 : ("01" : Str).cps.toList = [48, 49] := by decide +kernel
    rw [t01]
    have : ∀ i < 2, ([48, 49] : List Nat)[i]? = some (48 + i) := by decide
    exact this _ (by omega)
  refine ⟨_, _, rfl, rfl, big (by rw [la, lq, l1, l1]; omega), ?_⟩
  refine ⟨_, rfl, _, _, rfl, rfl, ⟨by decide, by decide⟩, _, _, rfl, rfl, (by decide : (0 : Int) < 3), _, _, rfl, congrArg V.int e2, eq1, by omega, ?_⟩
  refine ⟨_, _, rfl, rfl, big (by rw [la, la, lq, lq, l1, l1]; omega), q⟩
theorem ok_wordL (T : Txt K mg) : Ok P w K mg base 2 (ga K "_law_word") ["_law_cell", "_law_k"] spWordL := by
  have G_law_draw := ok_draw (P := P) (w := w) (base := base) T
  refine mkOk T.F_law_word sc_law_word (fun _ _ _ _ _ _ us hl => match us, hl with | [_, _], _ => rfl) (by rintro vs H Q E ⟨_, _, rfl, _⟩; rfl) (fun cdv A outer s H vs Q E hr h => ?_)
  obtain ⟨c, k, rfl, hk, q⟩ := h
  refine ⟨_, (pss_cons (ps_set (i := 2) sc_law_word.nd rfl (by first | exact Or.inl rfl | exact Or.inr rfl) (pe_callO G_law_draw (hr.mono (by decide)) T.g_law_draw (pa_cons (pv 0) (pa_cons pe_int (pa_cons pe_int pa_nil)))))
      (pss_cons (ps_set (i := 3) sc_law_word.nd rfl (by first | exact Or.inl rfl | exact Or.inr rfl) (pe_tup (pa_cons pe_str (pa_cons pe_str (pa_cons pe_str (pa_cons pe_str (pa_cons pe_str (pa_cons pe_str (pa_cons pe_str (pa_cons pe_str (pa_cons pe_str (pa_cons pe_str pa_nil))))))))))))
      (pss_cons (ps_if (pt_cmpR op_lt (pv 2) pe_int (nomark _)) (pss_one (ps_ret (pe_ix (ixT (K := K)) (pv 3) (pv 2) (fun _ _ => rfl)))) pss_nil)
      (pss_one (ps_ret (pe_op op_add_str (pe_ix (ixT (K := K)) (pe_tup (pa_cons pe_str (pa_cons pe_str pa_nil))) (pe_op op_sub (pv 2) pe_int) (fun _ _ => rfl)) (pe_callTy call_str_int (by rfl) T.f_str (by decide +kernel) (pa_cons (pe_op op_add pe_int (pe_op op_fdiv (pe_callO G_law_draw (hr.mono (by decide)) T.g_law_draw (pa_cons (pv 0) (pa_cons pe_int (pa_cons pe_int pa_nil)))) (pe_op op_add pe_int (pe_op op_mul pe_int (pe_callO G_law_draw (hr.mono (by decide)) T.g_law_draw (pa_cons (pv 0) (pa_cons pe_int (pa_cons pe_int pa_nil)))))))) pa_nil)))))))), ?_⟩
  have d0 := draw_lo c 0 (show (0 : Int) < 12 by decide)
  have d1 := draw_hi c 0 (show (0 : Int) < 12 by decide)
  refine ⟨_, rfl, c, 0, 12, rfl, by decide, by decide, fun H1 s1 => ?_⟩
  generalize draw c 0 12 = d at d0 d1
  refine ⟨(by show 10 ≤ sizeLine; decide), fun p1 hp1 => ?_⟩
  have s2 := s1.trans (Same.new (o := .tup [.str "and", .str "or", .str "odd", .str "plus", .str "pick", .str "plus", .str "odd", .str "out", .str "in", .str "pick"]) hp1)
  refine ⟨_, rfl, _, _, rfl, rfl, _, rfl, ?_⟩
  refine ite2 (fun h1 => ?_) (fun h1 => ?_)
  · have h1 := of_decide_eq_true h1
    obtain ⟨i, rfl⟩ := Int.eq_ofNat_of_zero_le d0
    have hi : i < 10 := by omega
    obtain ⟨c0, hc0⟩ : ∃ c0, ([.both, .either, .odd, .plus, .pick, .plus, .odd, .snk, .src, .pick] : List Kc)[i]? = some c0 := ⟨_, List.getElem?_eq_getElem hi⟩
    have hcn : ∀ c ∈ ([.both, .either, .odd, .plus, .pick, .plus, .odd, .snk, .src, .pick] : List Kc), c.cnt = false := by decide
    refine ⟨_, rfl, _, rfl, p1, ([.both, .either, .odd, .plus, .pick, .plus, .odd, .snk, .src, .pick] : List Kc).map fun c => V.str (Kd.word ⟨c, 0⟩), _, _, rfl, rfl, SqT.of upd_same, atI_nat (by rw [List.getElem?_map, hc0] <;> rfl), ?_⟩
    refine q ⟨c0, 0⟩ _ ⟨fun z => ?_, fun _ => rfl⟩ s2
    have := hcn c0 (List.mem_of_getElem? hc0)
    rw [show c0.cnt = true from z] at this
    cases this
  · have h2 : ¬ d < 10 := fun z => h1 (decide_eq_true z)
    obtain ⟨i, rfl⟩ := Int.eq_ofNat_of_zero_le d0
    obtain ⟨j, rfl⟩ : ∃ j, i = 10 + j := ⟨i - 10, by omega⟩
    have hj : j < 2 := by omega
    revert s2
    generalize upd H1 p1 _ = H2
    intro s2
    refine ⟨(by show 2 ≤ sizeLine; decide), fun p2 hp2 => ?_⟩
    have s3 := s2.trans (Same.new (o := .tup [.str "up:", .str "down:"]) hp2)
    have ej : ((10 + j : Nat) : Int) - 10 = (j : Int) := by omega
    obtain ⟨z, hz⟩ : ∃ z : Str, ([("up:" : Str), ("down:" : Str)])[j]? = some z := ⟨_, List.getElem?_eq_getElem hj⟩
    refine ⟨_, rfl, _, _, rfl, rfl, p2, [.str "up:", .str "down:"], _, .str z, rfl, rfl, SqT.of upd_same, ?_, ?_⟩
    · rw [ej]
      refine atI_nat ?_
      show ([("up:" : Str), ("down:" : Str)].map V.str)[j]? = _
      rw [List.getElem?_map, hz] <;> rfl
    revert s3
    generalize upd H2 p2 _ = H3
    intro s3
    have x0 := draw_lo c 1 (show (0 : Int) < 63 by decide)
    have x1 := draw_hi c 1 (show (0 : Int) < 63 by decide)
    have y0 := draw_lo c 2 (show (0 : Int) < 2 by decide)
    have y1 := draw_hi c 2 (show (0 : Int) < 2 by decide)
    refine ⟨_, rfl, c, 1, 63, rfl, by decide, by decide, fun H4 s4 => ?_⟩
    refine ⟨_, rfl, c, 2, 2, rfl, by decide, by decide, fun H5 s5 => ?_⟩
    generalize draw c 1 63 = x at x0 x1
    generalize draw c 2 2 = y at y0 y1
    have hd0 : 0 ≤ x / (1 + 20 * y) := Int.ediv_nonneg x0 (by omega)
    have hd1 : x / (1 + 20 * y) ≤ x := Int.ediv_le_self _ x0
    refine ⟨_, _, rfl, rfl, .inl ⟨by decide, by decide⟩, _, _, rfl, rfl, _, _, rfl, rfl, ⟨(by omega : 0 < 1 + 20 * y), (by omega : 1 + 20 * y < 1073741824)⟩, _, _, rfl, rfl, _, rfl, ?_⟩
    generalize x / (1 + 20 * y) = n at hd0 hd1
    have hl := num_len (n := 1 + n) (by omega) (by omega)
    have big : ∀ {n : Nat}, n ≤ 100 → n ≤ sizeLine := fun h => Nat.le_trans h (by decide)
    have hzl : z.length ≤ 5 := by
      have : ∀ z ∈ ([("up:" : Str), ("down:" : Str)]), z.length ≤ 5 := by decide +kernel
      exact this z (List.mem_of_getElem? hz)
    refine ⟨dgt _ (Nat.lt_of_lt_of_le (by omega : (1 + n).natAbs < 100) (by decide)), _, _, rfl, rfl, big (by omega), ?_⟩
    have s6 := (s3.trans s4).trans s5
    match j, hj, hz with
    | 0, _, hz => cases hz; exact q ⟨.up, 1 + n⟩ _ ⟨fun _ => ⟨by show 1 ≤ 1 + n; omega, by show 1 + n ≤ 63; omega⟩, fun z => by cases z⟩ s6
    | 1, _, hz => cases hz; exact q ⟨.down, 1 + n⟩ _ ⟨fun _ => ⟨by show 1 ≤ 1 + n; omega, by show 1 + n ≤ 63; omega⟩, fun z => by cases z⟩ s6
end
end SW


/-! ### the law's works -/
namespace SW
open PySem PySem.Spec PyProof.Rows L2 He TL
structure Lp where
  name : Str
  kd : Kd
  time : Int
  feeds : List (Nat × Int)
def FdOk (kds : List Kd) (k : Nat) (f : Nat × Int) : Prop := (∃ r, kds[f.1]? = some r ∧ r.c ≠ .snk) ∧ 0 ≤ f.2 ∧ f.2 ≤ 3 ∧ (k ≤ f.1 → 1 ≤ f.2)
structure LpOk (mark : Int) (kds : List Kd) (k : Nat) (p : Lp) : Prop where
  nm : p.name = lawName k mark
  kd : kds[k]? = some p.kd
  t0 : 0 ≤ p.time
  t1 : p.time ≤ 40
  te : p.kd.c = .src ∨ p.kd.c = .snk → p.time = 0
  fl : p.feeds.length = p.kd.c.lines
  fd : ∀ f ∈ p.feeds, FdOk kds k f
structure KdsOk (kds : List Kd) : Prop where
  first : ∃ r, kds[0]? = some r ∧ r.c = .src
  ok : ∀ kd ∈ kds, kd.fit
structure LawOk (most : Nat) (mark : Int) (ls : List Lp) : Prop where
  lo : 2 ≤ ls.length
  hi : ls.length ≤ most + 1
  kds : KdsOk (ls.map Lp.kd)
  each : ∀ j p, ls[j]? = some p → LpOk mark (ls.map Lp.kd) j p
def PairAt (G : Hp) (v : V) (f : Nat × Int) : Prop := ∃ t, v = .ref t ∧ G t = some (.tup [.int (f.1 : Int), .int f.2])
structure LpIn (G : Hp) (t : Addr) (p : Lp) (l : Addr) (vs : List V) : Prop where
  ob : G t = some (.tup [.str p.name, .str p.kd.word, .int p.time, .ref l])
  ls : G l = some (.lst vs)
  fs : All2 (PairAt G) vs p.feeds
def LpAt (G : Hp) (v : V) (p : Lp) : Prop := ∃ t l vs, v = .ref t ∧ LpIn G t p l vs
def LawAt (G : Hp) (q : Addr) (ls : List Lp) : Prop := ∃ vs, G q = some (.lst vs) ∧ All2 (LpAt G) vs ls
section
variable {G G' : Hp}
theorem PairAt.mono {v : V} {f : Nat × Int} (e : Same G G') (h : PairAt G v f) : PairAt G' v f := by
  obtain ⟨t, r, h⟩ := h
  exact ⟨t, r, e _ _ h⟩
theorem LpIn.mono {t : Addr} {p : Lp} {l : Addr} {vs : List V} (e : Same G G') (h : LpIn G t p l vs) : LpIn G' t p l vs := ⟨e _ _ h.ob, e _ _ h.ls, h.fs.mono fun _ _ z => z.mono e⟩
theorem LpAt.mono {v : V} {p : Lp} (e : Same G G') (h : LpAt G v p) : LpAt G' v p := by
  obtain ⟨t, l, vs, r, h⟩ := h
  exact ⟨t, l, vs, r, h.mono e⟩
theorem LawAt.mono {q : Addr} {ls : List Lp} (e : Same G G') (h : LawAt G q ls) : LawAt G' q ls := by
  obtain ⟨vs, h1, h2⟩ := h
  exact ⟨vs, e _ _ h1, h2.mono fun _ _ z => z.mono e⟩
end
def notSnk (kds : List Kd) (k : Nat) : Bool := match kds[k]? with | some r => !decide (r.c = .snk) | none => false
def fromsOf (kds : List Kd) (n : Nat) : List Nat := (List.range n).filter (notSnk kds)
theorem froms_ok {kds : List Kd} {n k : Nat} (h : k ∈ fromsOf kds n) : ∃ r, kds[k]? = some r ∧ r.c ≠ .snk := by
  have := (List.mem_filter.mp h).2
  unfold notSnk at this
  cases e : kds[k]? with
  | none => rw [e] at this; cases this
  | some r =>
    rw [e] at this
    exact ⟨r, rfl, by simpa using this⟩
theorem froms_pos {kds : List Kd} {n : Nat} (h : KdsOk kds) (hn : 0 < n) : 0 < (fromsOf kds n).length := by
  obtain ⟨r, h1, h2⟩ := h.first
  refine List.length_pos_of_mem (a := 0) (List.mem_filter.mpr ⟨List.mem_range.mpr hn, ?_⟩)
  unfold notSnk
  rw [h1]
  show (!decide (r.c = .snk)) = true
  rw [h2]
  rfl
theorem froms_succ (kds : List Kd) (n : Nat) : fromsOf kds (n + 1) = fromsOf kds n ++ (if notSnk kds n = true then [n] else []) := by
  unfold fromsOf
  rw [List.range_succ, List.filter_append, List.filter_cons, List.filter_nil]
theorem froms_le (kds : List Kd) (n : Nat) : (fromsOf kds n).length ≤ n := by
  have := List.length_filter_le (notSnk kds) (List.range n)
  rw [List.length_range] at this
  exact this
theorem vs2 {x : V} {i j : Int} (h : i = j) : [x, V.int i] = [x, V.int j] := by rw [h]
theorem vs1 {i j : Int} (h : i = j) : [V.int i] = [V.int j] := by rw [h]
theorem ixN_nat {n k : Nat} (h : k < n) : ixN n (k : Int) = some k := by
  unfold ixN
  rw [if_pos (by omega), if_pos (by omega)] <;> rfl
def spLawWorks (K : PySem.W.Frag) : Sp := fun vs H Q _ => ∃ (G : Hp) (a : Addr) (ns : List Int) (most : Nat), vs = [.ref a, .int (most : Int)] ∧ Same G H ∧ SqL K H a (ns.map V.int) ∧ 1 ≤ most ∧ most ≤ 59 ∧
  ∀ q mark ls G' H', Grow G H G' H' → H q = none → LawAt G' q ls → LawOk most mark ls → Q (.ref q) H'
section
variable {P : Program} {w : World} {K : PySem.W.Frag} {mg : Str → Option Value} {base : Heap}
theorem ok_law_works (T : Txt K mg) : Ok P w K mg base 3 (ga K "_law_works") ["_law_script", "_law_most"] (spLawWorks K) := by
  have G_law_cell_at := ok_cell_at (P := P) (w := w) (base := base) T
  have G_law_draw := ok_draw (P := P) (w := w) (base := base) T
  have G_law_word := ok_wordL (P := P) (w := w) (base := base) T
  have G_law_asks := ok_asks (P := P) (w := w) (base := base) T
  have G_law_name := ok_name (P := P) (w := w) (base := base) T
  refine mkOk T.F_law_works sc_law_works (fun _ _ _ _ _ _ us hl => match us, hl with | [_, _], _ => rfl) (by rintro vs H Q E ⟨_, _, _, _, rfl, _⟩; rfl) (fun cdv A outer s H vs Q E hr h => ?_)
  obtain ⟨G, a, ns, most, rfl, sg, hS, hm1, hm2, q⟩ := h
  refine ⟨_, (pss_cons (ps_set (i := 2) sc_law_works.nd rfl (by first | exact Or.inl rfl | exact Or.inr rfl) (pe_callO G_law_cell_at (hr.mono (by decide)) T.g_law_cell_at (pa_cons (pv 0) (pa_cons pe_int pa_nil))))
      (pss_cons (ps_set (i := 3) sc_law_works.nd rfl (by first | exact Or.inl rfl | exact Or.inr rfl) (pe_op op_add pe_int (pe_op op_mod (pe_callO G_law_cell_at (hr.mono (by decide)) T.g_law_cell_at (pa_cons (pv 0) (pa_cons pe_int pa_nil))) (pv 1))))
      (pss_cons (ps_set (i := 4) sc_law_works.nd rfl (by first | exact Or.inl rfl | exact Or.inr rfl) (pe_op op_cat (pe_lst (pa_cons pe_str pa_nil)) (pe_lc (own := [("_law_k", 5)]) rfl sc_law_works.nd (pi_range2 (by rfl) T.f_range (pa_cons pe_int (pa_cons (pv 3) pa_nil))) (blkOk_by (own := [("_law_k", 5)]) (N := ["_law_script", "_law_most", "_law_mark", "_law_many", "_law_words", "_law_k", "_law_froms", "_law_parts", "_law_feeds", "_law_j", "_law_cell", "_law_place", "_law_held", "_law_time"]) (sc := defScope s_law_works) (by decide +kernel)) (fun _ _ _ _ _ => (pg_name (i := 5) sc_law_works.nd rfl (by first | exact Or.inl rfl | exact Or.inr rfl))) (fun _ _ _ _ _ => pts_nil) (fun _ _ _ _ _ => (pe_callO G_law_word (hr.mono (by decide)) T.g_law_word (pa_cons (pe_op op_add (pe_callO G_law_cell_at (hr.mono (by decide)) T.g_law_cell_at (pa_cons (pv 0) (pa_cons (pe_op op_add pe_int (pv 5)) pa_nil))) (pe_op op_mul pe_int (pv 5))) (pa_cons (pv 5) pa_nil)))))))
      (Evl.pss_cut (ps_if (pt_cmpR op_gt (pe_op op_mod (pv 2) pe_int) pe_int (nomark _)) (pss_one (ps_asg pe_str (pg_sub (pv 4) (pe_op op_sub (pv 3) pe_int) set_list))) pss_nil)
      (pss_cons (ps_setLc (i := 6) (own := [("_law_k", 5)]) rfl sc_law_works.nd rfl rfl (sw_true rfl rfl rfl (by decide +kernel)) (pi_range1 (by rfl) T.f_range (pa_cons (pv 3) pa_nil)) (blkOk_by (own := [("_law_k", 5)]) (N := ["_law_script", "_law_most", "_law_mark", "_law_many", "_law_words", "_law_k", "_law_froms", "_law_parts", "_law_feeds", "_law_j", "_law_cell", "_law_place", "_law_held", "_law_time"]) (sc := defScope s_law_works) (by decide +kernel)) (fun _ _ _ _ _ => (pg_name (i := 5) sc_law_works.nd rfl (by first | exact Or.inl rfl | exact Or.inr rfl))) (fun _ _ _ _ _ => pts_one (pt_cmpR op_ne (pe_ix (ixL (K := K)) (pv 4) (pv 5) (fun _ _ => rfl)) pe_str (nomark _))) (fun _ _ _ _ _ => (pv 5)))
      (pss_cons (ps_set (i := 7) sc_law_works.nd rfl (by first | exact Or.inl rfl | exact Or.inr rfl) (pe_lst pa_nil))
      (pss_cons (ps_for PassesOwn.never rfl (pi_range1 (by rfl) T.f_range (pa_cons (pv 3) pa_nil)) (pg_name (i := 5) sc_law_works.nd rfl (by first | exact Or.inl rfl | exact Or.inr rfl))
      (pss_cons (ps_set (i := 8) sc_law_works.nd rfl (by first | exact Or.inl rfl | exact Or.inr rfl) (pe_lst pa_nil))
      (pss_cons (ps_for PassesOwn.never rfl (pi_range1 (by rfl) T.f_range (pa_cons (pe_callO G_law_asks (hr.mono (by decide)) T.g_law_asks (pa_cons (pe_ix (ixL (K := K)) (pv 4) (pv 5) (fun _ _ => rfl)) pa_nil)) pa_nil)) (pg_name (i := 9) sc_law_works.nd rfl (by first | exact Or.inl rfl | exact Or.inr rfl))
      (pss_cons (ps_set (i := 10) sc_law_works.nd rfl (by first | exact Or.inl rfl | exact Or.inr rfl) (pe_op op_add (pe_op op_add (pe_callO G_law_cell_at (hr.mono (by decide)) T.g_law_cell_at (pa_cons (pv 0) (pa_cons (pe_op op_add pe_int (pv 5)) pa_nil))) (pe_op op_mul pe_int (pv 5))) (pe_op op_mul pe_int (pv 9))))
      (pss_cons (ps_set (i := 11) sc_law_works.nd rfl (by first | exact Or.inl rfl | exact Or.inr rfl) (pe_ix (ixL (K := K)) (pv 6) (pe_callO G_law_draw (hr.mono (by decide)) T.g_law_draw (pa_cons (pv 10) (pa_cons pe_int (pa_cons (pe_callB (lenQ (K := K)) (by rfl) T.f_len (by decide +kernel) (pa_cons (pv 6) pa_nil)) pa_nil)))) (fun _ _ => rfl)))
      (Evl.pss_cut (ps_set (i := 12) sc_law_works.nd rfl (by first | exact Or.inl rfl | exact Or.inr rfl) (pe_ifExp (pt_cmpR op_lt (pv 11) (pv 5) (nomark _)) (pe_ix (ixT (K := K)) (pe_tup (pa_cons pe_int (pa_cons pe_int (pa_cons pe_int (pa_cons pe_int (pa_cons pe_int (pa_cons pe_int pa_nil))))))) (pe_callO G_law_draw (hr.mono (by decide)) T.g_law_draw (pa_cons (pv 10) (pa_cons pe_int (pa_cons pe_int pa_nil)))) (fun _ _ => rfl)) (pe_op op_add pe_int (pe_op op_fdiv (pe_callO G_law_draw (hr.mono (by decide)) T.g_law_draw (pa_cons (pv 10) (pa_cons pe_int (pa_cons pe_int pa_nil)))) pe_int))))
      (pss_one (ps_expr (pe_bm PySem.F.plainAttrs_list PySem.F.slot_list_append PySem.F.type_list_append mt_append (pv 8) (pa_cons (pe_tup (pa_cons (pv 11) (pa_cons (pv 12) pa_nil))) pa_nil))))))))
      (pss_cons (ps_set (i := 13) sc_law_works.nd rfl (by first | exact Or.inl rfl | exact Or.inr rfl) (pe_ix (ixT (K := K)) (pe_tup (pa_cons pe_int (pa_cons pe_int (pa_cons pe_int (pa_cons pe_int (pa_cons pe_int (pa_cons pe_int (pa_cons pe_int (pa_cons pe_int pa_nil))))))))) (pe_callO G_law_draw (hr.mono (by decide)) T.g_law_draw (pa_cons (pe_op op_add (pe_callO G_law_cell_at (hr.mono (by decide)) T.g_law_cell_at (pa_cons (pv 0) (pa_cons (pe_op op_add pe_int (pv 5)) pa_nil))) (pe_op op_mul pe_int (pv 5))) (pa_cons pe_int (pa_cons pe_int pa_nil)))) (fun _ _ => rfl)))
      (Evl.pss_cut (ps_if (PW.pt (pw_or (pt_cmpR op_eq (pe_ix (ixL (K := K)) (pv 4) (pv 5) (fun _ _ => rfl)) pe_str (nomark _)) (pw_or1 (pt_cmpR op_eq (pe_ix (ixL (K := K)) (pv 4) (pv 5) (fun _ _ => rfl)) pe_str (nomark _))))) (pss_one (ps_set (i := 13) sc_law_works.nd rfl (by first | exact Or.inl rfl | exact Or.inr rfl) pe_int)) pss_nil)
      (pss_one (ps_expr (pe_bm PySem.F.plainAttrs_list PySem.F.slot_list_append PySem.F.type_list_append mt_append (pv 7) (pa_cons (pe_tup (pa_cons (pe_callO G_law_name (hr.mono (by decide)) T.g_law_name (pa_cons (pv 5) (pa_cons (pv 2) pa_nil))) (pa_cons (pe_ix (ixL (K := K)) (pv 4) (pv 5) (fun _ _ => rfl)) (pa_cons (pv 13) (pa_cons (pv 8) pa_nil))))) pa_nil)))))))))
      (pss_one (ps_ret (pv 7)))))))))), ?_⟩
  have hSq : ∀ {H'}, Same H H' → SqL K H' a (ns.map V.int) := fun s => s.seq hS
  -- mark, many
  refine ⟨_, rfl, a, ns, 1, rfl, hS, ?_⟩
  generalize cellAt ns 1 = mark
  refine ⟨_, rfl, a, ns, 0, rfl, hS, ?_⟩
  generalize cellAt ns 0 = c0
  have hr0 : 0 ≤ c0 % (most : Int) ∧ c0 % (most : Int) < most := ⟨Int.emod_nonneg _ (by omega), Int.emod_lt_of_pos _ (by omega)⟩
  refine ⟨_, rfl, _, _, rfl, rfl, (by omega : (0 : Int) < most), _, _, rfl, rfl, ?_⟩
  obtain ⟨many, hmany, hn2, hn3⟩ : ∃ many : Nat, 2 + c0 % (most : Int) = (many : Int) ∧ 2 ≤ many ∧ many ≤ most + 1 := ⟨(2 + c0 % (most : Int)).toNat, by omega, by omega, by omega⟩
  dsimp only
  rw [hmany]
  -- words
  refine ⟨(by show 1 ≤ sizeLine; decide), fun p0 hp0 => ?_⟩
  have s1 := Same.new (o := .lst [.str "in"]) hp0
  have e1 : upd H p0 (.lst [.str "in"]) p0 = _ := upd_same
  revert s1 e1
  generalize upd H p0 (HO.lst [.str "in"]) = H1
  intro s1 e1
  refine ⟨_, rfl, 1, (many : Int), rfl, ⟨by decide, by decide, by omega, by omega⟩, fun D hD => ?_⟩
  have hDH : H D = none := s1.free hD
  have hmt : (((many : Nat) : Int) - 1).toNat = many - 1 := by omega
  rw [hmt]
  refine lc_range (lo := 1) (n := many - 1) (fun j H' => ∃ kds : List Kd, kds.length = j ∧ (∀ k ∈ kds, k.fit) ∧ H' D = some (.lst (kds.map fun k => V.str k.word)) ∧ Same H1 H')
    ⟨[], rfl, fun x h => (by cases h), upd_same, Same.new hD⟩ ?_ ?_
  · rintro j H' hj ⟨kds, k1, k2, k3, s2⟩
    have s02 := s1.trans s2
    refine ⟨rfl, iteT (B := True) ?_⟩
    refine ⟨_, rfl, _, rfl, _, _, rfl, rfl, a, ns, 3 + j, vs2 (by omega), hSq s02, ?_⟩
    generalize cellAt ns (3 + j) = c1
    refine ⟨_, rfl, _, _, rfl, rfl, .inl ⟨by decide, by decide⟩, _, _, rfl, rfl, _, rfl, _, 1 + j, vs2 (by omega), by omega, fun kd H2 hkd s3 => ?_⟩
    refine ⟨_, s3 _ _ k3, ?_, kds ++ [kd], ?_, fun k hk => ?_, ?_, fun b o e => ?_⟩
    · rw [List.length_map]
      exact small1000 (by omega)
    · rw [List.length_append, k1] <;> rfl
    · rcases List.mem_append.mp hk with h | h
      · exact k2 k h
      · rw [List.mem_singleton.mp h]
        exact hkd
    · rw [upd_same, List.map_append] <;> rfl
    · rw [upd_ne (ne_of_none e hD)]
      exact s3 _ _ (s2 b o e)
  rintro H2 ⟨kd1, k1, k2, k3, s2⟩
  refine ⟨p0, D, _, _, rfl, rfl, s2 _ _ e1, k3, ?_, fun wq hwq => ?_⟩
  · rw [List.length_map]
    show 1 + _ ≤ sizeLine
    exact Nat.le_trans (by omega : 1 + kd1.length ≤ 1000) (by decide)
  have s02 := s1.trans s2
  have hwqH : H wq = none := s02.free hwq
  obtain ⟨kds0, hk0, hk1, hk2, hk3⟩ : ∃ kds : List Kd, kds = ⟨.src, 0⟩ :: kd1 ∧ kds.length = many ∧ KdsOk kds ∧ True := ⟨_, rfl, by rw [List.length_cons]; omega, ⟨⟨_, rfl, rfl⟩, fun kd h => by
    rcases List.mem_cons.mp h with h | h
    · rw [h]
      exact ⟨fun z => by (cases z), fun _ => rfl⟩
    · exact k2 kd h⟩, trivial⟩
  have e2 : upd H2 wq (.lst ([V.str "in"] ++ kd1.map fun k => V.str k.word)) wq = some (.lst (kds0.map fun k => V.str k.word)) := by rw [upd_same, hk0] <;> rfl
  have s03 := s02.trans (Same.new (o := .lst ([V.str "in"] ++ kd1.map fun k => V.str k.word)) hwq)
  clear hk0 k1 k2 k3 s02 s2 e1 s1
  revert e2 s03
  generalize upd H2 wq _ = H3
  intro e2 s03
  -- the last one
  refine ⟨fun σ H' => ∃ kds : List Kd, kds.length = many ∧ KdsOk kds ∧ σ = [some (.ref a), some (.int (most : Int)), some (.int mark), some (.int (many : Int)), some (.ref wq), none, none, none, none, none, none, none, none, none] ∧ Same H H' ∧ H' wq = some (.lst (kds.map fun k => V.str k.word)), ?_, ?_⟩
  · refine ⟨_, rfl, _, _, rfl, rfl, (by decide : (0 : Int) < 6), _, _, rfl, rfl, _, rfl, ?_⟩
    refine ite2 (fun h1 => ?_) (fun h1 => ?_)
    · refine ⟨_, rfl, _, rfl, _, _, rfl, rfl, wq, _, _, many - 1, rfl, rfl, e2, ?_, ?_⟩
      · rw [List.length_map, hk1, show ((many : Int) - 1) = ((many - 1 : Nat) : Int) by omega]
        exact ixN_nat (by omega)
      · refine ⟨kds0.set (many - 1) ⟨.snk, 0⟩, by rw [List.length_set]; exact hk1, ⟨?_, fun kd h => ?_⟩, rfl, fun b o e => ?_, ?_⟩
        · obtain ⟨r, hr1, hr2⟩ := hk2.first
          exact ⟨r, by rw [List.getElem?_set_ne (by omega)]; exact hr1, hr2⟩
        · rcases List.mem_or_eq_of_mem_set h with h | h
          · exact hk2.ok kd h
          · rw [h]
            exact ⟨fun z => by (cases z), fun _ => rfl⟩
        · rw [upd_ne (ne_of_none e hwqH)]
          exact s03 b o e
        · rw [upd_same, List.map_set] <;> rfl
    · exact ⟨kds0, hk1, hk2, rfl, s03, e2⟩
  clear hk1 hk2 hk3 e2 s03 kds0
  rintro σ H4 ⟨kds, hk1, hk2, rfl, s04, e4⟩
  have kat : ∀ k, k < many → ∃ kd, kds[k]? = some kd ∧ kd.ok ∧ atI (kds.map fun k => V.str k.word) (k : Int) = some (.str kd.word) := fun k hk => by
    have h1 : kds[k]? = some kds[k] := List.getElem?_eq_getElem (by omega)
    exact ⟨_, h1, (hk2.ok _ (List.mem_of_getElem? h1)).1, atI_nat (by rw [List.getElem?_map, h1] <;> rfl)⟩
  -- whence lines come
  refine ⟨_, rfl, (many : Int), rfl, by omega, by omega, fun fq hfq => ?_⟩
  have hfqH : H fq = none := s04.free hfq
  have hnt : ((many : Nat) : Int).toNat = many := rfl
  rw [hnt]
  refine lc_range (lo := 0) (n := many) (fun j H' => H' fq = some (.lst ((fromsOf kds j).map fun (k : Nat) => V.int (k : Int))) ∧ Same H4 H')
    ⟨upd_same, Same.new hfq⟩ ?_ ?_
  · rintro j H' hj ⟨e5, s5⟩
    refine ⟨rfl, ?_⟩
    obtain ⟨kd, hkd, hok, hat⟩ := kat j hj
    have ej : (0 : Int) + (j : Int) = (j : Int) := by omega
    rw [ej]
    refine ⟨_, rfl, _, rfl, wq, _, _, _, rfl, rfl, SqL.of (s5 _ _ e4), hat, rfl, _, rfl, ?_⟩
    rw [dstr]
    have ew : decide (tl kd.word = tl ("out" : Str)) = decide (kd.c = .snk) := by
      refine decide_eq_decide.mpr ⟨fun h => (isEnd_word kd).2.mp (ext_tl h), fun h => by rw [(isEnd_word kd).2.mpr h]⟩
    rw [ew]
    have en : notSnk kds j = !decide (kd.c = .snk) := by unfold notSnk; rw [hkd]
    rw [← en, froms_succ]
    refine ite2 (fun h1 => ?_) (fun h1 => ?_)
    · refine ⟨_, rfl, _, e5, ?_, ?_, fun b o e => ?_⟩
      · rw [List.length_map]
        exact small1000 (by have := froms_le kds j; omega)
      · rw [upd_same, if_pos h1, List.map_append] <;> rfl
      · rw [upd_ne (ne_of_none e hfq)]
        exact s5 b o e
    · rw [if_neg h1, List.append_nil]
      exact ⟨e5, s5⟩
  rintro H5 ⟨e5, s5⟩
  have s05 := s04.trans s5
  have e4 := s5 _ _ e4
  -- the parts
  refine ⟨Nat.zero_le _, fun pq hpq => ?_⟩
  have hpqH : H pq = none := s05.free hpq
  have g6 := ((Grow.refl sg).same s05).temp (o := .lst []) hpq
  have hwp : wq ≠ pq := ne_of_none e4 hpq
  have hfp : fq ≠ pq := ne_of_none e5 hpq
  have e4 := Same.new (o := .lst []) hpq _ _ e4
  have e5 := Same.new (o := .lst []) hpq _ _ e5
  have e6 : upd H5 pq (.lst []) pq = _ := upd_same
  clear s04 s5 s05
  revert g6 e4 e5 e6
  generalize upd H5 pq (HO.lst []) = H6
  intro g6 e4 e5 e6
  refine ⟨_, rfl, (many : Int), rfl, by omega, by omega, ?_⟩
  rw [hnt]
  have hGp : G pq = none := sg.free hpqH
  refine for_range (lo := 0) (n := many) (fun k σ H' => ∃ v5 v8 v9 v10 v11 v12 v13 G' vs ls, σ = [some (.ref a), some (.int (most : Int)), some (.int mark), some (.int (many : Int)), some (.ref wq), v5, some (.ref fq), some (.ref pq), v8, v9, v10, v11, v12, v13] ∧ Grow G H G' H' ∧
      H' wq = some (.lst (kds.map fun k => V.str k.word)) ∧ H' fq = some (.lst ((fromsOf kds many).map fun (k : Nat) => V.int (k : Int))) ∧ H' pq = some (.lst vs) ∧ G' pq = none ∧ All2 (LpAt G') vs ls ∧ ls.length = k ∧ ∀ j p, ls[j]? = some p → LpOk mark kds j p)
    ⟨none, none, none, none, none, none, none, G, [], [], rfl, g6, e4, e5, e6, hGp, All2.nil, rfl, fun j p h => by simp at h⟩ ?_ ?_
  rotate_left
  · rintro σ H7 ⟨v5, v8, v9, v10, v11, v12, v13, G7, vs, ls, rfl, g7, w7, f7, e7, p7, hA, hl, hls⟩
    have g8 := g7.keep hpqH p7 e7
    have ekd : ls.map Lp.kd = kds := by
      refine List.ext_getElem? fun i => ?_
      rw [List.getElem?_map]
      cases e : ls[i]? with
      | none =>
        have : kds.length ≤ i := by rw [hk1, ← hl]; exact List.getElem?_eq_none_iff.mp e
        rw [List.getElem?_eq_none this]
        rfl
      | some p => exact (hls i p e).kd.symm
    exact ⟨_, rfl, q pq mark ls _ _ g8 hpqH ⟨vs, upd_same, hA.mono fun _ _ z => z.mono (Same.new p7)⟩ ⟨by omega, by omega, by rw [ekd]; exact hk2, fun j p h => by rw [ekd]; exact hls j p h⟩⟩
  rintro k σ H7 hk ⟨v5, v8, v9, v10, v11, v12, v13, G7, vs, ls, rfl, g7, w7, f7, e7, p7, hA, hl, hls⟩
  have ek : (0 : Int) + (k : Int) = (k : Int) := by omega
  rw [ek]
  obtain ⟨kd, hkd, hok, hat⟩ := kat k hk
  refine ⟨Nat.zero_le _, fun eq heq => ?_⟩
  have heqH : H eq = none := g7.hh.free heq
  have g8 := g7.temp (o := .lst []) heq
  have w8 := Same.new (o := .lst []) heq _ _ w7
  have f8 := Same.new (o := .lst []) heq _ _ f7
  have e8 := Same.new (o := .lst []) heq _ _ e7
  have q8 : upd H7 eq (.lst []) eq = _ := upd_same
  have z7 : G7 eq = none := g7.gh.free heq
  have hwe : wq ≠ eq := ne_of_none w7 heq
  have hfe : fq ≠ eq := ne_of_none f7 heq
  clear g7 w7 f7
  revert g8 w8 f8 e8 q8
  generalize upd H7 eq (HO.lst []) = H8
  intro g8 w8 f8 e8 q8
  have hep : eq ≠ pq := (ne_of_none e7 heq).symm
  clear heq e7
  refine ⟨_, rfl, _, rfl, wq, _, _, _, rfl, rfl, SqL.of w8, hat, kd, rfl, hok, _, rfl, by have := lines_le kd.c; omega, by have := lines_le kd.c; omega, ?_⟩
  have hlt : ((kd.c.lines : Nat) : Int).toNat = kd.c.lines := rfl
  rw [hlt]
  refine for_range (lo := 0) (n := kd.c.lines) (fun j σ H' => ∃ v9 v10 v11 v12 G' us fs, σ = [some (.ref a), some (.int (most : Int)), some (.int mark), some (.int (many : Int)), some (.ref wq), some (.int (k : Int)), some (.ref fq), some (.ref pq), some (.ref eq), v9, v10, v11, v12, v13] ∧ Grow G H G' H' ∧
      H' wq = some (.lst (kds.map fun k => V.str k.word)) ∧ H' fq = some (.lst ((fromsOf kds many).map fun (k : Nat) => V.int (k : Int))) ∧ H' pq = some (.lst vs) ∧ G' pq = none ∧ H' eq = some (.lst us) ∧ G' eq = none ∧ All2 (LpAt G') vs ls ∧ All2 (PairAt G') us fs ∧ fs.length = j ∧ ∀ f ∈ fs, FdOk kds k f)
    ⟨v9, v10, v11, v12, G7, [], [], rfl, g8, w8, f8, e8, p7, q8, z7, hA, All2.nil, rfl, fun f h => by cases h⟩ ?_ ?_
  · clear g8 w8 f8 e8 p7 q8 z7 hA v9 v10 v11 v12
    rintro j σ H9 hj ⟨v9, v10, v11, v12, G9, us, fs, rfl, g9, w9, f9, e9, p9, q9, z9, hA, hB, hfl, hfs⟩
    have ej : (0 : Int) + (j : Int) = (j : Int) := by omega
    rw [ej]
    have hj3 : j < 3 := Nat.lt_of_lt_of_le hj (lines_le kd.c)
    refine ⟨_, rfl, _, rfl, _, _, rfl, rfl, a, ns, 2 + k, vs2 (by omega), hSq g9.hh, ?_⟩
    generalize cellAt ns (2 + k) = c1
    refine ⟨_, rfl, _, _, rfl, rfl, .inl ⟨by decide, by decide⟩, _, _, rfl, rfl, _, rfl, _, _, rfl, rfl, .inl ⟨by decide, by decide⟩, _, _, rfl, rfl, ?_⟩
    dsimp only
    generalize c1 + 977 * (k : Int) + 7919 * (j : Int) = cell
    have hfp := froms_pos hk2 (show 0 < many by omega)
    refine ⟨_, rfl, _, rfl, _, rfl, fq, _, rfl, .inl (SqL.of f9), cell, 3, ((fromsOf kds many).length : Int), by rw [List.length_map] <;> rfl, by decide, by omega, fun H10 s10 => ?_⟩
    have x0 := draw_lo cell 3 (m := ((fromsOf kds many).length : Int)) (by omega)
    have x1 := draw_hi cell 3 (m := ((fromsOf kds many).length : Int)) (by omega)
    generalize draw cell 3 ((fromsOf kds many).length : Int) = x at x0 x1
    obtain ⟨i, rfl⟩ := Int.eq_ofNat_of_zero_le x0
    obtain ⟨place, hpl⟩ : ∃ place, (fromsOf kds many)[i]? = some place := ⟨_, List.getElem?_eq_getElem (by omega)⟩
    have hplr := froms_ok (List.mem_of_getElem? hpl)
    refine ⟨fq, _, _, V.int (place : Int), rfl, rfl, SqL.of (s10 _ _ f9), atI_nat (by rw [List.getElem?_map, hpl] <;> rfl), ?_⟩
    have g10 := g9.same s10
    have w10 := s10 _ _ w9
    have f10 := s10 _ _ f9
    have e10 := s10 _ _ e9
    have q10 := s10 _ _ q9
    clear g9 w9 f9 e9 q9 s10
    -- held
    refine ⟨fun σ H' => ∃ held : Int, FdOk kds k (place, held) ∧ σ = [some (.ref a), some (.int (most : Int)), some (.int mark), some (.int (many : Int)), some (.ref wq), some (.int (k : Int)), some (.ref fq), some (.ref pq), some (.ref eq), some (.int (j : Int)), some (.int cell), some (.int (place : Int)), some (.int held), v13] ∧ Same H10 H', ?_, ?_⟩
    · refine ⟨_, rfl, _, rfl, _, _, rfl, rfl, _, rfl, ?_⟩
      refine ite2 (fun h1 => ?_) (fun h1 => ?_)
      · have h1 := of_decide_eq_true h1
        refine ⟨(by show 6 ≤ sizeLine; decide), fun t ht => ?_⟩
        refine ⟨_, rfl, cell, 4, 6, rfl, by decide, by decide, fun H11 s11 => ?_⟩
        have y0 := draw_lo cell 4 (show (0 : Int) < 6 by decide)
        have y1 := draw_hi cell 4 (show (0 : Int) < 6 by decide)
        generalize draw cell 4 6 = y at y0 y1
        obtain ⟨m, rfl⟩ := Int.eq_ofNat_of_zero_le y0
        obtain ⟨held, hh, hh0, hh1⟩ : ∃ held : Int, ([0, 0, 0, 1, 1, 2] : List Int)[m]? = some held ∧ 0 ≤ held ∧ held ≤ 2 := by
          have : ∀ m < 6, ∃ held : Int, ([0, 0, 0, 1, 1, 2] : List Int)[m]? = some held ∧ 0 ≤ held ∧ held ≤ 2 := by
            intro m hm
            match m, hm with
            | 0, _ => exact ⟨0, rfl, by decide, by decide⟩
            | 1, _ => exact ⟨0, rfl, by decide, by decide⟩
            | 2, _ => exact ⟨0, rfl, by decide, by decide⟩
            | 3, _ => exact ⟨1, rfl, by decide, by decide⟩
            | 4, _ => exact ⟨1, rfl, by decide, by decide⟩
            | 5, _ => exact ⟨2, rfl, by decide, by decide⟩
          exact this m (by omega)
        refine ⟨t, ([0, 0, 0, 1, 1, 2] : List Int).map V.int, _, .int held, rfl, rfl, SqT.of (s11 _ _ upd_same), atI_nat (by rw [List.getElem?_map, hh] <;> rfl), ?_⟩
        exact ⟨held, ⟨hplr, hh0, by show held ≤ 3; omega, fun z => by omega⟩, rfl, (Same.new ht).trans s11⟩
      · refine ⟨_, rfl, cell, 5, 3, rfl, by decide, by decide, fun H11 s11 => ?_⟩
        have y0 := draw_lo cell 5 (show (0 : Int) < 3 by decide)
        have y1 := draw_hi cell 5 (show (0 : Int) < 3 by decide)
        generalize draw cell 5 3 = y at y0 y1
        refine ⟨_, _, rfl, rfl, ⟨by decide, by decide⟩, _, _, rfl, rfl, ?_⟩
        exact ⟨1 + y / 2, ⟨hplr, by show 0 ≤ 1 + y / 2; omega, by show 1 + y / 2 ≤ 3; omega, fun _ => by show 1 ≤ 1 + y / 2; omega⟩, rfl, s11⟩
    rintro σ H11 ⟨held, hfd, rfl, s11⟩
    have g11 := g10.same s11
    have w11 := s11 _ _ w10
    have f11 := s11 _ _ f10
    have e11 := s11 _ _ e10
    have q11 := s11 _ _ q10
    clear g10 w10 f10 e10 q10 s11
    refine ⟨_, rfl, .inl ⟨rfl, _, SqL.of q11⟩, _, rfl, _, rfl, (by show 2 ≤ sizeLine; decide), fun t ht => ?_⟩
    have het : eq ≠ t := ne_of_none q11 ht
    refine ⟨eq, us, _, rfl, rfl, by rw [upd_ne het]; exact q11, by rw [hB.1]; exact small1000 (by omega), ?_⟩
    have hpt : pq ≠ t := ne_of_none e11 ht
    refine ⟨_, _, _, _, upd G9 t (.tup [.int (place : Int), .int held]), _, fs ++ [(place, held)], rfl, (g11.new ht).mut heqH (by rw [upd_ne het]; exact z9), ?_, ?_, ?_, by rw [upd_ne hpt]; exact p9, upd_same, by rw [upd_ne het]; exact z9,
      hA.mono fun _ _ z => z.mono (Same.new (g11.gh.free ht)), (hB.mono fun _ _ z => z.mono (Same.new (g11.gh.free ht))).push ⟨t, rfl, upd_same⟩, by rw [List.length_append, hfl] <;> rfl, fun f hf => ?_⟩
    · rw [upd_ne hwe, upd_ne (ne_of_none w11 ht)]
      exact w11
    · rw [upd_ne hfe, upd_ne (ne_of_none f11 ht)]
      exact f11
    · rw [upd_ne hep.symm, upd_ne hpt]
      exact e11
    · rcases List.mem_append.mp hf with h | h
      · exact hfs f h
      · rw [List.mem_singleton.mp h]
        exact hfd
  · clear g8 w8 f8 e8 p7 q8 z7 hA v9 v10 v11 v12
    rintro σ H9 ⟨v9, v10, v11, v12, G9, us, fs, rfl, g9, w9, f9, e9, p9, q9, z9, hA, hB, hfl, hfs⟩
    refine ⟨(by show 8 ≤ sizeLine; decide), fun t ht => ?_⟩
    have s10 : Same H9 (upd H9 t (.tup (([0, 1, 2, 3, 5, 1, 7, 40] : List Int).map V.int))) := Same.new ht
    refine ⟨_, rfl, _, rfl, _, _, rfl, rfl, a, ns, 2 + k, vs2 (by omega), hSq (g9.hh.trans s10), ?_⟩
    generalize cellAt ns (2 + k) = c1
    refine ⟨_, rfl, _, _, rfl, rfl, .inl ⟨by decide, by decide⟩, _, _, rfl, rfl, c1 + 977 * (k : Int), 6, 8, rfl, by decide, by decide, fun H11 s11 => ?_⟩
    have y0 := draw_lo (c1 + 977 * (k : Int)) 6 (show (0 : Int) < 8 by decide)
    have y1 := draw_hi (c1 + 977 * (k : Int)) 6 (show (0 : Int) < 8 by decide)
    generalize draw (c1 + 977 * (k : Int)) 6 8 = y at y0 y1
    obtain ⟨m, rfl⟩ := Int.eq_ofNat_of_zero_le y0
    obtain ⟨time, hh, hh0, hh1⟩ : ∃ time : Int, ([0, 1, 2, 3, 5, 1, 7, 40] : List Int)[m]? = some time ∧ 0 ≤ time ∧ time ≤ 40 := by
      have : ∀ m < 8, ∃ time : Int, ([0, 1, 2, 3, 5, 1, 7, 40] : List Int)[m]? = some time ∧ 0 ≤ time ∧ time ≤ 40 := by
        intro m hm
        match m, hm with
        | 0, _ => exact ⟨0, rfl, by decide, by decide⟩
        | 1, _ => exact ⟨1, rfl, by decide, by decide⟩
        | 2, _ => exact ⟨2, rfl, by decide, by decide⟩
        | 3, _ => exact ⟨3, rfl, by decide, by decide⟩
        | 4, _ => exact ⟨5, rfl, by decide, by decide⟩
        | 5, _ => exact ⟨1, rfl, by decide, by decide⟩
        | 6, _ => exact ⟨7, rfl, by decide, by decide⟩
        | 7, _ => exact ⟨40, rfl, by decide, by decide⟩
      exact this m (by omega)
    refine ⟨t, ([0, 1, 2, 3, 5, 1, 7, 40] : List Int).map V.int, _, .int time, rfl, rfl, SqT.of (s11 _ _ upd_same), atI_nat (by rw [List.getElem?_map, hh] <;> rfl), ?_⟩
    have s9 := s10.trans s11
    have g10 := g9.same s9
    have w10 := s9 _ _ w9
    have f10 := s9 _ _ f9
    have e10 := s9 _ _ e9
    have q10 := s9 _ _ q9
    clear g9 w9 f9 e9 q9 s10 s11 s9
    have asIn : decide (tl kd.word = tl ("in" : Str)) = decide (kd.c = .src) := decide_eq_decide.mpr ⟨fun h => (isEnd_word kd).1.mp (ext_tl h), fun h => by rw [(isEnd_word kd).1.mpr h]⟩
    have asOut : decide (tl kd.word = tl ("out" : Str)) = decide (kd.c = .snk) := decide_eq_decide.mpr ⟨fun h => (isEnd_word kd).2.mp (ext_tl h), fun h => by rw [(isEnd_word kd).2.mpr h]⟩
    refine ⟨fun σ H' => ∃ time : Int, 0 ≤ time ∧ time ≤ 40 ∧ (kd.c = .src ∨ kd.c = .snk → time = 0) ∧ σ = [some (.ref a), some (.int (most : Int)), some (.int mark), some (.int (many : Int)), some (.ref wq), some (.int (k : Int)), some (.ref fq), some (.ref pq), some (.ref eq), v9, v10, v11, v12, some (.int time)] ∧ H' = H11, ?_, ?_⟩
    · refine ⟨_, rfl, _, rfl, wq, _, _, _, rfl, rfl, SqL.of w10, hat, rfl, _, rfl, ?_⟩
      rw [dstr, asIn]
      refine ite2 (fun h1 => ?_) (fun h1 => ?_)
      · exact iteT ⟨0, by decide, by decide, fun _ => rfl, rfl, rfl⟩
      · refine ⟨_, rfl, _, rfl, wq, _, _, _, rfl, rfl, SqL.of w10, hat, rfl, _, rfl, ?_⟩
        rw [dstr, asOut]
        refine ite2 (fun h2 => ?_) (fun h2 => ?_)
        · exact ⟨0, by decide, by decide, fun _ => rfl, rfl, rfl⟩
        · exact ⟨time, hh0, hh1, fun z => absurd z (by rintro (z | z); exact h1 (decide_eq_true z); exact h2 (decide_eq_true z)), rfl, rfl⟩
    rintro σ _ ⟨time, ht0, ht1, ht2, rfl, rfl⟩
    refine ⟨_, rfl, .inl ⟨rfl, _, SqL.of e10⟩, _, rfl, _, rfl, k, mark, rfl, by omega, _, rfl, _, rfl, wq, _, _, _, rfl, rfl, SqL.of w10, hat, _, rfl, _, rfl, (by show 4 ≤ sizeLine; decide), fun t ht => ?_⟩
    have hpt : pq ≠ t := ne_of_none e10 ht
    have het : eq ≠ t := ne_of_none q10 ht
    refine ⟨pq, vs, _, rfl, rfl, by rw [upd_ne hpt]; exact e10, by rw [hA.1, hl]; exact small1000 (by omega), ?_⟩
    have g11 := g10.keep heqH z9 q10
    have gs : Same G9 (upd (upd G9 eq (.lst us)) t (.tup [.str (lawName k mark), .str kd.word, .int time, .ref eq])) := (Same.new z9).trans (Same.new (g11.gh.free ht))
    have hgp : (upd (upd G9 eq (.lst us)) t (.tup [.str (lawName k mark), .str kd.word, .int time, .ref eq])) pq = none := by rw [upd_ne hpt, upd_ne hep.symm]; exact p9
    have hwp : wq ≠ pq := hwp
    have hfp : fq ≠ pq := hfp
    refine ⟨_, _, _, _, _, _, _, upd (upd G9 eq (.lst us)) t (.tup [.str (lawName k mark), .str kd.word, .int time, .ref eq]), _, ls ++ [⟨lawName k mark, kd, time, fs⟩], rfl, (g11.new ht).mut hpqH hgp, ?_, ?_, upd_same, hgp,
      (hA.mono fun _ _ z => z.mono gs).push ⟨t, eq, us, rfl, upd_same, by rw [upd_ne het, upd_same], hB.mono fun _ _ z => z.mono gs⟩, by rw [List.length_append, hl] <;> rfl, fun j p hj => ?_⟩
    · rw [upd_ne hwp, upd_ne (ne_of_none w10 ht)]
      exact w10
    · rw [upd_ne hfp, upd_ne (ne_of_none f10 ht)]
      exact f10
    · by_cases hjl : j < ls.length
      · rw [List.getElem?_append_left hjl] at hj
        exact hls j p hj
      · have hjk : j = k := by
          have := lt_of_get hj
          rw [List.length_append, List.length_singleton] at this
          omega
        subst hjk
        rw [List.getElem?_append_right (by omega), hl, Nat.sub_self] at hj
        cases hj
        exact ⟨rfl, hkd, ht0, ht1, ht2, hfl, hfs⟩
end
end SW


/-! ### rows: words joined and told again -/
namespace SW
open PySem PySem.Spec PyProof.Rows L2 He TL
theorem spl1_hit (s : Nat) (acc r : List Nat) : spl [s] 0 acc (s :: r) = acc :: spl [s] 0 [] r := spl_hit (pre_self [s] r)
theorem spl1_miss {s c : Nat} (acc r : List Nat) (h : c ≠ s) : spl [s] 0 acc (c :: r) = spl [s] 0 (acc ++ [c]) r := spl_miss (pre_of_head [] r h)
def fw (acc L : List Nat) : List (List Nat) := (spl [32] 0 acc L).filter fun p => !decide (p = [])
theorem fw_word : ∀ (w acc r : List Nat), 32 ∉ w → fw acc (w ++ r) = fw (acc ++ w) r
  | [], acc, r, _ => by rw [List.nil_append, List.append_nil]
  | c :: w, acc, r, h => by
    rw [List.mem_cons, not_or] at h
    unfold fw
    rw [List.cons_append, spl1_miss _ _ (Ne.symm h.1)]
    have := fw_word w (acc ++ [c]) r h.2
    unfold fw at this
    rw [this, List.append_assoc] <;> rfl
theorem fw_blank0 (r : List Nat) : fw [] (32 :: r) = fw [] r := by
  unfold fw
  rw [spl1_hit] <;> rfl
theorem fw_blank {acc : List Nat} (r : List Nat) (h : acc ≠ []) : fw acc (32 :: r) = acc :: fw [] r := by
  unfold fw
  rw [spl1_hit, List.filter_cons_of_pos (by simpa using h)]
theorem fw_blanks (n : Nat) (r : List Nat) : fw [] (List.replicate n 32 ++ r) = fw [] r := by
  induction n with
  | zero => rfl
  | succ n ih => rw [List.replicate_succ, List.cons_append, fw_blank0, ih]
theorem fw_nil : fw [] [] = [] := rfl
theorem fw_gap {acc : List Nat} (n : Nat) (r : List Nat) (h : acc ≠ []) : fw acc (List.replicate (n + 1) 32 ++ r) = acc :: fw [] r := by
  rw [List.replicate_succ, List.cons_append, fw_blank _ h, fw_blanks]
theorem fw_tail {acc : List Nat} (n : Nat) (h : acc ≠ []) : fw acc (List.replicate n 32) = [acc] := by
  cases n with
  | zero =>
    unfold fw
    rw [List.replicate_zero, spl_nil, List.filter_cons_of_pos (by simpa using h)] <;> rfl
  | succ n =>
    have := fw_gap n [] h
    rw [List.append_nil] at this
    rw [this]
    rfl
theorem fw_join (g t : Nat) : ∀ {ws : List (List Nat)}, ws ≠ [] → (∀ w ∈ ws, w ≠ [] ∧ 32 ∉ w) → fw [] (joinL (List.replicate (g + 1) 32) ws ++ List.replicate t 32) = ws
  | [], h, _ => absurd rfl h
  | [w], _, h => by
    obtain ⟨h1, h2⟩ := h w (List.mem_cons_self ..)
    show fw [] (w ++ _) = _
    rw [fw_word _ _ _ h2, List.nil_append, fw_tail _ h1]
  | p :: q :: r, _, h => by
    obtain ⟨h1, h2⟩ := h p (List.mem_cons_self ..)
    show fw [] ((p ++ (List.replicate (g + 1) 32 ++ joinL (List.replicate (g + 1) 32) (q :: r))) ++ _) = _
    rw [List.append_assoc, List.append_assoc, fw_word _ _ _ h2, List.nil_append, fw_gap _ _ h1, fw_join g t (by simp) fun w hw => h w (List.mem_cons_of_mem _ hw)]
theorem tl_blank : tl (" " : Str) = [32] := by decide +kernel
theorem tl_nl : tl ("\n" : Str) = [10] := by decide +kernel
theorem blank_kind : (" " : Str).cps.all (· < 256) = true := by decide +kernel
theorem nl_kind : ("\n" : Str).cps.all (· < 256) = true := by decide +kernel
theorem wordsOf_tl (row : Str) : (wordsOf row).map tl = fw [] (tl row) := by
  unfold wordsOf fw
  have h := split_spl row " " (by rw [tl_blank]; simp) (kind_ok blank_kind)
  rw [tl_blank] at h
  rw [← h, List.filter_map] <;> rfl
theorem words_of_row {row : Str} {a g t : Nat} {ws : List Str} (e : tl row = List.replicate a 32 ++ (joinL (List.replicate (g + 1) 32) (ws.map tl) ++ List.replicate t 32)) (hn : ws ≠ []) (h : ∀ w ∈ ws, tl w ≠ [] ∧ 32 ∉ tl w) : wordsOf row = ws := by
  refine map_tl_inj ?_
  rw [wordsOf_tl, e, fw_blanks, fw_join g t (fun z => hn (List.map_eq_nil_iff.mp z)) fun w hw => by
    obtain ⟨z, hz, rfl⟩ := List.mem_map.mp hw
    exact h z hz]
theorem words_blank {row : Str} {a : Nat} (e : tl row = List.replicate a 32) : wordsOf row = [] := by
  refine map_tl_inj ?_
  rw [wordsOf_tl, e]
  have := fw_blanks a []
  rw [List.append_nil] at this
  rw [this] <;> rfl
theorem spl1_len (s : Nat) : ∀ (L acc : List Nat), (spl [s] 0 acc L).length ≤ L.length + 1 ∧ ∀ p ∈ spl [s] 0 acc L, p.length ≤ acc.length + L.length
  | [], acc => by
    rw [spl_nil]
    exact ⟨Nat.le_refl _, fun p h => by rw [List.mem_singleton.mp h]; exact Nat.le_refl _⟩
  | c :: r, acc => by
    by_cases h : c = s
    · subst h
      obtain ⟨h1, h2⟩ := spl1_len c r []
      rw [spl1_hit]
      refine ⟨by rw [List.length_cons, List.length_cons]; omega, fun p hp => ?_⟩
      rcases List.mem_cons.mp hp with e | e
      · rw [e]
        omega
      · have := h2 p e
        rw [List.length_cons]
        simp only [List.length_nil] at this
        omega
    · obtain ⟨h1, h2⟩ := spl1_len s r (acc ++ [c])
      rw [spl1_miss _ _ h]
      refine ⟨by rw [List.length_cons]; omega, fun p hp => ?_⟩
      have := h2 p hp
      rw [List.length_append, List.length_singleton] at this
      rw [List.length_cons]
      omega
theorem split_small {row : Str} (h : row.length ≤ 600) : (Txt.split row " ").length ≤ 1000 ∧ ∀ z ∈ Txt.split row " ", z.length ≤ 100000 := by
  have e := split_spl row " " (by rw [tl_blank]; simp) (kind_ok blank_kind)
  rw [tl_blank] at e
  obtain ⟨h1, h2⟩ := spl1_len 32 (tl row) []
  rw [len_tl] at h
  refine ⟨?_, fun z hz => ?_⟩
  · have := congrArg List.length e
    rw [List.length_map] at this
    omega
  · have := h2 (tl z) (by rw [← e]; exact List.mem_map.mpr ⟨z, hz, rfl⟩)
    rw [← len_tl] at this
    simp only [List.length_nil] at this
    omega

/-! a part's words -/
theorem kindBy_plain : ∀ c ∈ ([.src, .snk, .both, .either, .odd, .plus, .pick] : List Kc), kindBy (Kd.word ⟨c, 0⟩) = some ⟨c, 0⟩ := by decide +kernel
theorem kindBy_counted : ∀ c ∈ ([.up, .down] : List Kc), ∀ ct < 64, 1 ≤ ct → kindBy (Kd.word ⟨c, ((ct : Nat) : Int)⟩) = some ⟨c, ((ct : Nat) : Int)⟩ := by decide +kernel
theorem kindBy_fit {k : Kd} (h : k.fit) : kindBy k.word = some k := by
  obtain ⟨c, n⟩ := k
  cases hc : c.cnt with
  | false =>
    have : n = 0 := h.2 hc
    subst this
    exact kindBy_plain c (by revert hc; cases c <;> decide)
  | true =>
    obtain ⟨h1, h2⟩ := h.1 hc
    obtain ⟨ct, rfl⟩ := Int.eq_ofNat_of_zero_le (show 0 ≤ n by have : 1 ≤ n := h1; omega)
    have h1 : (1 : Int) ≤ (ct : Int) := h1
    have h2 : (ct : Int) ≤ 63 := h2
    exact kindBy_counted c (by revert hc; cases c <;> decide) ct (by omega) (by omega)
theorem name_free {z : Str} (h : goodName (tl z) = true) {s : Nat} (hs : nameSign s = false) : s ∉ tl z := fun hm => by
  unfold goodName at h
  rw [Bool.and_eq_true] at h
  have := List.all_eq_true.mp h.2 s hm
  rw [hs] at this
  cases this
theorem name_ne {z : Str} (h : goodName (tl z) = true) : tl z ≠ [] := fun e => by
  unfold goodName at h
  rw [e] at h
  cases h
theorem feedOf_name {z : Str} (h : goodName (tl z) = true) : feedOf z = some (z, 0) := by
  have hp : Txt.partition z "/" = (z, Str.empty, Str.empty) := partition_none tl_slash (name_free h (by decide))
  unfold feedOf
  rw [hp]
  rw [if_neg (by rw [h]; simp), if_pos (show tl Str.empty = [] by decide +kernel)]
theorem feedOf_num {z f : Str} {n : Nat} (h : goodName (tl z) = true) (e : tl f = numL n) (hn : n ≤ 100) : feedOf ((z ++ ("/" : Str)) ++ f) = some (z, (n : Int)) := by
  have hp : Txt.partition ((z ++ ("/" : Str)) ++ f) "/" = (z, ("/" : Str), f) := partition_app tl_slash (name_free h (by decide))
  unfold feedOf
  rw [hp]
  dsimp only
  rw [if_neg (by rw [h]; simp), if_neg (by rw [tl_slash]; simp), e, numIn_num (by omega) (by omega), if_neg (by omega)]
theorem feedOf_text {f : Str × Int} (h : goodName (tl f.1) = true) (h0 : 0 ≤ f.2) (h1 : f.2 ≤ 100) : feedOf (feedText f) = some f := by
  obtain ⟨z, n⟩ := f
  unfold feedText
  split
  · rename_i e
    have e : n = 0 := e
    subst e
    exact feedOf_name h
  · obtain ⟨m, rfl⟩ := Int.eq_ofNat_of_zero_le (show 0 ≤ n from h0)
    have h1 : (m : Int) ≤ 100 := h1
    exact feedOf_num h (tl_num m) (by omega)
theorem filterMap_some {α : Type} : ∀ l : List α, (l.map some).filterMap id = l
  | [] => rfl
  | x :: l => by
    rw [List.map_cons, List.filterMap_cons]
    show x :: _ = _
    rw [filterMap_some l]
theorem partOf_words {p : Pd} {fs : List Str} (hn : goodName (tl p.name) = true) (hk : p.kd.fit) (h0 : 0 ≤ p.time) (h1 : p.time ≤ 1000) (hf : fs.map feedOf = p.feeds.map some) (hl : p.feeds.length = p.kd.c.lines)
    (he : p.kd.c = .src ∨ p.kd.c = .snk → p.time = 0) : partOf (p.name :: p.kd.word :: Str.ofString (toString p.time) :: fs) = some p := by
  obtain ⟨name, kd, time, feeds⟩ := p
  obtain ⟨m, rfl⟩ := Int.eq_ofNat_of_zero_le (show 0 ≤ time from h0)
  have h1 : (m : Int) ≤ 1000 := h1
  have hnum : numIn (tl (Str.ofString (toString (m : Int)))) 1000 = (m : Int) := by rw [tl_num]; exact numIn_num (by omega) (by omega)
  have hfl : fs.length = kd.c.lines := by
    have := congrArg List.length hf
    rw [List.length_map, List.length_map] at this
    exact this.trans hl
  unfold partOf
  dsimp only
  rw [if_neg (by rw [show goodName (tl name) = true from hn]; simp)]
  rw [kindBy_fit hk]
  dsimp only
  rw [hnum, hf, if_neg (by rintro (z | z); omega; exact z hfl), if_neg, filterMap_some]
  rintro (z | ⟨z, z2⟩)
  · obtain ⟨f, _, e⟩ := List.mem_map.mp z
    cases e
  · have : (m : Int) = 0 := he (by simpa using z)
    omega
end SW


/-! ### texts that tell a works -/
namespace SW
open PySem PySem.Spec PyProof.Rows L2 He TL
structure Good (ps : List Pd) : Prop where
  wf : Wf ps
  ne : ps ≠ []
  fit : ∀ p ∈ ps, p.kd.fit
  time : ∀ p ∈ ps, 0 ≤ p.time ∧ p.time ≤ 1000 ∧ (p.kd.c = .src ∨ p.kd.c = .snk → p.time = 0)
  held : ∀ p ∈ ps, ∀ f ∈ p.feeds, 0 ≤ f.2 ∧ f.2 ≤ 100
  fed : ∀ p ∈ ps, ∀ f ∈ p.feeds, ∃ r ∈ ps, r.name = f.1 ∧ r.kd.c ≠ .snk
theorem Good.tell {ps : List Pd} (h : Good ps) : Tell ps := fun p hp => ⟨⟨(h.time p hp).1, by have := (h.time p hp).2.1; omega⟩, fun f hf => ⟨(h.held p hp f hf).1, by have := (h.held p hp f hf).2; omega⟩⟩
structure Tells (rows : List Str) (ps : List Pd) : Prop where
  each : ∀ row ∈ rows, row.length ≤ 600 ∧ 10 ∉ tl row ∧ (wordsOf row = [] ∨ ∃ p, partOf (wordsOf row) = some p)
  eq : partsOf rows = ps
theorem partOf_nil : partOf [] = none := rfl
theorem Tells.nil : Tells [] [] := ⟨fun _ h => (by cases h), rfl⟩
theorem Tells.row {rows : List Str} {ps : List Pd} {row : Str} {p : Pd} (h : Tells rows ps) (h1 : row.length ≤ 600) (h2 : 10 ∉ tl row) (h3 : partOf (wordsOf row) = some p) : Tells (rows ++ [row]) (ps ++ [p]) := by
  refine ⟨fun r hr => ?_, ?_⟩
  · rcases List.mem_append.mp hr with e | e
    · exact h.each r e
    · rw [List.mem_singleton.mp e]
      exact ⟨h1, h2, .inr ⟨p, h3⟩⟩
  · have := h.eq
    unfold partsOf at this ⊢
    rw [List.filterMap_append, this, List.filterMap_cons, h3] <;> rfl
theorem Tells.blank {rows : List Str} {ps : List Pd} {row : Str} (h : Tells rows ps) (h1 : row.length ≤ 600) (h2 : 10 ∉ tl row) (h3 : wordsOf row = []) : Tells (rows ++ [row]) ps := by
  refine ⟨fun r hr => ?_, ?_⟩
  · rcases List.mem_append.mp hr with e | e
    · exact h.each r e
    · rw [List.mem_singleton.mp e]
      exact ⟨h1, h2, .inl h3⟩
  · have := h.eq
    unfold partsOf at this ⊢
    rw [List.filterMap_append, this, List.filterMap_cons, h3, partOf_nil, List.filterMap_nil, List.append_nil]
theorem rows_join {rows : List Str} (hn : rows ≠ []) (h : ∀ row ∈ rows, 10 ∉ tl row) : rowsOf (Txt.join "\n" rows) = rows := split_join tl_nl nl_kind hn h
theorem reads_join {rows : List Str} {ps : List Pd} (h : Tells rows ps) (hn : rows ≠ []) (hl : rows.length ≤ 150) (g : Good ps) : Reads (Txt.join "\n" rows) ps := by
  have e := rows_join hn fun row hr => (h.each row hr).2.1
  have hlen : (Txt.join "\n" rows).length ≤ 100000 := by
    have h1 := join_len "\n" rows
    have h2 := sum_le (fun x : Str => x.length) 600 rows fun x hx => (h.each x hx).1
    have h3 : ("\n" : Str).length = 1 := by decide +kernel
    have h4 := Nat.mul_le_mul_right 600 hl
    rw [h3] at h1
    omega
  refine ⟨hlen, by rw [e]; omega, fun row hr => ?_, fun row hr => ?_, by rw [e]; exact h.eq, g.wf, g.ne, g.fed⟩
  · rw [e] at hr
    have h1 := (h.each row hr).1
    exact ⟨by omega, split_small h1⟩
  · rw [e] at hr
    exact (h.each row hr).2.2
/-- no blank, no end of a row -/
def plainW (z : Str) : Prop := tl z ≠ [] ∧ ∀ c ∈ tl z, 33 ≤ c
theorem plainW.app {a b : Str} (h : plainW a) (h2 : ∀ c ∈ tl b, 33 ≤ c) : plainW (a ++ b) := by
  refine ⟨by rw [tl_append]; exact fun z => h.1 (List.append_eq_nil_iff.mp z).1, fun c hc => ?_⟩
  rw [tl_append] at hc
  rcases List.mem_append.mp hc with e | e
  · exact h.2 c e
  · exact h2 c e
theorem plain_num {n : Int} (h : 0 ≤ n) : plainW (Str.ofString (toString n)) := by
  obtain ⟨m, rfl⟩ := Int.eq_ofNat_of_zero_le h
  unfold plainW
  rw [show tl (Str.ofString (toString ((m : Nat) : Int))) = numL m from tl_num m]
  refine ⟨numL_ne m, fun c hc => ?_⟩
  have := numL_digits m c hc
  omega
theorem plain_name {z : Str} (h : goodName (tl z) = true) : plainW z := by
  refine ⟨name_ne h, fun c hc => ?_⟩
  unfold goodName at h
  rw [Bool.and_eq_true] at h
  have := List.all_eq_true.mp h.2 c hc
  unfold nameSign at this
  rw [Bool.or_eq_true, Bool.and_eq_true, decide_eq_true_eq, decide_eq_true_eq, isDig_iff] at this
  omega
theorem plain_slash : ∀ c ∈ tl ("/" : Str), 33 ≤ c := by rw [tl_slash]; decide
theorem plain_word {k : Kd} (h : k.fit) : plainW k.word := by
  obtain ⟨c, n⟩ := k
  have dec : ∀ z ∈ ([("in" : Str), ("out" : Str), ("and" : Str), ("or" : Str), ("odd" : Str), ("plus" : Str), ("pick" : Str), ("up:" : Str), ("down:" : Str)]), tl z ≠ [] ∧ ∀ c ∈ tl z, 33 ≤ c := by decide +kernel
  cases c
  · exact dec "in" (by simp)
  · exact dec "out" (by simp)
  · exact dec "and" (by simp)
  · exact dec "or" (by simp)
  · exact dec "odd" (by simp)
  · exact dec "plus" (by simp)
  · exact dec "pick" (by simp)
  · have h1 : 1 ≤ n ∧ n ≤ 63 := h.1 rfl
    exact plainW.app (a := "up:") (dec "up:" (by simp)) (plain_num (n := n) (by omega)).2
  · have h1 : 1 ≤ n ∧ n ≤ 63 := h.1 rfl
    exact plainW.app (a := "down:") (dec "down:" (by simp)) (plain_num (n := n) (by omega)).2
theorem plain_feed {f : Str × Int} (h : goodName (tl f.1) = true) (h0 : 0 ≤ f.2) : plainW (feedText f) := by
  unfold feedText
  split
  · exact plain_name h
  · exact ((plain_name h).app plain_slash).app (plain_num h0).2
theorem plainW.free {z : Str} (h : plainW z) {s : Nat} (hs : s < 33) : s ∉ tl z := fun hm => by have := h.2 s hm; omega
theorem Good.words {ps : List Pd} (g : Good ps) {p : Pd} (hp : p ∈ ps) : ∀ z ∈ rowWords p, plainW z := by
  intro z hz
  unfold rowWords at hz
  rcases List.mem_append.mp hz with h | h
  · simp only [List.mem_cons, List.not_mem_nil, or_false] at h
    rcases h with rfl | rfl | rfl
    · exact plain_name (g.wf.nn p hp)
    · exact plain_word (g.fit p hp)
    · exact plain_num (g.time p hp).1
  · obtain ⟨f, hf, rfl⟩ := List.mem_map.mp h
    exact plain_feed (g.wf.good hp hf) (g.held p hp f hf).1
theorem joinL_free {s : Nat} {S : List Nat} (hS : s ∉ S) : ∀ {ws : List (List Nat)}, (∀ w ∈ ws, s ∉ w) → s ∉ joinL S ws
  | [], _ => by simp [joinL]
  | [w], h => h w (List.mem_cons_self ..)
  | p :: q :: r, h => by
    show s ∉ p ++ (S ++ joinL S (q :: r))
    rw [List.mem_append, List.mem_append]
    rintro (z | z | z)
    · exact h p (List.mem_cons_self ..) z
    · exact hS z
    · exact joinL_free hS (fun w hw => h w (List.mem_cons_of_mem _ hw)) z
/-- the words of a part, in a part's row -/
theorem Good.part {ps : List Pd} (g : Good ps) {p : Pd} (hp : p ∈ ps) {fs : List Str} (hf : fs.map feedOf = p.feeds.map some) : partOf (p.name :: p.kd.word :: Str.ofString (toString p.time) :: fs) = some p :=
  partOf_words (g.wf.nn p hp) (g.fit p hp) (g.time p hp).1 (g.time p hp).2.1 hf (g.wf.ln p hp) (g.time p hp).2.2
theorem Good.feeds {ps : List Pd} (g : Good ps) {p : Pd} (hp : p ∈ ps) : (p.feeds.map feedText).map feedOf = p.feeds.map some := by
  rw [List.map_map]
  refine List.map_congr_left fun f hf => ?_
  exact feedOf_text (g.wf.good hp hf) (g.held p hp f hf).1 (g.held p hp f hf).2
theorem tl_join' (y : Str) (parts : List Str) : tl (Txt.join y parts) = joinL (tl y) (parts.map tl) := by rw [join_eq, tl_join]
theorem Good.row_words {ps : List Pd} (g : Good ps) {p : Pd} (hp : p ∈ ps) : wordsOf (shownRow p) = rowWords p := by
  refine words_of_row (a := 0) (g := 0) (t := 0) ?_ (by simp [rowWords]) fun w hw => ⟨(g.words hp w hw).1, (g.words hp w hw).free (by decide)⟩
  unfold shownRow
  rw [tl_join', tl_blank]
  simp
theorem Good.row_free {ps : List Pd} (g : Good ps) {p : Pd} (hp : p ∈ ps) : 10 ∉ tl (shownRow p) := by
  unfold shownRow
  rw [tl_join', tl_blank]
  refine joinL_free (by decide) fun w hw => ?_
  obtain ⟨z, hz, rfl⟩ := List.mem_map.mp hw
  exact (g.words hp z hz).free (by decide)
theorem Good.row_split {ps : List Pd} (g : Good ps) {p : Pd} (hp : p ∈ ps) : Txt.split (shownRow p) " " = rowWords p :=
  split_join tl_blank blank_kind (by simp [rowWords]) fun w hw => (g.words hp w hw).free (by decide)
theorem Good.row_len {ps : List Pd} (g : Good ps) {p : Pd} (hp : p ∈ ps) : (shownRow p).length ≤ 130 := shownRow_le g.wf g.tell (g.fit p hp).1 hp
theorem Good.tells {ps : List Pd} (g : Good ps) : ∀ n, Tells ((ps.take n).map shownRow) (ps.take n)
  | 0 => by rw [List.take_zero]; exact Tells.nil
  | n + 1 => by
    cases e : ps[n]? with
    | none =>
      have := List.getElem?_eq_none_iff.mp e
      have ih := g.tells n
      rw [List.take_of_length_le (by omega)] at ih ⊢
      exact ih
    | some p =>
      have hp : p ∈ ps := List.mem_of_getElem? e
      rw [take_one e, List.map_append]
      refine (g.tells n).row (by have := g.row_len hp; omega) (g.row_free hp) ?_
      rw [g.row_words hp]
      exact g.part hp (g.feeds hp)
theorem Good.rows {ps : List Pd} (g : Good ps) : rowsOf (shownText ps) = ps.map shownRow :=
  rows_join (fun z => g.ne (List.map_eq_nil_iff.mp z)) fun row hr => by
    obtain ⟨p, hp, rfl⟩ := List.mem_map.mp hr
    exact g.row_free hp
theorem Good.reads {ps : List Pd} (g : Good ps) : Reads (shownText ps) ps := by
  have h := g.tells ps.length
  rw [List.take_length] at h
  have := g.wf.few
  exact reads_join h (fun z => g.ne (List.map_eq_nil_iff.mp z)) (by rw [List.length_map]; omega) g
/-! the law's works, as parts -/
def nameAt (ls : List Lp) (j : Nat) : Str := ((ls[j]?).map Lp.name).getD ""
def pdOf (ls : List Lp) (p : Lp) : Pd := ⟨p.name, p.kd, p.time, p.feeds.map fun f => (nameAt ls f.1, f.2)⟩
def worksOf (ls : List Lp) : List Pd := ls.map (pdOf ls)
theorem nameAt_of {ls : List Lp} {j : Nat} {p : Lp} (h : ls[j]? = some p) : nameAt ls j = p.name := by unfold nameAt; rw [h]; rfl
theorem worksOf_names (ls : List Lp) : (worksOf ls).map Pd.name = ls.map Lp.name := by unfold worksOf; rw [List.map_map] <;> rfl
section
variable {most : Nat} {mark : Int} {ls : List Lp}
theorem LawOk.name (h : LawOk most mark ls) {j : Nat} (hj : j < ls.length) : nameAt ls j = lawName j mark := by
  have e := List.getElem?_eq_getElem hj
  rw [nameAt_of e, (h.each j _ e).nm]
theorem LawOk.inj (h : LawOk most mark ls) (hm : most ≤ 59) {i j : Nat} (hi : i < ls.length) (hj : j < ls.length) (e : nameAt ls i = nameAt ls j) : i = j := by
  rw [h.name hi, h.name hj] at e
  have := h.hi
  exact name_inj (by omega) (by omega) e
theorem LawOk.nodup (h : LawOk most mark ls) (hm : most ≤ 59) : (ls.map Lp.name).Nodup := by
  rw [List.Nodup, List.pairwise_iff_getElem]
  intro i j hi hj hij e
  rw [List.length_map] at hi hj
  rw [List.getElem_map, List.getElem_map] at e
  have : i = j := h.inj hm hi hj (by rw [nameAt_of (List.getElem?_eq_getElem hi), nameAt_of (List.getElem?_eq_getElem hj)]; exact e)
  omega
theorem LawOk.feed (h : LawOk most mark ls) {p : Lp} (hp : p ∈ ls) {f : Nat × Int} (hf : f ∈ p.feeds) : ∃ r, ls[f.1]? = some r ∧ r.kd.c ≠ .snk := by
  obtain ⟨j, hj⟩ := List.mem_iff_getElem?.mp hp
  obtain ⟨⟨r, h1, h2⟩, _⟩ := (h.each j p hj).fd f hf
  rw [List.getElem?_map] at h1
  cases e : ls[f.1]? with
  | none => rw [e] at h1; cases h1
  | some r' => rw [e] at h1; cases h1; exact ⟨r', rfl, h2⟩
theorem LawOk.good (h : LawOk most mark ls) (hm : most ≤ 59) : Good (worksOf ls) := by
  have hmem : ∀ p ∈ worksOf ls, ∃ j l, ls[j]? = some l ∧ p = pdOf ls l ∧ LpOk mark (ls.map Lp.kd) j l := fun p hp => by
    obtain ⟨l, hl, rfl⟩ := List.mem_map.mp hp
    obtain ⟨j, hj⟩ := List.mem_iff_getElem?.mp hl
    exact ⟨j, l, hj, rfl, h.each j l hj⟩
  have hfed : ∀ p ∈ worksOf ls, ∀ f ∈ p.feeds, ∃ r ∈ worksOf ls, r.name = f.1 ∧ r.kd.c ≠ .snk := fun p hp f hf => by
    obtain ⟨j, l, hj, rfl, hl⟩ := hmem p hp
    obtain ⟨f0, hf0, rfl⟩ := List.mem_map.mp hf
    obtain ⟨r, h1, h2⟩ := h.feed (List.mem_of_getElem? hj) hf0
    exact ⟨pdOf ls r, List.mem_map.mpr ⟨r, List.mem_of_getElem? h1, rfl⟩, (nameAt_of h1).symm, h2⟩
  refine ⟨⟨?_, ?_, ?_, ?_, ?_, ?_⟩, ?_, ?_, ?_, ?_, hfed⟩
  · unfold worksOf
    rw [List.length_map]
    have := h.hi
    omega
  · rw [worksOf_names]
    exact h.nodup hm
  · intro p hp
    obtain ⟨j, l, hj, rfl, hl⟩ := hmem p hp
    show goodName (tl l.name) = true
    rw [hl.nm]
    have := lt_of_get hj
    have := h.hi
    exact name_good _ (by omega)
  · intro p hp f hf
    obtain ⟨r, h1, h2, _⟩ := hfed p hp f hf
    exact ⟨r, h1, h2⟩
  · intro p hp
    obtain ⟨j, l, hj, rfl, hl⟩ := hmem p hp
    show (l.feeds.map _).length = _
    rw [List.length_map]
    exact hl.fl
  · classical
    refine ⟨fun n => if z : ∃ k, k < ls.length ∧ nameAt ls k = n then Classical.choose z else 0, ?_⟩
    have rk : ∀ k, k < ls.length → (if z : ∃ k', k' < ls.length ∧ nameAt ls k' = nameAt ls k then Classical.choose z else 0) = k := fun k hk => by
      have z : ∃ k', k' < ls.length ∧ nameAt ls k' = nameAt ls k := ⟨k, hk, rfl⟩
      rw [dif_pos z]
      exact h.inj hm (Classical.choose_spec z).1 hk (Classical.choose_spec z).2
    intro p hp f hf h0
    obtain ⟨j, l, hj, rfl, hl⟩ := hmem p hp
    obtain ⟨f0, hf0, rfl⟩ := List.mem_map.mp hf
    obtain ⟨r, h1, _⟩ := h.feed (List.mem_of_getElem? hj) hf0
    have e1 := rk f0.1 (lt_of_get h1)
    have e2 := rk j (lt_of_get hj)
    rw [nameAt_of hj] at e2
    have h0 : f0.2 = 0 := h0
    show (if z : ∃ k, k < ls.length ∧ nameAt ls k = nameAt ls f0.1 then Classical.choose z else 0) < (if z : ∃ k, k < ls.length ∧ nameAt ls k = l.name then Classical.choose z else 0)
    rw [e1, e2]
    refine Nat.lt_of_not_le fun z => ?_
    have := (hl.fd f0 hf0).2.2.2 z
    omega
  · intro z
    have := congrArg List.length z
    unfold worksOf at this
    rw [List.length_map, List.length_nil] at this
    have := h.lo
    omega
  · intro p hp
    obtain ⟨j, l, hj, rfl, hl⟩ := hmem p hp
    exact h.kds.ok l.kd (List.mem_map.mpr ⟨l, List.mem_of_getElem? hj, rfl⟩)
  · intro p hp
    obtain ⟨j, l, hj, rfl, hl⟩ := hmem p hp
    exact ⟨hl.t0, by have := hl.t1; show l.time ≤ 1000; omega, hl.te⟩
  · intro p hp f hf
    obtain ⟨j, l, hj, rfl, hl⟩ := hmem p hp
    obtain ⟨f0, hf0, rfl⟩ := List.mem_map.mp hf
    have := (hl.fd f0 hf0).2
    exact ⟨this.1, by have := this.2.1; show f0.2 ≤ 100; omega⟩
end
end SW


/-! ### the law's text and lines -/
namespace SW
open PySem PySem.Spec PyProof.Rows L2 He TL
theorem at3 {α : Type} (x y z u : α) (r : List α) : atI (x :: y :: z :: u :: r) 3 = some u := atI_nat (j := 3) rfl
def spLawText (K : PySem.W.Frag) : Sp := fun vs H Q _ => ∃ (G : Hp) (a : Addr) (most : Nat) (mark : Int) (ls : List Lp), vs = [.ref a] ∧ Same G H ∧ LawAt G a ls ∧ LawOk most mark ls ∧ most ≤ 59 ∧
  ∀ H', Same H H' → Q (.str (shownText (worksOf ls))) H'
theorem app_emp (z : Str) : z ++ ("" : Str) = z := ext_tl (by rw [tl_append, tl_emp, List.append_nil])
theorem app3 (a b c : Str) : a ++ (b ++ c) = (a ++ b) ++ c := ext_tl (by rw [tl_append, tl_append, tl_append, tl_append, List.append_assoc])
section
variable {P : Program} {w : World} {K : PySem.W.Frag} {mg : Str → Option Value} {base : Heap}
theorem ok_law_text (T : Txt K mg) : Ok P w K mg base 1 (ga K "_law_text") ["_law_parts"] (spLawText K) := by
  refine mkOk T.F_law_text sc_law_text (fun _ _ _ _ _ _ us hl => match us, hl with | [_], _ => rfl) (by rintro vs H Q E ⟨_, _, _, _, _, rfl, _⟩; rfl) (fun cdv A outer s H vs Q E hr h => ?_)
  obtain ⟨G, a, most, mark, ls, rfl, sg, hla, hok, hm, q⟩ := h
  have ⟨us, ha, hA⟩ := hla
  have gd := hok.good hm
  have hi := hok.hi
  refine ⟨_, (pss_cons (ps_set (i := 1) sc_law_text.nd rfl (by first | exact Or.inl rfl | exact Or.inr rfl) (pe_lst pa_nil))
      (pss_cons (ps_for PassesOwn.never rfl (piL (K := K) (pv 0)) (pg_name (i := 2) sc_law_text.nd rfl (by first | exact Or.inl rfl | exact Or.inr rfl))
      (pss_cons (ps_set (i := 3) sc_law_text.nd rfl (by first | exact Or.inl rfl | exact Or.inr rfl) (pe_lst (pa_cons (pe_ix (ixT (K := K)) (pv 2) pe_int (fun _ _ => rfl)) (pa_cons (pe_ix (ixT (K := K)) (pv 2) pe_int (fun _ _ => rfl)) (pa_cons (pe_callTy call_str_int (by rfl) T.f_str (by decide +kernel) (pa_cons (pe_ix (ixT (K := K)) (pv 2) pe_int (fun _ _ => rfl)) pa_nil)) pa_nil)))))
      (pss_cons (ps_for PassesOwn.never rfl (piL (K := K) (pe_ix (ixT (K := K)) (pv 2) pe_int (fun _ _ => rfl))) (pg_name (i := 4) sc_law_text.nd rfl (by first | exact Or.inl rfl | exact Or.inr rfl))
      (pss_one (ps_expr (pe_bm PySem.F.plainAttrs_list PySem.F.slot_list_append PySem.F.type_list_append mt_append (pv 3) (pa_cons (pe_op op_add_str (pe_ix (ixT (K := K)) (pe_ix (ixL (K := K)) (pv 0) (pe_ix (ixT (K := K)) (pv 4) pe_int (fun _ _ => rfl)) (fun _ _ => rfl)) pe_int (fun _ _ => rfl)) (pe_ifExp (pt_cmpR op_gt (pe_ix (ixT (K := K)) (pv 4) pe_int (fun _ _ => rfl)) pe_int (nomark _)) (pe_op op_add_str pe_str (pe_callTy call_str_int (by rfl) T.f_str (by decide +kernel) (pa_cons (pe_ix (ixT (K := K)) (pv 4) pe_int (fun _ _ => rfl)) pa_nil))) pe_str)) pa_nil)))))
      (pss_one (ps_expr (pe_bm PySem.F.plainAttrs_list PySem.F.slot_list_append PySem.F.type_list_append mt_append (pv 1) (pa_cons (pe_join pe_str (pv 3)) pa_nil)))))))
      (pss_one (ps_ret (pe_join pe_str (pv 1)))))), ?_⟩
  refine ⟨Nat.zero_le _, fun qo hq => ?_⟩
  refine ⟨_, rfl, a, rfl, ⟨_, SqL.of (Same.new hq _ _ (sg _ _ ha))⟩, ?_⟩
  refine for_list (K := K) (a := a) (xs := us) (fun i σ H' => ∃ v2 v3 v4, σ = [some (.ref a), some (.ref qo), v2, v3, v4] ∧ Same H H' ∧ H' qo = some (.lst ((((worksOf ls).take i).map shownRow).map V.str)))
    ⟨none, none, none, rfl, Same.new hq, upd_same⟩ (fun i σ H' _ h => by obtain ⟨_, _, _, _, s, _⟩ := h; exact SqL.of (s _ _ (sg _ _ ha))) ?_ ?_
  · rintro i x σ H1 hi' ⟨v2, v3, v4, rfl, s1, e1⟩
    obtain ⟨p, hpi, b, m, ws, rfl, hp⟩ := hA.get hi'
    have hlp := hok.each i p hpi
    have hpm : pdOf ls p ∈ worksOf ls := List.mem_map.mpr ⟨p, List.mem_of_getElem? hpi, rfl⟩
    have hpi' : (worksOf ls)[i]? = some (pdOf ls p) := by unfold worksOf; rw [List.getElem?_map, hpi] <;> rfl
    have hob : ∀ {H'}, Same H H' → H' b = _ := fun s => s _ _ (sg _ _ hp.ob)
    obtain ⟨rw1, rw2⟩ := rowWords_le gd.wf gd.tell (gd.fit _ hpm).1 hpm
    have tp := gd.tell _ hpm
    refine ⟨_, rfl, b, _, _, _, rfl, rfl, SqT.of (hob s1), at0 _ _, ?_⟩
    refine ⟨_, rfl, b, _, _, _, rfl, rfl, SqT.of (hob s1), at1 _ _ _, ?_⟩
    refine ⟨_, rfl, b, _, _, _, rfl, rfl, SqT.of (hob s1), at2 _ _ _ _, _, rfl, dgt _ (by have := tp.1; exact Nat.lt_of_lt_of_le (show p.time.natAbs < 10000 from by have h1 : 0 ≤ p.time := this.1; have h2 : p.time < 10000 := this.2; omega) (by decide)), ?_⟩
    refine ⟨(by show 3 ≤ sizeLine; decide), fun wo hwo => ?_⟩
    have hwoH : H wo = none := s1.free hwo
    have s2 := s1.trans (Same.new (o := .lst [.str p.name, .str p.kd.word, .str (Str.ofString (toString p.time))]) hwo)
    have e2 : upd H1 wo (.lst [.str p.name, .str p.kd.word, .str (Str.ofString (toString p.time))]) qo = _ := (Same.new hwo) _ _ e1
    refine ⟨_, rfl, b, _, _, _, rfl, rfl, SqT.of (hob s2), at3 _ _ _ _ _, m, rfl, ⟨_, SqL.of (s2 _ _ (sg _ _ hp.ls))⟩, ?_⟩
    have hqw : qo ≠ wo := ne_of_none e1 hwo
    refine for_list (K := K) (a := m) (xs := ws) (fun j σ H' => ∃ v4, σ = [some (.ref a), some (.ref qo), some (.ref b), some (.ref wo), v4] ∧ Same H H' ∧ H' qo = some (.lst ((((worksOf ls).take i).map shownRow).map V.str)) ∧ H' wo = some (.lst (([p.name, p.kd.word, Str.ofString (toString p.time)] ++ ((pdOf ls p).feeds.take j).map feedText).map V.str)))
      ⟨v4, rfl, s2, e2, upd_same⟩ (fun i σ H' _ h => by obtain ⟨_, _, s, _⟩ := h; exact SqL.of (s _ _ (sg _ _ hp.ls))) ?_ ?_
    · rintro j y σ H3 hj ⟨v4, rfl, s3, e3, f3⟩
      obtain ⟨f, hfj, t, rfl, htup⟩ := hp.fs.get hj
      have hfm : f ∈ p.feeds := List.mem_of_getElem? hfj
      have ht3 := s3 _ _ (sg _ _ htup)
      obtain ⟨r, hr1, hr2⟩ := hok.feed (List.mem_of_getElem? hpi) hfm
      obtain ⟨rv, hrv, rt, rl, rvs, rfl, hrp⟩ := hA.get' hr1
      have hrt := s3 _ _ (sg _ _ hrp.ob)
      have fd := hlp.fd f hfm
      have f0 := fd.2.1
      have f2 := fd.2.2.1
      have hfj' : (pdOf ls p).feeds[j]? = some (nameAt ls f.1, f.2) := by
        show (p.feeds.map _)[j]? = _
        rw [List.getElem?_map, hfj] <;> rfl
      have ename : nameAt ls f.1 = r.name := nameAt_of hr1
      rw [ename] at hfj'
      have nl : r.name.length ≤ 8 := name_len (gd.wf.nn (pdOf ls r) (List.mem_map.mpr ⟨r, List.mem_of_getElem? hr1, rfl⟩))
      refine ⟨_, rfl, .inl ⟨rfl, _, SqL.of f3⟩, ?_⟩
      have put : ∃ p_1 ys x, V.ref wo = V.ref p_1 ∧ [V.str (feedText (r.name, f.2))] = [x] ∧ H3 p_1 = some (.lst ys) ∧ ys.length < sizeLine ∧ ∃ v4, [some (V.ref a), some (V.ref qo), some (V.ref b), some (V.ref wo), some (.ref t)] = [some (V.ref a), some (V.ref qo), some (V.ref b), some (V.ref wo), v4] ∧ Same H (upd H3 p_1 (.lst (ys ++ [x]))) ∧ (upd H3 p_1 (.lst (ys ++ [x]))) qo = some (.lst ((((worksOf ls).take i).map shownRow).map V.str)) ∧ (upd H3 p_1 (.lst (ys ++ [x]))) wo = some (.lst (([p.name, p.kd.word, Str.ofString (toString p.time)] ++ ((pdOf ls p).feeds.take (j + 1)).map feedText).map V.str)) := by
        refine ⟨wo, _, _, rfl, rfl, f3, ?_, _, rfl, fun c o e => ?_, ?_, ?_⟩
        · rw [List.length_map, List.length_append, List.length_map, List.length_take]
          have h1 : (pdOf ls p).feeds.length = _ := gd.wf.ln _ hpm
          have h2 := lines_le (pdOf ls p).kd.c
          exact small1000 (by show 3 + _ ≤ 1000; omega)
        · rw [upd_ne (ne_of_none e hwoH)]
          exact s3 c o e
        · rw [upd_ne hqw]
          exact e3
        · rw [upd_same, take_one hfj']
          simp only [List.map_append, List.map_cons, List.map_nil, List.append_assoc]
      refine ⟨_, rfl, _, rfl, t, _, _, _, rfl, rfl, SqT.of ht3, at0 _ _, a, _, _, .ref rt, rfl, rfl, SqL.of (s3 _ _ (sg _ _ ha)), atI_nat hrv, rt, _, _, _, rfl, rfl, SqT.of hrt, at0 _ _, ?_⟩
      refine ⟨_, rfl, t, _, _, _, rfl, rfl, SqT.of ht3, at1 _ _ _, _, _, rfl, rfl, _, rfl, ?_⟩
      refine ite2 (fun h0 => ?_) (fun h0 => ?_)
      · have h0' : ¬ f.2 = 0 := by have := of_decide_eq_true h0; omega
        have ef : feedText (r.name, f.2) = r.name ++ (("/" : Str) ++ Str.ofString (toString f.2)) := by unfold feedText; rw [if_neg h0', app3]
        have l2 := num_len f0 (by omega)
        have l1 : (("/" : Str) ++ Str.ofString (toString f.2)).length = 1 + (Str.ofString (toString f.2)).length := by rw [len_tl, tl_append, List.length_append, ← len_tl, ← len_tl, slash_len]
        refine ⟨_, rfl, t, _, _, _, rfl, rfl, SqT.of ht3, at1 _ _ _, _, rfl, dgt _ (Nat.lt_of_lt_of_le (by omega : f.2.natAbs < 10000) (by decide)), _, _, rfl, rfl, Nat.le_trans (show ("/" : Str).length + (Str.ofString (toString f.2)).length ≤ 100 by rw [slash_len]; omega) (by decide), ?_⟩
        refine ⟨_, _, rfl, rfl, Nat.le_trans (show r.name.length + (("/" : Str) ++ Str.ofString (toString f.2)).length ≤ 100 by omega) (by decide), ?_⟩
        rw [ef] at put
        exact put
      · have h0' : f.2 = 0 := by
          have : ¬ (f.2 > 0) := fun z => h0 (decide_eq_true z)
          omega
        have ef : feedText (r.name, f.2) = r.name ++ ("" : Str) := by unfold feedText; rw [if_pos h0', app_emp]
        refine ⟨_, _, rfl, rfl, Nat.le_trans (show r.name.length + ("" : Str).length ≤ 100 by rw [show ("" : Str).length = 0 by decide +kernel]; omega) (by decide), ?_⟩
        rw [ef] at put
        exact put
    · rintro σ H3 ⟨v4, rfl, s3, e3, f3⟩
      have hfl : ws.length = (pdOf ls p).feeds.length := by rw [hp.fs.1]; exact (List.length_map ..).symm
      rw [hfl, List.take_length] at f3
      refine ⟨_, rfl, .inl ⟨rfl, _, SqL.of e3⟩, ?_⟩
      have hsum : ((rowWords (pdOf ls p)).map (·.length)).sum + (rowWords (pdOf ls p)).length * (" " : Str).length ≤ 16777216 := by
        have h4 := sum_le (fun x : Str => x.length) 20 (rowWords (pdOf ls p)) rw1
        have e : (" " : Str).length = 1 := by decide +kernel
        have h5 := Nat.mul_le_mul_right 20 rw2
        rw [e]
        omega
      refine ⟨⟨_, rfl⟩, _, rfl, _, wo, rowWords (pdOf ls p), rfl, rfl, .inl (SqL.of f3), hsum, ?_⟩
      refine ⟨qo, _, _, rfl, rfl, e3, ?_, _, _, _, rfl, fun c o e => ?_, ?_⟩
      · rw [List.length_map, List.length_map, List.length_take]
        have h1 := gd.wf.few
        exact small1000 (by omega)
      · rw [upd_ne (ne_of_none e hq)]
        exact s3 c o e
      · rw [upd_same, take_one hpi']
        simp only [List.map_append, List.map_cons, List.map_nil]
        rfl
  · rintro σ H1 ⟨v2, v3, v4, rfl, s1, e1⟩
    have hwl : us.length = (worksOf ls).length := by rw [hA.1]; exact (List.length_map ..).symm
    rw [hwl, List.take_length] at e1
    have hsum : (((worksOf ls).map shownRow).map (·.length)).sum + ((worksOf ls).map shownRow).length * ("\n" : Str).length ≤ 16777216 := by
      have h4 := sum_le (fun x : Str => x.length) 130 ((worksOf ls).map shownRow) fun z hz => by
        obtain ⟨p, hpm, rfl⟩ := List.mem_map.mp hz
        exact gd.row_len hpm
      have e : ("\n" : Str).length = 1 := by decide +kernel
      rw [List.length_map] at h4 ⊢
      have h5 := Nat.mul_le_mul_right 130 gd.wf.few
      rw [e]
      omega
    refine ⟨⟨_, rfl⟩, _, rfl, _, qo, (worksOf ls).map shownRow, rfl, rfl, .inl (SqL.of e1), hsum, ?_⟩
    exact q _ s1
end
end SW


/-! ### the law's lines -/
namespace SW
open PySem PySem.Spec PyProof.Rows L2 He TL
/-- the law's parts, with any counts of stores -/
structure LawB (mark : Int) (ls : List Lp) : Prop where
  lo : 2 ≤ ls.length
  hi : ls.length ≤ 60
  nm : ∀ j p, ls[j]? = some p → p.name = lawName j mark
  fit : ∀ p ∈ ls, p.kd.fit
  time : ∀ p ∈ ls, 0 ≤ p.time ∧ p.time ≤ 1000 ∧ (p.kd.c = .src ∨ p.kd.c = .snk → p.time = 0)
  fl : ∀ p ∈ ls, p.feeds.length = p.kd.c.lines
  fd : ∀ p ∈ ls, ∀ f ∈ p.feeds, ∃ r, ls[f.1]? = some r ∧ r.kd.c ≠ .snk
  held : ∀ p ∈ ls, ∀ f ∈ p.feeds, 0 ≤ f.2
theorem LawOk.b {most : Nat} {mark : Int} {ls : List Lp} (h : LawOk most mark ls) (hm : most ≤ 59) : LawB mark ls := by
  have mem : ∀ p ∈ ls, ∃ j, LpOk mark (ls.map Lp.kd) j p := fun p hp => by
    obtain ⟨j, hj⟩ := List.mem_iff_getElem?.mp hp
    exact ⟨j, h.each j p hj⟩
  refine ⟨h.lo, by have := h.hi; omega, fun j p hj => (h.each j p hj).nm, fun p hp => h.kds.ok p.kd (List.mem_map.mpr ⟨p, hp, rfl⟩), fun p hp => ?_, fun p hp => ?_, fun p hp f hf => h.feed hp hf, fun p hp f hf => ?_⟩
  · obtain ⟨j, hl⟩ := mem p hp
    exact ⟨hl.t0, by have := hl.t1; omega, hl.te⟩
  · obtain ⟨j, hl⟩ := mem p hp
    exact hl.fl
  · obtain ⟨j, hl⟩ := mem p hp
    exact (hl.fd f hf).2.1
section
variable {mark : Int} {ls : List Lp}
theorem LawB.name (h : LawB mark ls) {j : Nat} (hj : j < ls.length) : nameAt ls j = lawName j mark := by
  have e := List.getElem?_eq_getElem hj
  rw [nameAt_of e, h.nm j _ e]
theorem LawB.inj (h : LawB mark ls) {i j : Nat} (hi : i < ls.length) (hj : j < ls.length) (e : nameAt ls i = nameAt ls j) : i = j := by
  rw [h.name hi, h.name hj] at e
  have := h.hi
  exact name_inj (by omega) (by omega) e
theorem LawB.nodup (h : LawB mark ls) : (ls.map Lp.name).Nodup := by
  refine List.pairwise_iff_getElem.mpr fun i j hi hj hij e => ?_
  rw [List.length_map] at hi hj
  rw [List.getElem_map, List.getElem_map] at e
  have : i = j := h.inj hi hj (by rw [nameAt_of (List.getElem?_eq_getElem hi), nameAt_of (List.getElem?_eq_getElem hj)]; exact e)
  omega
theorem LawB.good_name (h : LawB mark ls) {p : Lp} (hp : p ∈ ls) : goodName (tl p.name) = true := by
  obtain ⟨j, hj⟩ := List.mem_iff_getElem?.mp hp
  rw [h.nm j p hj]
  have := lt_of_get hj
  have := h.hi
  exact name_good _ (by omega)
end
def TripAt (G : Hp) (v : V) (f : Nat × Nat × Int) : Prop := ∃ t, v = .ref t ∧ G t = some (.tup [.int (f.1 : Int), .int (f.2.1 : Int), .int f.2.2])
theorem TripAt.mono {G G' : Hp} {v : V} {f : Nat × Nat × Int} (e : Same G G') (h : TripAt G v f) : TripAt G' v f := by
  obtain ⟨t, r, h⟩ := h
  exact ⟨t, r, e _ _ h⟩
def linesAt (ls : List Lp) (k : Nat) : List (Nat × Nat × Int) := match ls[k]? with | some p => p.feeds.map fun f => (f.1, k, f.2) | none => []
def linesTo (ls : List Lp) (n : Nat) : List (Nat × Nat × Int) := (List.range n).flatMap (linesAt ls)
theorem linesTo_succ (ls : List Lp) (n : Nat) : linesTo ls (n + 1) = linesTo ls n ++ linesAt ls n := by
  unfold linesTo
  rw [List.range_succ, List.flatMap_append, List.flatMap_singleton]
def lineName (ls : List Lp) (f : Nat × Nat × Int) : Str × Str × Int := (nameAt ls f.1, nameAt ls f.2.1, f.2.2)
theorem lines_names (ls : List Lp) : ∀ n, n ≤ ls.length → (linesTo ls n).map (lineName ls) = linesOf ((worksOf ls).take n)
  | 0, _ => rfl
  | n + 1, h => by
    have e := List.getElem?_eq_getElem (show n < ls.length by omega)
    have e' : (worksOf ls)[n]? = some (pdOf ls ls[n]) := by unfold worksOf; rw [List.getElem?_map, e] <;> rfl
    rw [linesTo_succ, List.map_append, lines_names ls n (by omega), linesOf_take e']
    have : linesAt ls n = ls[n].feeds.map fun f => (f.1, n, f.2) := by unfold linesAt; rw [e]
    rw [this, List.map_map]
    show _ = _ ++ ((ls[n].feeds.map fun f => (nameAt ls f.1, f.2)).map fun f => (f.1, ls[n].name, f.2))
    rw [List.map_map]
    have hn : nameAt ls n = ls[n].name := nameAt_of e
    congr 1
    refine List.map_congr_left fun f _ => ?_
    show (nameAt ls f.1, nameAt ls n, f.2) = _
    rw [hn] <;> rfl
theorem linesTo_len {mark : Int} {ls : List Lp} (h : LawB mark ls) : ∀ n, n ≤ ls.length → (linesTo ls n).length ≤ 3 * n
  | 0, _ => Nat.zero_le _
  | n + 1, hn => by
    have ih := linesTo_len h n (by omega)
    have e := List.getElem?_eq_getElem (show n < ls.length by omega)
    have h1 : (linesAt ls n).length ≤ 3 := by
      unfold linesAt
      rw [e]
      show (ls[n].feeds.map _).length ≤ 3
      rw [List.length_map, h.fl _ (List.mem_of_getElem? e)]
      exact lines_le _
    rw [linesTo_succ, List.length_append]
    omega
def spLawLines (K : PySem.W.Frag) : Sp := fun vs H Q _ => ∃ (G : Hp) (a : Addr) (mark : Int) (ls : List Lp), vs = [.ref a] ∧ Same G H ∧ LawAt G a ls ∧ LawB mark ls ∧
  ∀ (q : Addr) (us : List V) (G' H' : Hp), Grow G H G' H' → H q = none → G' q = none → H' q = some (.lst us) → All2 (TripAt G') us (linesTo ls ls.length) → Q (.ref q) H'
section
variable {P : Program} {w : World} {K : PySem.W.Frag} {mg : Str → Option Value} {base : Heap}
end
end SW


/-! ### lists of texts and lines, as data -/
namespace SW
open PySem PySem.Spec PyProof.Rows L2 He TL
def strD (l : List Str) : PyData := .list (l.map PyData.str)
def lineD (l : List (Str × Str × Int)) : PyData := .list (l.map fun f => PyData.tuple [.str f.1, .str f.2.1, .int f.2.2])
theorem dpStrs {K : PySem.W.Frag} {H : Hp} : ∀ l : List Str, DpAll K H (l.map V.str) (l.map PyData.str)
  | [] => .nil
  | z :: l => .cons (.str z) (dpStrs l)
theorem dpLines {K : PySem.W.Frag} {H : Hp} : ∀ {us : List V} {l : List (Str × Str × Int)}, All2 (LineAt H) us l → DpAll K H us (l.map fun f => PyData.tuple [.str f.1, .str f.2.1, .int f.2.2])
  | [], [], _ => .nil
  | [], _ :: _, h => by have := h.1; simp at this
  | _ :: _, [], h => by have := h.1; simp at this
  | v :: us, f :: l, h => by
    obtain ⟨⟨t, rfl, ht⟩, h2⟩ := h.uncons
    exact .cons (.tup (SqT.of ht) (.cons (.str _) (.cons (.str _) (.cons (.int _) .nil)))) (dpLines h2)
theorem layStrs : ∀ {l : List Str}, (∀ z ∈ l, PyData.strOk z = true) → PyData.canLayAll0 (l.map PyData.str) = true ∧ PyData.depthAll (l.map PyData.str) = 0
  | [], _ => ⟨rfl, rfl⟩
  | z :: l, h => by
    obtain ⟨h1, h2⟩ := layStrs (l := l) fun f hf => h f (List.mem_cons_of_mem _ hf)
    refine ⟨?_, ?_⟩
    · show (PyData.strOk z && PyData.canLayAll0 (l.map PyData.str)) = true
      rw [h1, h z (List.mem_cons_self ..)] <;> rfl
    · show max 0 (PyData.depthAll (l.map PyData.str)) = 0
      rw [h2] <;> rfl
theorem shapeStrs {l : List Str} (h : ∀ z ∈ l, PyData.strOk z = true) : SeqAt.shaped (strD l) = true := by
  obtain ⟨h1, h2⟩ := layStrs h
  show (PyData.canLayAll0 _ && decide (PyData.depthAll _ + 1 ≤ 64)) = true
  rw [h1, h2]
  rfl
theorem layLines : ∀ {l : List (Str × Str × Int)}, (∀ f ∈ l, PyData.strOk f.1 = true ∧ PyData.strOk f.2.1 = true) → PyData.canLayAll0 (l.map fun f => PyData.tuple [.str f.1, .str f.2.1, .int f.2.2]) = true ∧ PyData.depthAll (l.map fun f => PyData.tuple [.str f.1, .str f.2.1, .int f.2.2]) ≤ 1
  | [], _ => ⟨rfl, Nat.zero_le _⟩
  | f :: l, h => by
    obtain ⟨h1, h2⟩ := layLines (l := l) fun f hf => h f (List.mem_cons_of_mem _ hf)
    obtain ⟨h3, h4⟩ := h f (List.mem_cons_self ..)
    refine ⟨?_, ?_⟩
    · show ((PyData.strOk f.1 && (PyData.strOk f.2.1 && (true && true))) && PyData.canLayAll0 (l.map fun f => PyData.tuple [.str f.1, .str f.2.1, .int f.2.2])) = true
      rw [h1, h3, h4] <;> rfl
    · show max (max 0 (max 0 (max 0 0)) + 1) (PyData.depthAll (l.map fun f => PyData.tuple [.str f.1, .str f.2.1, .int f.2.2])) ≤ 1
      exact Nat.max_le.mpr ⟨by decide, h2⟩
theorem shapeLines {l : List (Str × Str × Int)} (h : ∀ f ∈ l, PyData.strOk f.1 = true ∧ PyData.strOk f.2.1 = true) : SeqAt.shaped (lineD l) = true := by
  obtain ⟨h1, h2⟩ := layLines h
  show (PyData.canLayAll0 _ && decide (PyData.depthAll _ + 1 ≤ 64)) = true
  rw [h1]
  exact decide_eq_true (by omega)
theorem Good.okName {ps : List Pd} (g : Good ps) {p : Pd} (hp : p ∈ ps) : PyData.strOk p.name = true := goodName_ok (g.wf.nn p hp)
theorem Good.okLines {ps : List Pd} (g : Good ps) : ∀ f ∈ linesOf ps, PyData.strOk f.1 = true ∧ PyData.strOk f.2.1 = true := fun f hf => by
  obtain ⟨p, hp, h⟩ := List.mem_flatMap.mp hf
  obtain ⟨e, he, rfl⟩ := List.mem_map.mp h
  exact ⟨goodName_ok (g.wf.good hp he), g.okName hp⟩
theorem Good.linesLen {ps : List Pd} (g : Good ps) : (linesOf ps).length ≤ 180 := by
  unfold linesOf
  rw [List.length_flatMap]
  have h1 := sum_le (fun p : Pd => (p.feeds.map fun f => (f.1, p.name, f.2)).length) 3 ps fun p hp => by
    rw [List.length_map, g.wf.ln p hp]
    exact lines_le _
  have h2 := Nat.mul_le_mul_right 3 g.wf.few
  omega
theorem linesTo_in {mark : Int} {ls : List Lp} (h : LawB mark ls) : ∀ n, n ≤ ls.length → ∀ f ∈ linesTo ls n, f.1 < ls.length ∧ f.2.1 < ls.length
  | 0, _, f, hf => by cases hf
  | n + 1, hn, f, hf => by
    rw [linesTo_succ] at hf
    rcases List.mem_append.mp hf with h1 | h1
    · exact linesTo_in h n (by omega) f h1
    · have e := List.getElem?_eq_getElem (show n < ls.length by omega)
      unfold linesAt at h1
      rw [e] at h1
      obtain ⟨x, hx, rfl⟩ := List.mem_map.mp h1
      obtain ⟨r, hr, _⟩ := h.fd _ (List.mem_of_getElem? e) x hx
      exact ⟨lt_of_get hr, hn⟩
/-- the first of its name -/
theorem Good.first {ps : List Pd} (g : Good ps) {j : Nat} {p : Pd} (h : ps[j]? = some p) : ∀ m q, m < j → ps[m]? = some q → q.name ≠ p.name := fun m q hm hq e => by
  obtain ⟨hm1, rfl⟩ := List.getElem?_eq_some_iff.mp hq
  obtain ⟨hj1, rfl⟩ := List.getElem?_eq_some_iff.mp h
  have h1 := List.pairwise_iff_getElem.mp g.wf.nd m j (by rw [List.length_map]; exact hm1) (by rw [List.length_map]; exact hj1) hm
  rw [List.getElem_map, List.getElem_map] at h1
  exact h1 e
end SW


/-! ### sorted texts: one order alone -/
namespace SW
open PySem PySem.Spec PyProof.Rows L2 He TL
def Pw (l : List Str) : Prop := l.Pairwise fun a b => tl a ≤ tl b
theorem rising_pw : ∀ (l : List Str) (p : Str), risingS p l = true → (∀ x ∈ l, tl p ≤ tl x) ∧ Pw l
  | [], _, _ => ⟨fun x h => (by cases h), List.Pairwise.nil⟩
  | x :: r, p, h => by
    unfold risingS at h
    rw [Bool.and_eq_true] at h
    obtain ⟨h1, h2⟩ := h
    rw [ltCps_eq, Bool.not_eq_true', decide_eq_false_iff_not] at h1
    have h3 : tl p ≤ tl x := List.not_lt.mp h1
    obtain ⟨h4, h5⟩ := rising_pw r x h2
    refine ⟨fun y hy => ?_, List.Pairwise.cons h4 h5⟩
    rcases List.mem_cons.mp hy with e | e
    · rw [e]
      exact h3
    · exact List.le_trans h3 (h4 y e)
theorem sorted_pw : ∀ {l : List Str}, sortedS l = true → Pw l
  | [], _ => List.Pairwise.nil
  | x :: r, h => by
    obtain ⟨h1, h2⟩ := rising_pw r x h
    exact List.Pairwise.cons h1 h2
theorem pw_unique : ∀ {ys zs : List Str}, ys.Perm zs → Pw ys → Pw zs → ys = zs
  | [], zs, h, _, _ => (List.Perm.nil_eq h)
  | y :: ys, [], h, _, _ => by have := h.length_eq; simp at this
  | y :: ys, z :: zs, h, h1, h2 => by
    have a1 : tl y ≤ tl z := by
      have : z ∈ y :: ys := h.symm.subset (List.mem_cons_self ..)
      rcases List.mem_cons.mp this with e | e
      · rw [e]
        exact List.le_refl _
      · exact List.rel_of_pairwise_cons h1 e
    have a2 : tl z ≤ tl y := by
      have : y ∈ z :: zs := h.subset (List.mem_cons_self ..)
      rcases List.mem_cons.mp this with e | e
      · rw [e]
        exact List.le_refl _
      · exact List.rel_of_pairwise_cons h2 e
    have e : y = z := ext_tl (List.le_antisymm a1 a2)
    subst e
    rw [pw_unique (List.Perm.cons_inv h) (List.Pairwise.of_cons h1) (List.Pairwise.of_cons h2)]
theorem sorted_unique {ys zs : List Str} (h : ys.Perm zs) (h1 : sortedS ys = true) (h2 : sortedS zs = true) : ys = zs := pw_unique h (sorted_pw h1) (sorted_pw h2)
end SW


/-! ### the same works with other counts of stores -/
namespace SW
open PySem PySem.Spec PyProof.Rows L2 He TL
def countsOf (g : Pd → Str × Int → Int) (ps : List Pd) : List Int := ps.flatMap fun p => p.feeds.map (g p)
def regiveP (g : Pd → Str × Int → Int) (p : Pd) : Pd := ⟨p.name, p.kd, p.time, p.feeds.map fun f => (f.1, g p f)⟩
def regive (g : Pd → Str × Int → Int) (ps : List Pd) : List Pd := ps.map (regiveP g)
theorem counts_take {g : Pd → Str × Int → Int} {ps : List Pd} {i : Nat} {p : Pd} (h : ps[i]? = some p) : countsOf g (ps.take (i + 1)) = countsOf g (ps.take i) ++ p.feeds.map (g p) := by
  unfold countsOf
  rw [take_one h, List.flatMap_append, List.flatMap_singleton]
theorem counts_at {g : Pd → Str × Int → Int} {ps : List Pd} {i j : Nat} {p : Pd} {f : Str × Int} (h : ps[i]? = some p) (hf : p.feeds[j]? = some f) : (countsOf g ps)[(countsOf g (ps.take i)).length + j]? = some (g p f) := by
  have e : countsOf g ps = countsOf g (ps.take i) ++ (p.feeds.map (g p) ++ countsOf g (ps.drop (i + 1))) := by
    rw [← List.append_assoc, ← counts_take h]
    unfold countsOf
    rw [← List.flatMap_append, List.take_append_drop]
  rw [e, List.getElem?_append_right (Nat.le_add_right _ _), Nat.add_sub_cancel_left, List.getElem?_append_left (by rw [List.length_map]; exact lt_of_get hf), List.getElem?_map, hf] <;> rfl
def spStored (K : PySem.W.Frag) : Sp := fun vs H Q _ => ∃ (G : Hp) (a c : Addr) (ps : List Pd) (g : Pd → Str × Int → Int), vs = [.ref a, .ref c] ∧ Same G H ∧ WorksAt K G a ps ∧ H c = some (.lst ((countsOf g ps).map V.int)) ∧ ps.length ≤ 900 ∧ (∀ p ∈ ps, p.feeds.length ≤ 900) ∧
  ∀ q G' H', Grow G H G' H' → H q = none → WorksAt K G' q (regive g ps) → Q (.ref q) H'
section
variable {P : Program} {w : World} {K : PySem.W.Frag} {mg : Str → Option Value} {base : Heap}
end
end SW


/-! ### stores moved by lags (lags that fit) -/
namespace SW
open PySem PySem.Spec PyProof.Rows L2 He TL
def gLag (lag : Str → Int) (p : Pd) (f : Str × Int) : Int := f.2 + lag p.name - lag f.1
structure LagsAt (H : Hp) (la : Addr) (ps : List Pd) (lag : Str → Int) : Prop where
  at' : ∃ (kvs : List (Key × V)) (ks : List Str), H la = some (.dK kvs) ∧ kvs.map (·.1) = ks.map Sum.inr ∧ ks.Perm (ps.map Pd.name) ∧ ∀ p ∈ ps, valV kvs (Sum.inr p.name : Key) = some (.int (lag p.name))
structure Fits (ps : List Pd) (lag : Str → Int) : Prop where
  ends : ∀ p ∈ ps, p.isEnd = true → lag p.name = 0
  lines : ∀ p ∈ ps, ∀ f ∈ p.feeds, 0 ≤ gLag lag p f
def spMoved (K : PySem.W.Frag) : Sp := fun vs H Q _ => ∃ (G : Hp) (a la : Addr) (ps : List Pd) (lag : Str → Int), vs = [.ref a, .ref la] ∧ Same G H ∧ WorksAt K G a ps ∧ Wf ps ∧ LagsAt H la ps lag ∧ Fits ps lag ∧
  ∀ q G' H', Grow G H G' H' → H q = none → WorksAt K G' q (regive (gLag lag) ps) → Q (.ref q) H'
section
variable {P : Program} {w : World} {K : PySem.W.Frag} {mg : Str → Option Value} {base : Heap}
end
end SW


/-! ### the laws' lags -/
namespace SW
open PySem PySem.Spec PyProof.Rows L2 He TL
def Lp.isEnd (p : Lp) : Bool := decide (p.kd.c = .src) || decide (p.kd.c = .snk)
def spLawEnds (K : PySem.W.Frag) : Sp := fun vs H Q _ => ∃ (G : Hp) (a : Addr) (ls : List Lp), vs = [.ref a] ∧ Same G H ∧ LawAt G a ls ∧ ls.length ≤ 900 ∧ ∀ q H', Same H H' → H q = none → H' q = some (.lst (ls.map fun p => V.bl p.isEnd)) → Q (.ref q) H'
/-- a dict by the law's names -/
def lagDict (ls : List Lp) (lags : List Int) (n : Nat) : List (Key × V) := (List.range n).map fun k => ((Sum.inr (nameAt ls k) : Key), V.int (lags.getD k 0))
def spLawNamed (K : PySem.W.Frag) : Sp := fun vs H Q _ => ∃ (G : Hp) (a c : Addr) (mark : Int) (ls : List Lp) (lags : List Int), vs = [.ref a, .ref c] ∧ Same G H ∧ LawAt G a ls ∧ LawB mark ls ∧ H c = some (.lst (lags.map V.int)) ∧ lags.length = ls.length ∧
  ∀ q H', Same H H' → H q = none → H' q = some (.dK (lagDict ls lags ls.length)) → Q (.ref q) H'
section
variable {P : Program} {w : World} {K : PySem.W.Frag} {mg : Str → Option Value} {base : Heap}
theorem lag_succ (ls : List Lp) (lags : List Int) (n : Nat) : lagDict ls lags (n + 1) = lagDict ls lags n ++ [((Sum.inr (nameAt ls n) : Key), V.int (lags.getD n 0))] := by
  unfold lagDict
  rw [List.range_succ, List.map_append] <;> rfl
theorem lag_none {mark : Int} {ls : List Lp} (h : LawB mark ls) {lags : List Int} {n : Nat} (hn : n < ls.length) : valV (lagDict ls lags n) (Sum.inr (nameAt ls n) : Key) = none := by
  unfold valV lagDict
  rw [Option.map_eq_none_iff, List.find?_eq_none]
  intro x hx e
  obtain ⟨k, hk, rfl⟩ := List.mem_map.mp hx
  have hk := List.mem_range.mp hk
  have := h.inj (show k < ls.length by omega) hn (Sum.inr.inj (of_decide_eq_true e))
  omega
end
end SW


/-! ### lags by many single steps -/
namespace SW
open PySem PySem.Spec PyProof.Rows L2 He TL
def lineLag (lags : List Int) (f : Nat × Nat × Int) : Int := f.2.2 + lags.getD f.2.1 0 - lags.getD f.1 0
structure FitL (ls : List Lp) (lags : List Int) (b : Nat) : Prop where
  len : lags.length = ls.length
  ends : ∀ k p, ls[k]? = some p → p.isEnd = true → lags.getD k 0 = 0
  lines : ∀ f ∈ linesTo ls ls.length, 0 ≤ lineLag lags f
  small : ∀ k, -(b : Int) ≤ lags.getD k 0 ∧ lags.getD k 0 ≤ b
def spLawLags (K : PySem.W.Frag) : Sp := fun vs H Q _ => ∃ (G : Hp) (a sc : Addr) (mark : Int) (ls : List Lp) (ns : List Int) (many : Nat), vs = [.ref a, .ref sc, .int (many : Int)] ∧ Same G H ∧ LawAt G a ls ∧ LawB mark ls ∧ SqL K H sc (ns.map V.int) ∧ many ≤ 900 ∧
  ∀ q lags H', Same H H' → H q = none → H' q = some (.lst (lags.map V.int)) → FitL ls lags many → Q (.ref q) H'
theorem fit_zero {mark : Int} {ls : List Lp} (h : LawB mark ls) : FitL ls (List.replicate ls.length 0) 0 := by
  have z : ∀ k, (List.replicate ls.length (0 : Int)).getD k 0 = 0 := fun k => by
    rw [List.getD_eq_getElem?_getD]
    cases e : (List.replicate ls.length (0 : Int))[k]? with
    | none => rfl
    | some y => exact (List.mem_replicate.mp (List.mem_of_getElem? e)).2
  refine ⟨List.length_replicate .., fun k p _ _ => z k, fun f hf => ?_, fun k => by rw [z]; exact ⟨by decide, by decide⟩⟩
  unfold lineLag
  rw [z, z]
  have : 0 ≤ f.2.2 := by
    unfold linesTo at hf
    obtain ⟨k, hk, hm⟩ := List.mem_flatMap.mp hf
    unfold linesAt at hm
    cases e : ls[k]? with
    | none => rw [e] at hm; cases hm
    | some p =>
      rw [e] at hm
      obtain ⟨g, hg, rfl⟩ := List.mem_map.mp hm
      exact h.held p (List.mem_of_getElem? e) g hg
  omega
section
variable {P : Program} {w : World} {K : PySem.W.Frag} {mg : Str → Option Value} {base : Heap}
end
end SW


/-! ### the law's lags by name -/
namespace SW
open PySem PySem.Spec PyProof.Rows L2 He TL
open Classical in
noncomputable def lagOf (ls : List Lp) (lags : List Int) (n : Str) : Int := if z : ∃ k, k < ls.length ∧ nameAt ls k = n then lags.getD (Classical.choose z) 0 else 0
section
variable {mark : Int} {ls : List Lp} {lags : List Int}
theorem lagOf_at (h : LawB mark ls) {k : Nat} (hk : k < ls.length) : lagOf ls lags (nameAt ls k) = lags.getD k 0 := by
  unfold lagOf
  have z : ∃ k', k' < ls.length ∧ nameAt ls k' = nameAt ls k := ⟨k, hk, rfl⟩
  rw [dif_pos z, h.inj (Classical.choose_spec z).1 hk (Classical.choose_spec z).2]
theorem works_at {k : Nat} {l : Lp} (h : ls[k]? = some l) : (worksOf ls)[k]? = some (pdOf ls l) := by unfold worksOf; rw [List.getElem?_map, h] <;> rfl
theorem works_mem {p : Pd} (h : p ∈ worksOf ls) : ∃ (k : Nat) (l : Lp), ls[k]? = some l ∧ p = pdOf ls l := by
  obtain ⟨l, hl, rfl⟩ := List.mem_map.mp h
  obtain ⟨k, hk⟩ := List.mem_iff_getElem?.mp hl
  exact ⟨k, l, hk, rfl⟩
theorem lagOf_name (h : LawB mark ls) {k : Nat} {l : Lp} (e : ls[k]? = some l) : lagOf ls lags l.name = lags.getD k 0 := by
  rw [← nameAt_of e]
  exact lagOf_at h (lt_of_get e)
theorem lagDict_eq (h : LawB mark ls) : lagDict ls lags ls.length = dictOf (fun p => V.int (lagOf ls lags p.name)) (worksOf ls) := by
  refine List.ext_getElem? fun k => ?_
  unfold lagDict dictOf worksOf
  rw [List.getElem?_map, List.getElem?_map, List.getElem?_map]
  cases e : ls[k]? with
  | none =>
    have hk := List.getElem?_eq_none_iff.mp e
    rw [List.getElem?_eq_none (by rw [List.length_range]; exact hk)] <;> rfl
  | some l =>
    have hk := lt_of_get e
    rw [List.getElem?_range hk]
    show some ((Sum.inr (nameAt ls k) : Key), V.int (lags.getD k 0)) = some ((Sum.inr l.name : Key), V.int (lagOf ls lags l.name))
    rw [lagOf_name h e, nameAt_of e]
theorem dict_keys (f : Pd → V) (ps : List Pd) : (dictOf f ps).map (·.1) = (ps.map Pd.name).map Sum.inr := by
  unfold dictOf
  rw [List.map_map, List.map_map] <;> rfl
theorem LawB.nodupW (h : LawB mark ls) : ((worksOf ls).map Pd.name).Nodup := by
  rw [worksOf_names]
  exact h.nodup
theorem lagsAt_of (h : LawB mark ls) {H : Hp} {la : Addr} (e : H la = some (.dK (lagDict ls lags ls.length))) : LagsAt H la (worksOf ls) (lagOf ls lags) := by
  rw [lagDict_eq h] at e
  exact ⟨_, _, e, dict_keys _ _, List.Perm.refl _, fun p hp => val_dict h.nodupW hp⟩
theorem mem_lines {k : Nat} {l : Lp} (e : ls[k]? = some l) {f : Nat × Int} (hf : f ∈ l.feeds) : (f.1, k, f.2) ∈ linesTo ls ls.length := by
  unfold linesTo
  refine List.mem_flatMap.mpr ⟨k, List.mem_range.mpr (lt_of_get e), ?_⟩
  unfold linesAt
  rw [e]
  exact List.mem_map.mpr ⟨f, hf, rfl⟩
theorem gLag_line (h : LawB mark ls) {k : Nat} {l : Lp} (e : ls[k]? = some l) {f : Nat × Int} (hf : f ∈ l.feeds) : gLag (lagOf ls lags) (pdOf ls l) (nameAt ls f.1, f.2) = lineLag lags (f.1, k, f.2) := by
  obtain ⟨r, hr, _⟩ := h.fd l (List.mem_of_getElem? e) f hf
  show f.2 + lagOf ls lags l.name - lagOf ls lags (nameAt ls f.1) = f.2 + lags.getD k 0 - lags.getD f.1 0
  rw [lagOf_name h e, lagOf_at h (lt_of_get hr)]
theorem FitL.fits (h : LawB mark ls) {b : Nat} (hF : FitL ls lags b) : Fits (worksOf ls) (lagOf ls lags) := by
  refine ⟨fun p hp he => ?_, fun p hp f hf => ?_⟩
  · obtain ⟨k, l, e, rfl⟩ := works_mem hp
    show lagOf ls lags l.name = 0
    rw [lagOf_name h e]
    exact hF.ends k l e he
  · obtain ⟨k, l, e, rfl⟩ := works_mem hp
    obtain ⟨g, hg, rfl⟩ := List.mem_map.mp hf
    rw [gLag_line h e hg]
    exact hF.lines _ (mem_lines e hg)
end
theorem mem_lines' {ls : List Lp} : ∀ {n : Nat} {f : Nat × Nat × Int}, f ∈ linesTo ls n → ∃ l, ls[f.2.1]? = some l ∧ (f.1, f.2.2) ∈ l.feeds := fun {n f} h => by
  unfold linesTo at h
  obtain ⟨k, _, hm⟩ := List.mem_flatMap.mp h
  unfold linesAt at hm
  cases e : ls[k]? with
  | none => rw [e] at hm; cases hm
  | some l =>
    rw [e] at hm
    obtain ⟨g, hg, rfl⟩ := List.mem_map.mp hm
    exact ⟨l, e, hg⟩
/-! ### a works moved is a works -/
theorem rank_bound (rank : Str → Nat) : ∀ ps : List Pd, ∃ M, ∀ p ∈ ps, rank p.name < M
  | [] => ⟨0, fun p h => by cases h⟩
  | p :: ps => by
    obtain ⟨M, h⟩ := rank_bound rank ps
    refine ⟨max M (rank p.name + 1), fun q hq => ?_⟩
    rcases List.mem_cons.mp hq with rfl | hq
    · exact Nat.lt_of_lt_of_le (Nat.lt_succ_self _) (Nat.le_max_right ..)
    · exact Nat.lt_of_lt_of_le (h q hq) (Nat.le_max_left ..)
theorem lag_bound (lag : Str → Int) : ∀ ps : List Pd, ∃ L : Nat, ∀ p ∈ ps, lag p.name ≤ (L : Int)
  | [] => ⟨0, fun p h => by cases h⟩
  | p :: ps => by
    obtain ⟨L, h⟩ := lag_bound lag ps
    refine ⟨max L (lag p.name).toNat, fun q hq => ?_⟩
    rcases List.mem_cons.mp hq with rfl | hq
    · have := Nat.le_max_right L (lag q.name).toNat
      omega
    · have := h q hq
      have := Nat.le_max_left L (lag p.name).toNat
      omega
theorem regive_names (g : Pd → Str × Int → Int) (ps : List Pd) : (regive g ps).map Pd.name = ps.map Pd.name := by
  unfold regive
  rw [List.map_map] <;> rfl
theorem regive_mem {g : Pd → Str × Int → Int} {ps : List Pd} {q : Pd} (h : q ∈ regive g ps) : ∃ p ∈ ps, q = regiveP g p := by
  obtain ⟨p, hp, rfl⟩ := List.mem_map.mp h
  exact ⟨p, hp, rfl⟩
theorem Wf.moved {ps : List Pd} {lag : Str → Int} (h : Wf ps) (hc : ∀ p ∈ ps, ∀ f ∈ p.feeds, 0 ≤ f.2) : Wf (regive (gLag lag) ps) := by
  refine ⟨by unfold regive; rw [List.length_map]; exact h.few, by rw [regive_names]; exact h.nd, fun q hq => ?_, fun q hq f hf => ?_, fun q hq => ?_, ?_⟩
  · obtain ⟨p, hp, rfl⟩ := regive_mem hq
    exact h.nn p hp
  · obtain ⟨p, hp, rfl⟩ := regive_mem hq
    obtain ⟨e, he, rfl⟩ := List.mem_map.mp hf
    obtain ⟨r, hr, hn⟩ := h.cl p hp e he
    exact ⟨regiveP (gLag lag) r, List.mem_map.mpr ⟨r, hr, rfl⟩, hn⟩
  · obtain ⟨p, hp, rfl⟩ := regive_mem hq
    show (p.feeds.map _).length = _
    rw [List.length_map]
    exact h.ln p hp
  · obtain ⟨rank, hrk⟩ := h.ac
    obtain ⟨M, hM⟩ := rank_bound rank ps
    obtain ⟨L, hL⟩ := lag_bound lag ps
    refine ⟨fun n => ((L : Int) - lag n).toNat * M + rank n, fun q hq f hf h0 => ?_⟩
    obtain ⟨p, hp, rfl⟩ := regive_mem hq
    obtain ⟨e, he, rfl⟩ := List.mem_map.mp hf
    obtain ⟨r, hr, hn⟩ := h.cl p hp e he
    have h0 : e.2 + lag p.name - lag e.1 = 0 := h0
    have hc := hc p hp e he
    have h1 := hL p hp
    have h2 := hL r hr
    have h3 := hM p hp
    have h4 := hM r hr
    rw [hn] at h2 h4
    show ((L : Int) - lag e.1).toNat * M + rank e.1 < ((L : Int) - lag p.name).toNat * M + rank p.name
    by_cases hz : e.2 = 0
    · have e1 : lag e.1 = lag p.name := by omega
      rw [e1]
      exact Nat.add_lt_add_left (hrk p hp e he hz) _
    · have e1 : ((L : Int) - lag e.1).toNat + 1 ≤ ((L : Int) - lag p.name).toNat := by omega
      have e2 := Nat.mul_le_mul_right M e1
      rw [Nat.add_mul, Nat.one_mul] at e2
      omega
end SW


/-! ### bits, by sums -/
namespace SW
open PySem PySem.Spec PyProof.Rows L2 He
theorem bits_and (x y j : Nat) : (x &&& y) % 2 ^ (j + 1) = (x &&& y) % 2 ^ j + (if x / 2 ^ j % 2 + y / 2 ^ j % 2 = 2 then 2 ^ j else 0) := by
  rw [Nat.mod_pow_succ, Nat.and_div_two_pow]
  have h := @Nat.and_mod_two_eq_one (x / 2 ^ j) (y / 2 ^ j)
  rcases Nat.mod_two_eq_zero_or_one (x / 2 ^ j &&& y / 2 ^ j) with e | e
  · rw [e, Nat.mul_zero, if_neg (fun z => by have := h.mpr ⟨by omega, by omega⟩; omega)]
  · have := h.mp e
    rw [e, Nat.mul_one, if_pos (by omega)]
theorem bits_or (x y j : Nat) : (x ||| y) % 2 ^ (j + 1) = (x ||| y) % 2 ^ j + (if x / 2 ^ j % 2 + y / 2 ^ j % 2 > 0 then 2 ^ j else 0) := by
  rw [Nat.mod_pow_succ, Nat.or_div_two_pow]
  have h := @Nat.or_mod_two_eq_one (x / 2 ^ j) (y / 2 ^ j)
  rcases Nat.mod_two_eq_zero_or_one (x / 2 ^ j ||| y / 2 ^ j) with e | e
  · rw [e, Nat.mul_zero, if_neg (fun z => by
      have := h.mpr (by omega)
      omega)]
  · have := h.mp e
    rw [e, Nat.mul_one, if_pos (by omega)]
theorem bits_xor (x y j : Nat) : (x ^^^ y) % 2 ^ (j + 1) = (x ^^^ y) % 2 ^ j + (if x / 2 ^ j % 2 + y / 2 ^ j % 2 = 1 then 2 ^ j else 0) := by
  rw [Nat.mod_pow_succ, Nat.xor_div_two_pow]
  have h := @Nat.xor_mod_two_eq_one (x / 2 ^ j) (y / 2 ^ j)
  rcases Nat.mod_two_eq_zero_or_one (x / 2 ^ j ^^^ y / 2 ^ j) with e | e
  · rw [e, Nat.mul_zero, if_neg (fun z => by
      have := h.mpr (by omega)
      omega)]
  · have := h.mp e
    rw [e, Nat.mul_one, if_pos (by omega)]
theorem pow_cast (j : Nat) : ((2 ^ j : Nat) : Int) = 2 ^ j := by rw [Int.natCast_pow]; rfl
theorem mask (x : Nat) (w : Nat) : Builtin.bitAnd (x : Int) (1 * 2 ^ ((w : Nat) : Int).toNat - 1) = ((x % 2 ^ w : Nat) : Int) := by
  rw [Int.one_mul, Int.toNat_natCast, Bits.bitAnd_mask w (Int.natCast_nonneg x), Int.natCast_emod, pow_cast]
theorem made_both (n : Int) (x y z w : Nat) : Kd.made ⟨.both, n⟩ [(x : Int), y, z] w = (((x &&& y) % 2 ^ w : Nat) : Int) := by
  show Builtin.bitAnd (Builtin.bitAnd (x : Int) (y : Int)) _ = _
  rw [bitAnd_pp (Int.natCast_nonneg x) (Int.natCast_nonneg y), Int.toNat_natCast, Int.toNat_natCast]
  exact mask _ _
theorem made_either (n : Int) (x y z w : Nat) : Kd.made ⟨.either, n⟩ [(x : Int), y, z] w = (((x ||| y) % 2 ^ w : Nat) : Int) := by
  show Builtin.bitAnd (Builtin.bitOr (x : Int) (y : Int)) _ = _
  rw [Bits.bitOr_pp (Int.natCast_nonneg x) (Int.natCast_nonneg y), Int.toNat_natCast, Int.toNat_natCast]
  exact mask _ _
theorem made_odd (n : Int) (x y z w : Nat) : Kd.made ⟨.odd, n⟩ [(x : Int), y, z] w = (((x ^^^ y) % 2 ^ w : Nat) : Int) := by
  show Builtin.bitAnd (Builtin.bitXor (x : Int) (y : Int)) _ = _
  rw [Bits.bitXor_pp (Int.natCast_nonneg x) (Int.natCast_nonneg y), Int.toNat_natCast, Int.toNat_natCast]
  exact mask _ _
theorem made_plus (n : Int) (x y z w : Nat) : Kd.made ⟨.plus, n⟩ [(x : Int), y, z] w = (((x + y) % 2 ^ w : Nat) : Int) := by
  show Builtin.bitAnd ((x : Int) + (y : Int)) _ = _
  rw [← Int.natCast_add]
  exact mask _ _
theorem made_pick (n : Int) (x y z w : Nat) (hy : y < 2 ^ w) (hz : z < 2 ^ w) : Kd.made ⟨.pick, n⟩ [(x : Int), y, z] w = if x = 0 then (z : Int) else (y : Int) := by
  show Builtin.bitAnd (if (x : Int) = 0 then (z : Int) else (y : Int)) _ = _
  by_cases h : x = 0
  · rw [if_pos h, if_pos (by omega), mask, Nat.mod_eq_of_lt hz]
  · rw [if_neg h, if_neg (by omega), mask, Nat.mod_eq_of_lt hy]
theorem made_snk (n : Int) (x y z w : Nat) (hx : x < 2 ^ w) : Kd.made ⟨.snk, n⟩ [(x : Int), y, z] w = (x : Int) := by
  show Builtin.bitAnd (x : Int) _ = _
  rw [mask, Nat.mod_eq_of_lt hx]
theorem made_up (n x y z w : Nat) : Kd.made ⟨.up, n⟩ [(x : Int), y, z] w = ((x * 2 ^ n % 2 ^ w : Nat) : Int) := by
  show Builtin.bitAnd ((x : Int) * 2 ^ ((n : Nat) : Int).toNat) _ = _
  rw [Int.toNat_natCast, ← pow_cast, ← Int.natCast_mul]
  exact mask _ _
theorem made_down (n x y z w : Nat) (hx : x < 2 ^ w) : Kd.made ⟨.down, n⟩ [(x : Int), y, z] w = ((x / 2 ^ n : Nat) : Int) := by
  show Builtin.bitAnd ((x : Int) / 2 ^ ((n : Nat) : Int).toNat) _ = _
  rw [Int.toNat_natCast, ← pow_cast, ← Int.natCast_ediv, mask, Nat.mod_eq_of_lt (Nat.lt_of_le_of_lt (Nat.div_le_self ..) hx)]
end SW


/-! ### a works run beat by beat -/
namespace SW
open PySem PySem.Spec PyProof.Rows L2 He TL
def cameOf (R : Str → List Int) (p : Pd) (t : Nat) : List Int := p.feeds.map fun f => if (t : Int) < f.2 then 0 else (R f.1).getD (t - f.2.toNat) 0
def dueAt (rows : Str → List Int) (w : Int) (R : Str → List Int) (p : Pd) (t : Nat) : Int := if p.kd.c = .src then (rows p.name).getD t 0 else p.kd.made (cameOf R p t) w
def namesK (ad : Str → Addr) (ps : List Pd) : List (Key × V) := dictOf (fun p => V.ref (ad p.name)) ps
structure GivenAt (H : Hp) (q : Addr) (ps : List Pd) (ad : Str → Addr) (R : Str → List Int) : Prop where
  dict : H q = some (.dK (namesK ad ps))
  each : ∀ p ∈ ps, H (ad p.name) = some (.lst ((R p.name).map V.int))
/-- the rows handed in -/
def RowsAt (H : Hp) (a : Addr) (ps : List Pd) (rows : Str → List Int) : Prop := ∃ kvs, H a = some (.dK kvs) ∧ ∀ p ∈ ps, p.kd.c = .src → ∃ l, valV kvs (Sum.inr p.name : Key) = some (.ref l) ∧ H l = some (.lst ((rows p.name).map V.int))
/-- what comes stands, as far as it is asked -/
def Ready (R : Str → List Int) (p : Pd) (t : Nat) : Prop := ∀ f ∈ p.feeds, 0 ≤ f.2 ∧ (¬ (t : Int) < f.2 → t - f.2.toNat < (R f.1).length)
def spComeTo (K : PySem.W.Frag) : Sp := fun vs H Q _ => ∃ (G : Hp) (v : V) (p : Pd) (q : Addr) (ps : List Pd) (ad : Str → Addr) (R : Str → List Int) (t : Nat), vs = [v, .ref q, .int (t : Int)] ∧ Same G H ∧ PartAt K G v p ∧ GivenAt H q ps ad R ∧ Wf ps ∧ p ∈ ps ∧ Ready R p t ∧
  ∀ l H', Same H H' → H l = none → H' l = some (.lst ((cameOf R p t).map V.int)) → Q (.ref l) H'
section
variable {P : Program} {w : World} {K : PySem.W.Frag} {mg : Str → Option Value} {base : Heap}
end
end SW


/-! ### the run, beat by beat -/
namespace SW
open PySem PySem.Spec PyProof.Rows L2 He TL
theorem nodup_pre {l : List Pd} (hnd : (l.map Pd.name).Nodup) {i : Nat} {p : Pd} (hi : l[i]? = some p) : p.name ∉ (l.take i).map Pd.name := fun hm => by
  obtain ⟨r, hr, e⟩ := List.mem_map.mp hm
  obtain ⟨j, hj⟩ := List.mem_iff_getElem?.mp hr
  rw [List.getElem?_take] at hj
  split at hj
  · rename_i hlt
    obtain ⟨h1, rfl⟩ := List.getElem?_eq_some_iff.mp hj
    obtain ⟨h2, rfl⟩ := List.getElem?_eq_some_iff.mp hi
    have := List.pairwise_iff_getElem.mp hnd j i (by rw [List.length_map]; exact h1) (by rw [List.length_map]; exact h2) hlt
    rw [List.getElem_map, List.getElem_map] at this
    exact this e
  · cases hj
theorem nodup_uniq {l : List Pd} (hnd : (l.map Pd.name).Nodup) {p r : Pd} (hp : p ∈ l) (hr : r ∈ l) (e : p.name = r.name) : p = r := by
  obtain ⟨i, hi⟩ := List.mem_iff_getElem?.mp hp
  obtain ⟨j, hj⟩ := List.mem_iff_getElem?.mp hr
  rcases Nat.lt_trichotomy i j with h | h | h
  · refine absurd ?_ (nodup_pre hnd hj)
    rw [← e]
    exact List.mem_map.mpr ⟨p, List.mem_iff_getElem?.mpr ⟨i, by rw [List.getElem?_take_of_lt h]; exact hi⟩, rfl⟩
  · subst h
    rw [hi] at hj
    exact Option.some.inj hj
  · refine absurd ?_ (nodup_pre hnd hi)
    rw [e]
    exact List.mem_map.mpr ⟨r, List.mem_iff_getElem?.mpr ⟨j, by rw [List.getElem?_take_of_lt h]; exact hj⟩, rfl⟩
structure RunInv (rows : Str → List Int) (w : Int) (ps : List Pd) (R : Str → List Int) (b : Nat) (done : List Str) : Prop where
  len : ∀ p ∈ ps, (R p.name).length = if p.name ∈ done then b + 1 else b
  due : ∀ p ∈ ps, ∀ t, t < (R p.name).length → (R p.name)[t]? = some (dueAt rows w R p t)
  rng : ∀ p ∈ ps, ∀ x ∈ R p.name, 0 ≤ x ∧ x < 2 ^ w.toNat
def addR (R : Str → List Int) (n : Str) (x : Int) : Str → List Int := fun m => if m = n then R m ++ [x] else R m
theorem addR_get {R : Str → List Int} {n m : Str} {x : Int} {i : Nat} (h : i < (R m).length) : (addR R n x m).getD i 0 = (R m).getD i 0 := by
  unfold addR
  split
  · rw [List.getD_eq_getElem?_getD, List.getElem?_append_left h, ← List.getD_eq_getElem?_getD]
  · rfl
theorem came_addR {R : Str → List Int} {p : Pd} {t : Nat} {n : Str} {x : Int} (h : Ready R p t) : cameOf (addR R n x) p t = cameOf R p t := by
  unfold cameOf
  refine List.map_congr_left fun f hf => ?_
  by_cases h1 : (t : Int) < f.2
  · rw [if_pos h1, if_pos h1]
  · rw [if_neg h1, if_neg h1, addR_get ((h f hf).2 h1)]
section
variable {rows : Str → List Int} {w : Int} {ps : List Pd} {R : Str → List Int} {b : Nat} {done : List Str}
theorem RunInv.ready (h : RunInv rows w ps R b done) (hf : Wf ps) (hh : ∀ p ∈ ps, ∀ f ∈ p.feeds, 0 ≤ f.2) {p : Pd} (hp : p ∈ ps) {t : Nat} (ht : t < b ∨ (t = b ∧ ∀ f ∈ p.feeds, f.2 = 0 → f.1 ∈ done)) : Ready R p t := by
  intro f hfm
  have h0 := hh p hp f hfm
  refine ⟨h0, fun h1 => ?_⟩
  obtain ⟨r, hr1, hr2⟩ := hf.cl p hp f hfm
  have hl := h.len r hr1
  rw [hr2] at hl
  have hb : b ≤ (R f.1).length := by rw [hl]; split <;> omega
  rcases ht with ht | ⟨rfl, hd⟩
  · omega
  · by_cases hz : f.2 = 0
    · rw [if_pos (hd f hfm hz)] at hl
      omega
    · omega
theorem RunInv.step (h : RunInv rows w ps R b done) (hf : Wf ps) (hh : ∀ p ∈ ps, ∀ f ∈ p.feeds, 0 ≤ f.2) (hc : ∀ p ∈ ps, p.name ∈ done → ∀ f ∈ p.feeds, f.2 = 0 → f.1 ∈ done) {p : Pd} (hp : p ∈ ps) (hn : p.name ∉ done) (hz : ∀ f ∈ p.feeds, f.2 = 0 → f.1 ∈ done)
    (hx : 0 ≤ dueAt rows w R p b ∧ dueAt rows w R p b < 2 ^ w.toNat) : RunInv rows w ps (addR R p.name (dueAt rows w R p b)) b (done ++ [p.name]) := by
  have hlen : (R p.name).length = b := by rw [h.len p hp, if_neg hn]
  have same : ∀ {r : Pd} {t : Nat}, Ready R r t → dueAt rows w (addR R p.name (dueAt rows w R p b)) r t = dueAt rows w R r t := fun hr => by
    unfold dueAt
    rw [came_addR hr]
  have rdy : ∀ r ∈ ps, ∀ t, t < (R r.name).length → Ready R r t := fun r hr t ht => by
    refine h.ready hf hh hr ?_
    rw [h.len r hr] at ht
    by_cases hd : r.name ∈ done
    · rw [if_pos hd] at ht
      by_cases e : t = b
      · exact .inr ⟨e, hc r hr hd⟩
      · exact .inl (by omega)
    · rw [if_neg hd] at ht
      exact .inl ht
  refine ⟨fun r hr => ?_, fun r hr t ht => ?_, fun r hr x hxm => ?_⟩
  · unfold addR
    by_cases e : r.name = p.name
    · rw [if_pos e, if_pos (by rw [e]; simp), List.length_append, e, hlen] <;> rfl
    · rw [if_neg e, h.len r hr]
      have : r.name ∈ done ++ [p.name] ↔ r.name ∈ done := by simp [e]
      by_cases hd : r.name ∈ done
      · rw [if_pos hd, if_pos (this.mpr hd)]
      · rw [if_neg hd, if_neg (fun z => hd (this.mp z))]
  · by_cases e : r.name = p.name
    · have er : r = p := nodup_uniq hf.nd hr hp e
      subst er
      have hget : addR R r.name (dueAt rows w R r b) r.name = R r.name ++ [dueAt rows w R r b] := if_pos rfl
      rw [hget] at ht ⊢
      rw [List.length_append, List.length_singleton] at ht
      by_cases hlt : t < (R r.name).length
      · rw [List.getElem?_append_left hlt, h.due r hr t hlt, same (rdy r hr t hlt)]
      · have : t = b := by omega
        subst this
        rw [List.getElem?_append_right (by omega), hlen, Nat.sub_self, same (h.ready hf hh hr (.inr ⟨rfl, hz⟩))] <;> rfl
    · have hget : addR R p.name (dueAt rows w R p b) r.name = R r.name := if_neg e
      rw [hget] at ht ⊢
      rw [h.due r hr t ht, same (rdy r hr t ht)]
  · unfold addR at hxm
    split at hxm
    · rcases List.mem_append.mp hxm with z | z
      · exact h.rng r hr x z
      · rw [List.mem_singleton.mp z]
        exact hx
    · exact h.rng r hr x hxm
theorem RunInv.next (h : RunInv rows w ps R b done) (hd : ∀ p ∈ ps, p.name ∈ done) : RunInv rows w ps R (b + 1) [] :=
  ⟨fun p hp => by rw [h.len p hp, if_pos (hd p hp), if_neg (by simp)], h.due, h.rng⟩
end
theorem joined_nn {k : Kd} {ns : List Int} (h : ∀ x ∈ ns, 0 ≤ x) (hok : k.ok) : 0 ≤ k.joined ns := by
  obtain ⟨c, n⟩ := k
  have p2 : ∀ m : Nat, (0 : Int) < 2 ^ m := fun m => Int.pow_pos (by decide)
  unfold Kd.joined
  split
  · exact h _ (by simp)
  · rw [bitAnd_pp (h _ (by simp)) (h _ (by simp))]
    exact Int.natCast_nonneg _
  · exact Bits.bitOr_nonneg (h _ (by simp)) (h _ (by simp))
  · exact Bits.bitXor_nonneg (h _ (by simp)) (h _ (by simp))
  · have := h _ (show _ ∈ _ from List.mem_cons_self ..)
    have h2 := h _ (show _ ∈ _ from List.mem_cons_of_mem _ (List.mem_cons_self ..))
    omega
  · split
    · exact h _ (by simp)
    · exact h _ (by simp)
  · exact Int.mul_nonneg (h _ (by simp)) (Int.le_of_lt (p2 _))
  · exact Int.ediv_nonneg (h _ (by simp)) (Int.le_of_lt (p2 _))
  · exact Int.le_refl _
theorem made_rng {k : Kd} {ns : List Int} {w : Int} (h : ∀ x ∈ ns, 0 ≤ x) (hok : k.ok) : 0 ≤ k.made ns w ∧ k.made ns w < 2 ^ w.toNat := by
  unfold Kd.made
  rw [Int.one_mul, Bits.bitAnd_mask _ (joined_nn h hok)]
  have p2 : (0 : Int) < 2 ^ w.toNat := Int.pow_pos (by decide)
  exact ⟨Int.emod_nonneg _ (by omega), Int.emod_lt_of_pos _ p2⟩
theorem came_nn {R : Str → List Int} {p : Pd} {t : Nat} {ps : List Pd} {w : Int} (hf : Wf ps) (hp : p ∈ ps) (h : ∀ p ∈ ps, ∀ x ∈ R p.name, 0 ≤ x ∧ x < 2 ^ w.toNat) : ∀ x ∈ cameOf R p t, 0 ≤ x ∧ x < 2 ^ w.toNat := by
  have p2 : (0 : Int) < 2 ^ w.toNat := Int.pow_pos (by decide)
  intro x hx
  obtain ⟨f, hfm, rfl⟩ := List.mem_map.mp hx
  obtain ⟨r, hr1, hr2⟩ := hf.cl p hp f hfm
  split
  · exact ⟨Int.le_refl _, p2⟩
  · rw [List.getD_eq_getElem?_getD]
    cases e : (R f.1)[t - f.2.toNat]? with
    | none => exact ⟨Int.le_refl _, p2⟩
    | some y =>
      have := h r hr1
      rw [hr2] at this
      exact this y (List.mem_of_getElem? e)
def RunOk (rows : Str → List Int) (w : Int) (ps : List Pd) (R : Str → List Int) (beats : Nat) : Prop :=
  ∀ p ∈ ps, (R p.name).length = beats ∧ (∀ t, t < beats → (R p.name)[t]? = some (dueAt rows w R p t)) ∧ ∀ x ∈ R p.name, 0 ≤ x ∧ x < 2 ^ w.toNat
def InjOn (ad : Str → Addr) (ps : List Pd) : Prop := ∀ p ∈ ps, ∀ r ∈ ps, ad p.name = ad r.name → p.name = r.name
def spRun (K : PySem.W.Frag) : Sp := fun vs H Q _ => ∃ (G : Hp) (wa ra : Addr) (ps : List Pd) (rows : Str → List Int) (beats : Nat) (w : Int), vs = [.ref wa, .ref ra, .int (beats : Int), .int w] ∧ Same G H ∧ WorksAt K G wa ps ∧ Wf ps ∧ RowsAt H ra ps rows ∧
  (∀ p ∈ ps, p.kd.c = .src → beats ≤ (rows p.name).length ∧ ∀ x ∈ rows p.name, 0 ≤ x ∧ x < 2 ^ w.toNat) ∧ (∀ p ∈ ps, ∀ f ∈ p.feeds, 0 ≤ f.2) ∧ beats ≤ 1000 ∧ 0 ≤ w ∧ w ≤ 64 ∧
  ∀ q ad R H', Same H H' → H q = none → GivenAt H' q ps ad R → RunOk rows w ps R beats → (∀ p ∈ ps, H (ad p.name) = none) → InjOn ad ps → Q (.ref q) H'
section
variable {P : Program} {w : World} {K : PySem.W.Frag} {mg : Str → Option Value} {base : Heap}
end
end SW


/-! ### ways along lines, in plain Lean -/
namespace SW
open PySem PySem.Spec PyProof.Rows L2 He TL
abbrev Ln := Str × Str × Int
def lnHeld (L : List Ln) (i : Nat) : Int := ((L[i]?).map fun f => f.2.2).getD 0
def lnTo (L : List Ln) (i : Nat) : Str := ((L[i]?).map fun f => f.2.1).getD ""
def heldW (L : List Ln) (w : List Nat) : Int := (w.map (lnHeld L)).sum
def timeW (L : List Ln) (tm : Str → Int) (u : Str) (w : List Nat) : Int := tm u + (w.map fun i => tm (lnTo L i)).sum
/-- a way from u to v, at least one line, all between in S -/
inductive Via (L : List Ln) (S : Str → Prop) : Str → List Nat → Str → Prop
  | one {i : Nat} {f : Ln} : L[i]? = some f → Via L S f.1 [i] f.2.1
  | cons {i : Nat} {f : Ln} {w : List Nat} {v : Str} : L[i]? = some f → S f.2.1 → Via L S f.2.1 w v → Via L S f.1 (i :: w) v
section
variable {L : List Ln} {tm : Str → Int} {S S' : Str → Prop} {u v m : Str} {w w1 w2 : List Nat}
theorem held_cons {i : Nat} {f : Ln} (h : L[i]? = some f) : heldW L (i :: w) = f.2.2 + heldW L w := by
  unfold heldW lnHeld
  rw [List.map_cons, List.sum_cons, h] <;> rfl
theorem held_one {i : Nat} {f : Ln} (h : L[i]? = some f) : heldW L [i] = f.2.2 := by
  rw [held_cons h]
  show f.2.2 + 0 = _
  omega
theorem time_cons {i : Nat} {f : Ln} (h : L[i]? = some f) : timeW L tm u (i :: w) = tm u + timeW L tm f.2.1 w := by
  unfold timeW
  rw [List.map_cons, List.sum_cons, show lnTo L i = f.2.1 by unfold lnTo; rw [h]; rfl]
theorem time_one {i : Nat} {f : Ln} (h : L[i]? = some f) : timeW L tm u [i] = tm u + tm f.2.1 := by
  rw [time_cons h]
  unfold timeW
  show tm u + (tm f.2.1 + 0) = _
  omega
theorem held_app (a b : List Nat) : heldW L (a ++ b) = heldW L a + heldW L b := by
  unfold heldW
  rw [List.map_append, List.sum_append]
theorem time_app (a b : List Nat) : timeW L tm u (a ++ b) = timeW L tm u a + timeW L tm m b - tm m := by
  unfold timeW
  rw [List.map_append, List.sum_append]
  omega
theorem Via.mono (h : Via L S u w v) (e : ∀ x, S x → S' x) : Via L S' u w v := by
  induction h with
  | one h => exact .one h
  | cons h s _ ih => exact .cons h (e _ s) ih
theorem Via.app (h : Via L S u w1 m) (hm : S m) (h2 : Via L S m w2 v) : Via L S u (w1 ++ w2) v := by
  induction h with
  | one h => exact .cons h hm h2
  | cons h s _ ih => exact .cons h s (ih hm h2)
theorem Via.ne (h : Via L S u w v) : w ≠ [] := by cases h <;> simp
theorem Via.first (h : Via L S u w v) : ∃ f ∈ L, f.1 = u := by
  cases h with
  | one h => exact ⟨_, List.mem_of_getElem? h, rfl⟩
  | cons h _ _ => exact ⟨_, List.mem_of_getElem? h, rfl⟩
theorem Via.last (h : Via L S u w v) : ∃ f ∈ L, f.2.1 = v := by
  induction h with
  | one h => exact ⟨_, List.mem_of_getElem? h, rfl⟩
  | cons _ _ _ ih => exact ih
theorem Via.all (h : Via L S u w v) (e : ∀ f ∈ L, S' f.1) : Via L S' u w v := by
  induction h with
  | one h => exact .one h
  | cons h _ h2 ih =>
    obtain ⟨f, hf, e2⟩ := h2.first
    exact .cons h (by rw [← e2]; exact e f hf) ih
theorem held_nn (hc : ∀ f ∈ L, 0 ≤ f.2.2) : ∀ w : List Nat, 0 ≤ heldW L w
  | [] => Int.le_refl _
  | i :: w => by
    have ih := held_nn hc w
    unfold heldW at ih ⊢
    rw [List.map_cons, List.sum_cons]
    have : 0 ≤ lnHeld L i := by
      unfold lnHeld
      cases e : L[i]? with
      | none => exact Int.le_refl _
      | some f => exact hc f (List.mem_of_getElem? e)
    omega
theorem Via.rank {rank : Str → Nat} (hc : ∀ f ∈ L, 0 ≤ f.2.2) (hr : ∀ f ∈ L, f.2.2 = 0 → rank f.1 < rank f.2.1) (h : Via L S u w v) : heldW L w = 0 → rank u < rank v := by
  induction h with
  | one h =>
    intro h0
    rw [held_one h] at h0
    exact hr _ (List.mem_of_getElem? h) h0
  | @cons i f w v h _ _ ih =>
    intro h0
    rw [held_cons h] at h0
    have h1 := hc _ (List.mem_of_getElem? h)
    have h2 := held_nn hc w
    exact Nat.lt_trans (hr _ (List.mem_of_getElem? h) (by omega)) (ih (by omega))
end
/-- lines as they stand in a works: no store below nought, no ring without stores -/
structure Sound (L : List Ln) : Prop where
  nn : ∀ f ∈ L, 0 ≤ f.2.2
  ac : ∃ rank : Str → Nat, ∀ f ∈ L, f.2.2 = 0 → rank f.1 < rank f.2.1
section
variable {L : List Ln} {tm : Str → Int} {S : Str → Prop} {u v m : Str} {w : List Nat}
theorem Sound.ring (h : Sound L) (hv : Via L S u w u) : 1 ≤ heldW L w := by
  obtain ⟨rank, hr⟩ := h.ac
  have h1 := held_nn h.nn w
  by_cases h0 : heldW L w = 0
  · exact absurd (hv.rank h.nn hr h0) (Nat.lt_irrefl _)
  · omega
/-- a way through m, cut at m -/
theorem Sound.split (h : Sound L) (hv : Via L (fun x => S x ∨ x = m) u w v) : Via L S u w v ∨
    ∃ w1 w2, Via L S u w1 m ∧ Via L S m w2 v ∧ (heldW L w1 + heldW L w2 < heldW L w ∨ (heldW L w1 + heldW L w2 = heldW L w ∧ timeW L tm u w1 + timeW L tm m w2 - tm m = timeW L tm u w)) := by
  induction hv with
  | one h1 => exact .inl (.one h1)
  | @cons i f w v h1 s hv ih =>
    have hf := h.nn _ (List.mem_of_getElem? h1)
    by_cases hm : f.2.1 = m
    · have e1 := held_one h1
      have e2 : timeW L tm f.1 [i] = tm f.1 + tm f.2.1 := time_one h1
      have e3 := held_cons (w := w) h1
      have e4 : timeW L tm f.1 (i :: w) = tm f.1 + timeW L tm f.2.1 w := time_cons h1
      have v1 : Via L S f.1 [i] m := by
        rw [← hm]
        exact .one h1
      rcases ih with ih | ⟨a, b, ha, hb, hn⟩
      · refine .inr ⟨[i], w, v1, by rw [← hm]; exact ih, .inr ⟨by omega, ?_⟩⟩
        rw [← hm]
        omega
      · have hr : 1 ≤ heldW L a := by
          rw [hm] at ha
          exact h.ring ha
        refine .inr ⟨[i], b, v1, hb, .inl ?_⟩
        rcases hn with hn | ⟨hn, _⟩ <;> omega
    · have hs : S f.2.1 := s.resolve_right hm
      rcases ih with ih | ⟨a, b, ha, hb, hn⟩
      · exact .inl (.cons h1 hs ih)
      · refine .inr ⟨i :: a, b, .cons h1 hs ha, hb, ?_⟩
        rw [held_cons h1, held_cons h1, time_cons h1, time_cons h1]
        rcases hn with hn | ⟨hn, ht⟩
        · exact .inl (by omega)
        · exact .inr ⟨by omega, by omega⟩
end
/-! ### the best ways -/
structure St where
  first : Str
  last : Str
  held : Int
  takes : Int
  places : List Nat
structure St.ok (L : List Ln) (tm : Str → Int) (s : St) : Prop where
  way : Via L (fun _ => True) s.first s.places s.last
  held : s.held = heldW L s.places
  takes : s.takes = timeW L tm s.first s.places
def St.le (s : St) (h t : Int) : Prop := s.held < h ∨ (s.held = h ∧ t ≤ s.takes)
def St.better (s o : St) : Bool := decide (s.held < o.held) || (decide (s.held = o.held) && decide (o.takes < s.takes))
theorem better_le {s o : St} {h t : Int} (hb : s.better o = true) (ho : o.le h t) : s.le h t := by
  unfold St.better at hb
  rw [Bool.or_eq_true, Bool.and_eq_true, decide_eq_true_eq, decide_eq_true_eq, decide_eq_true_eq] at hb
  unfold St.le at ho ⊢
  omega
theorem not_better {s o : St} (hb : s.better o = false) : o.le s.held s.takes := by
  unfold St.better at hb
  rw [Bool.or_eq_false_iff, Bool.and_eq_false_iff, decide_eq_false_iff_not, decide_eq_false_iff_not, decide_eq_false_iff_not] at hb
  unfold St.le
  omega
def Tb := Str → Str → Option St
def Tb.take (T : Tb) (s : St) : Tb := fun u v => if u = s.first ∧ v = s.last then (match T u v with | none => some s | some o => if s.better o = true then some s else some o) else T u v
structure Tb.Ok (L : List Ln) (tm : Str → Int) (T : Tb) : Prop where
  each : ∀ u v s, T u v = some s → s.first = u ∧ s.last = v ∧ s.ok L tm
/-- T tells as good a way as any with these numbers -/
def Tb.has (T : Tb) (u v : Str) (h t : Int) : Prop := ∃ s, T u v = some s ∧ s.le h t
def Tb.Opt (L : List Ln) (tm : Str → Int) (T : Tb) (S : Str → Prop) : Prop := ∀ u v w, Via L S u w v → T.has u v (heldW L w) (timeW L tm u w)
section
variable {L : List Ln} {tm : Str → Int} {T : Tb} {s : St}
theorem Tb.Ok.take (h : T.Ok L tm) (hs : s.ok L tm) : (T.take s).Ok L tm := by
  refine ⟨fun u v o e => ?_⟩
  unfold Tb.take at e
  split at e
  · rename_i c
    split at e
    · cases e
      exact ⟨c.1.symm, c.2.symm, hs⟩
    · rename_i o2 e2
      split at e
      · cases e
        exact ⟨c.1.symm, c.2.symm, hs⟩
      · cases e
        exact h.each u v _ e2
  · exact h.each u v o e
theorem Tb.has.take {u v : Str} {h t : Int} (x : T.has u v h t) : (T.take s).has u v h t := by
  obtain ⟨o, e, l⟩ := x
  unfold Tb.has Tb.take
  split
  · rw [e]
    by_cases hb : s.better o = true
    · exact ⟨s, if_pos hb, better_le hb l⟩
    · exact ⟨o, if_neg hb, l⟩
  · exact ⟨o, e, l⟩
theorem Tb.has.self : (T.take s).has s.first s.last s.held s.takes := by
  unfold Tb.has Tb.take
  rw [if_pos ⟨rfl, rfl⟩]
  cases e : T s.first s.last with
  | none => exact ⟨s, rfl, .inr ⟨rfl, Int.le_refl _⟩⟩
  | some o =>
    by_cases hb : s.better o = true
    · exact ⟨s, if_pos hb, .inr ⟨rfl, Int.le_refl _⟩⟩
    · exact ⟨o, if_neg hb, not_better (Bool.eq_false_iff.mpr hb)⟩
theorem St.le.trans {h t h2 t2 : Int} (x : s.le h t) (e : h < h2 ∨ (h = h2 ∧ t2 ≤ t)) : s.le h2 t2 := by
  unfold St.le at x ⊢
  omega
/-- one part more between -/
theorem Tb.Opt.step {T' : Tb} {S : Str → Prop} {m : Str} (hL : Sound L) (h : T.Opt L tm S) (mono : ∀ u v h t, T.has u v h t → T'.has u v h t)
    (join : ∀ u v one two, u ≠ m → v ≠ m → T u m = some one → T m v = some two → T'.has u v (one.held + two.held) (one.takes + two.takes - tm m)) : T'.Opt L tm (fun x => S x ∨ x = m) := by
  intro u v w hv
  rcases hL.split (tm := tm) hv with h1 | ⟨w1, w2, h1, h2, hn⟩
  · exact mono _ _ _ _ (h u v w h1)
  have n1 := held_nn hL.nn w1
  have n2 := held_nn hL.nn w2
  by_cases hu : u = m
  · have hr : 1 ≤ heldW L w1 := by
      rw [hu] at h1
      exact hL.ring h1
    obtain ⟨s, e, l⟩ := h m v w2 h2
    rw [hu]
    refine mono _ _ _ _ ⟨s, e, l.trans (.inl ?_)⟩
    rcases hn with hn | ⟨hn, _⟩ <;> omega
  · by_cases hvm : v = m
    · have hr : 1 ≤ heldW L w2 := by
        rw [hvm] at h2
        exact hL.ring h2
      obtain ⟨s, e, l⟩ := h u m w1 h1
      rw [hvm]
      refine mono _ _ _ _ ⟨s, e, l.trans (.inl ?_)⟩
      rcases hn with hn | ⟨hn, _⟩ <;> omega
    · obtain ⟨one, e1, l1⟩ := h u m w1 h1
      obtain ⟨two, e2, l2⟩ := h m v w2 h2
      obtain ⟨s, e, l⟩ := join u v one two hu hvm e1 e2
      refine ⟨s, e, l.trans ?_⟩
      unfold St.le at l1 l2
      omega
theorem St.ok.join {one two : St} (h1 : one.ok L tm) (h2 : two.ok L tm) (e : one.last = two.first) : (St.mk one.first two.last (one.held + two.held) (one.takes + two.takes - tm one.last) (one.places ++ two.places)).ok L tm := by
  refine ⟨h1.way.app trivial (by rw [e]; exact h2.way), ?_, ?_⟩
  · show _ = heldW L (one.places ++ two.places)
    rw [held_app, h1.held, h2.held]
  · show _ = timeW L tm one.first (one.places ++ two.places)
    rw [time_app (m := one.last), h1.takes, h2.takes, e]
end
/-- the steps that best_steps tells -/
structure Best (L : List Ln) (tm : Str → Int) (sts : List St) : Prop where
  ok : ∀ s ∈ sts, s.ok L tm ∧ s.first ≠ s.last
  opt : ∀ u v w, u ≠ v → Via L (fun _ => True) u w v → ∃ s ∈ sts, s.first = u ∧ s.last = v ∧ s.le (heldW L w) (timeW L tm u w)
end SW


/-! ### steps and their table -/
namespace SW
open PySem PySem.Spec PyProof.Rows L2 He TL
def spSet5 (C : Addr) (a b c d e : Str) : Sp := fun vs H Q _ => ∃ (x dx : Addr) (v1 v2 v3 v4 v5 : V), vs = [.ref x, v1, v2, v3, v4, v5] ∧ H x = some (.ins C dx []) ∧ Q .non (upd H x (.ins C dx [(a, v1), (b, v2), (c, v3), (d, v4), (e, v5)]))
def stepFlds (s : St) (l : Addr) : List (Str × V) := [("first", .str s.first), ("last", .str s.last), ("held", .int s.held), ("takes", .int s.takes), ("places", .ref l)]
structure StepIn (K : PySem.W.Frag) (G : Hp) (a : Addr) (s : St) (dx l : Addr) : Prop where
  ob : G a = some (.ins (ga K "Step") dx (stepFlds s l))
  ls : G l = some (.lst (s.places.map fun n : Nat => V.int (n : Int)))
def StepAt (K : PySem.W.Frag) (G : Hp) (v : V) (s : St) : Prop := ∃ a dx l, v = .ref a ∧ StepIn K G a s dx l
theorem StepIn.mono {K : PySem.W.Frag} {G G' : Hp} {a dx l : Addr} {s : St} (e : Same G G') (h : StepIn K G a s dx l) : StepIn K G' a s dx l := ⟨e _ _ h.ob, e _ _ h.ls⟩
theorem StepAt.mono {K : PySem.W.Frag} {G G' : Hp} {v : V} {s : St} (e : Same G G') (h : StepAt K G v s) : StepAt K G' v s := by
  obtain ⟨a, dx, l, r, h⟩ := h
  exact ⟨a, dx, l, r, h.mono e⟩
/-- times by name -/
def tmOf (ps : List Pd) (n : Str) : Int := ((ps.find? fun p => decide (p.name = n)).map Pd.time).getD 0
theorem find_name {ps : List Pd} (hnd : (ps.map Pd.name).Nodup) {p : Pd} (hp : p ∈ ps) : ps.find? (fun r => decide (r.name = p.name)) = some p := by
  cases e : ps.find? (fun r => decide (r.name = p.name)) with
  | none => exact absurd (decide_eq_true rfl) (List.find?_eq_none.mp e p hp)
  | some r =>
    have h1 := List.find?_some e
    have h2 := List.mem_of_find?_eq_some e
    rw [decide_eq_true_eq] at h1
    rw [nodup_uniq' hnd h2 hp h1]
where
  nodup_uniq' {l : List Pd} (hnd : (l.map Pd.name).Nodup) {p r : Pd} (hp : p ∈ l) (hr : r ∈ l) (e : p.name = r.name) : p = r := by
    obtain ⟨i, hi⟩ := List.mem_iff_getElem?.mp hp
    obtain ⟨j, hj⟩ := List.mem_iff_getElem?.mp hr
    obtain ⟨h1, rfl⟩ := List.getElem?_eq_some_iff.mp hi
    obtain ⟨h2, rfl⟩ := List.getElem?_eq_some_iff.mp hj
    have := (List.getElem_inj (i := i) (j := j) (h₀ := by rw [List.length_map]; exact h1) (h₁ := by rw [List.length_map]; exact h2) hnd).mp (by rw [List.getElem_map, List.getElem_map]; exact e)
    subst this
    rfl
theorem tmOf_at {ps : List Pd} (hnd : (ps.map Pd.name).Nodup) {p : Pd} (hp : p ∈ ps) : tmOf ps p.name = p.time := by
  unfold tmOf
  rw [find_name hnd hp] <;> rfl
def endOf (ps : List Pd) (n : Str) : Bool := ((ps.find? fun p => decide (p.name = n)).map Pd.isEnd).getD false
theorem endOf_at {ps : List Pd} (hnd : (ps.map Pd.name).Nodup) {p : Pd} (hp : p ∈ ps) : endOf ps p.name = p.isEnd := by
  unfold endOf
  rw [find_name hnd hp] <;> rfl
/-- all ends as one -/
def nodeOf (ps : List Pd) (n : Str) : Str := if endOf ps n = true then "" else n
/-- the first of a name, as the program looks for it -/
theorem Wf.at {ps : List Pd} (h : Wf ps) {p : Pd} (hp : p ∈ ps) : ∃ j : Nat, ps[j]? = some p ∧ ∀ (m : Nat) (q : Pd), m < j → ps[m]? = some q → q.name ≠ p.name := by
  obtain ⟨j, hj⟩ := List.mem_iff_getElem?.mp hp
  refine ⟨j, hj, fun m q hm hq z => ?_⟩
  obtain ⟨hm1, rfl⟩ := List.getElem?_eq_some_iff.mp hq
  obtain ⟨hj1, rfl⟩ := List.getElem?_eq_some_iff.mp hj
  have h1 := List.pairwise_iff_getElem.mp h.nd m j (by rw [List.length_map]; exact hm1) (by rw [List.length_map]; exact hj1) hm
  rw [List.getElem_map, List.getElem_map] at h1
  exact h1 z
theorem Wf.byName {ps : List Pd} {n : Str} (h : n ∈ ps.map Pd.name) : ∃ p ∈ ps, p.name = n := by
  obtain ⟨p, hp, e⟩ := List.mem_map.mp h
  exact ⟨p, hp, e⟩
theorem Wf.lineEnds {ps : List Pd} (h : Wf ps) {f : Str × Str × Int} (hf : f ∈ linesOf ps) : f.1 ∈ ps.map Pd.name ∧ f.2.1 ∈ ps.map Pd.name := by
  obtain ⟨p, hp, hm⟩ := List.mem_flatMap.mp hf
  obtain ⟨e, he, rfl⟩ := List.mem_map.mp hm
  obtain ⟨r, hr, hn⟩ := h.cl p hp e he
  exact ⟨List.mem_map.mpr ⟨r, hr, hn⟩, List.mem_map.mpr ⟨p, hp, rfl⟩⟩
theorem Wf.linesLen {ps : List Pd} (h : Wf ps) : (linesOf ps).length ≤ 180 := by
  unfold linesOf
  rw [List.length_flatMap]
  have h1 := sum_le (fun p : Pd => (p.feeds.map fun f => (f.1, p.name, f.2)).length) 3 ps fun p hp => by
    rw [List.length_map, h.ln p hp]
    exact lines_le _
  have h2 := Nat.mul_le_mul_right 3 h.few
  omega
theorem Wf.sound {ps : List Pd} (h : Wf ps) (hc : ∀ p ∈ ps, ∀ f ∈ p.feeds, 0 ≤ f.2) : Sound (linesOf ps) := by
  refine ⟨fun f hf => ?_, ?_⟩
  · obtain ⟨p, hp, hm⟩ := List.mem_flatMap.mp hf
    obtain ⟨e, he, rfl⟩ := List.mem_map.mp hm
    exact hc p hp e he
  · obtain ⟨rank, hr⟩ := h.ac
    refine ⟨rank, fun f hf h0 => ?_⟩
    obtain ⟨p, hp, hm⟩ := List.mem_flatMap.mp hf
    obtain ⟨e, he, rfl⟩ := List.mem_map.mp hm
    exact hr p hp e he h0
def lineSt (L : List Ln) (tm : Str → Int) (i : Nat) : St := match L[i]? with
  | some f => ⟨f.1, f.2.1, f.2.2, tm f.1 + tm f.2.1, [i]⟩
  | none => ⟨"", "", 0, 0, []⟩
def lineSts (L : List Ln) (tm : Str → Int) (n : Nat) : List St := (List.range n).map (lineSt L tm)
theorem lineSt_at {L : List Ln} {tm : Str → Int} {i : Nat} {f : Ln} (h : L[i]? = some f) : lineSt L tm i = ⟨f.1, f.2.1, f.2.2, tm f.1 + tm f.2.1, [i]⟩ := by unfold lineSt; rw [h]
theorem lineSt_ok {L : List Ln} {tm : Str → Int} {i : Nat} {f : Ln} (h : L[i]? = some f) : (lineSt L tm i).ok L tm := by
  rw [lineSt_at h]
  exact ⟨.one h, (held_one h).symm, (time_one h).symm⟩
def spBetter (K : PySem.W.Frag) : Sp := fun vs H Q _ => ∃ (v1 v2 : V) (s o : St), vs = [v1, v2] ∧ StepAt K H v1 s ∧ StepAt K H v2 o ∧ Q (.bl (s.better o)) H
def spLineSteps (K : PySem.W.Frag) : Sp := fun vs H Q _ => ∃ (G : Hp) (a : Addr) (ps : List Pd), vs = [.ref a] ∧ Same G H ∧ WorksAt K G a ps ∧ Wf ps ∧
  ∀ q us G' H', Grow G H G' H' → H q = none → G' q = none → H' q = some (.lst us) → All2 (StepAt K G') us (lineSts (linesOf ps) (tmOf ps) (linesOf ps).length) → Q (.ref q) H'
def spNode (K : PySem.W.Frag) : Sp := fun vs H Q _ => ∃ (G : Hp) (a : Addr) (ps : List Pd) (n : Str), vs = [.ref a, .str n] ∧ Same G H ∧ WorksAt K G a ps ∧ Wf ps ∧ n ∈ ps.map Pd.name ∧ ∀ H', Same H H' → Q (.str (nodeOf ps n)) H'
section
variable {P : Program} {w : World} {K : PySem.W.Frag} {mg : Str → Option Value} {base : Heap}
end
end SW


/-! ### the table of ways -/
namespace SW
open PySem PySem.Spec PyProof.Rows L2 He TL
def key2 (u v : Str) : List Key := [Sum.inr u, Sum.inr v]
structure TabIn (K : PySem.W.Frag) (G : Hp) (kvs : List (List Key × V)) (T : Tb) (names : List Str) : Prop where
  nd : (kvs.map (·.1)).Nodup
  keys : ∀ kv ∈ kvs, ∃ x ∈ names, ∃ y ∈ names, kv.1 = key2 x y
  none : ∀ u v, T u v = none → valV kvs (key2 u v) = none
  some : ∀ u v s, T u v = some s → ∃ a, valV kvs (key2 u v) = some a ∧ StepAt K G a s
def TabAt (K : PySem.W.Frag) (G H : Hp) (d : Addr) (T : Tb) (names : List Str) : Prop := ∃ kvs, H d = some (.dT kvs) ∧ TabIn K G kvs T names
def But (d : Addr) (H H' : Hp) : Prop := ∀ b o, b ≠ d → H b = some o → H' b = some o
theorem But.trans {d : Addr} {H H1 H2 : Hp} (a : But d H H1) (b : But d H1 H2) : But d H H2 := fun c o n e => b c o n (a c o n e)
theorem TabIn.mono {K : PySem.W.Frag} {G G' : Hp} {kvs : List (List Key × V)} {T : Tb} {names : List Str} (h : TabIn K G kvs T names) (e : Same G G') : TabIn K G' kvs T names :=
  ⟨h.nd, h.keys, h.none, fun u v s x => by obtain ⟨a, h1, h2⟩ := h.some u v s x; exact ⟨a, h1, h2.mono e⟩⟩
theorem TabIn.len {K : PySem.W.Frag} {G : Hp} {kvs : List (List Key × V)} {T : Tb} {names : List Str} (h : TabIn K G kvs T names) : kvs.length ≤ names.length * names.length := by
  have h1 := nodup_len (ys := names.flatMap fun x => names.map fun y => key2 x y) h.nd fun k hk => by
    obtain ⟨kv, hkv, rfl⟩ := List.mem_map.mp hk
    obtain ⟨x, hx, y, hy, e⟩ := h.keys kv hkv
    rw [e]
    exact List.mem_flatMap.mpr ⟨x, hx, List.mem_map.mpr ⟨y, hy, rfl⟩⟩
  rw [List.length_map, List.length_flatMap] at h1
  have h2 := sum_le (fun x : Str => (names.map fun y => key2 x y).length) names.length names fun x _ => by rw [List.length_map]; exact Nat.le_refl _
  omega
theorem valV_keyT {kvs : List (List Key × V)} {k : List Key} : (valV kvs k).isSome = true ↔ k ∈ kvs.map (·.1) := by
  rw [← valV_any, List.any_eq_true]
  constructor
  · rintro ⟨x, hx, e⟩
    exact List.mem_map.mpr ⟨x, hx, of_decide_eq_true e⟩
  · intro h
    obtain ⟨x, hx, e⟩ := List.mem_map.mp h
    exact ⟨x, hx, decide_eq_true e⟩
theorem putT_keys {kvs : List (List Key × V)} {k : List Key} {v : V} (h : (valV kvs k).isSome = true) : (putK kvs k v).map (·.1) = kvs.map (·.1) := by
  unfold putK
  rw [valV_any, h, if_pos rfl, List.map_map]
  refine List.map_congr_left fun x _ => ?_
  show (if x.1 = k then (x.1, v) else x).1 = x.1
  split <;> rfl
theorem key2_inj {a b c d : Str} (h : key2 a b = key2 c d) : a = c ∧ b = d := by
  unfold key2 at h
  injection h with h1 h2
  injection h2 with h2 _
  exact ⟨Sum.inr.inj h1, Sum.inr.inj h2⟩
theorem TabIn.put {K : PySem.W.Frag} {G : Hp} {kvs : List (List Key × V)} {T : Tb} {names : List Str} (h : TabIn K G kvs T names) {s : St} {a : V} (ha : StepAt K G a s) (h1 : s.first ∈ names) (h2 : s.last ∈ names)
    (hb : T s.first s.last = .none ∨ ∃ o, T s.first s.last = .some o ∧ s.better o = true) : TabIn K G (putK kvs (key2 s.first s.last) a) (T.take s) names := by
  have et : (T.take s) s.first s.last = .some s := by
    unfold Tb.take
    rw [if_pos ⟨rfl, rfl⟩]
    rcases hb with e | ⟨o, e, b⟩
    · rw [e]
    · rw [e]
      exact if_pos b
  have eo : ∀ u v, ¬(u = s.first ∧ v = s.last) → (T.take s) u v = T u v := fun u v n => if_neg n
  have kk : ∀ x ∈ (putK kvs (key2 s.first s.last) a).map (·.1), x ∈ kvs.map (·.1) ∨ x = key2 s.first s.last := fun x hx => by
    cases e : valV kvs (key2 s.first s.last) with
    | some y => rw [putT_keys (by rw [e]; rfl)] at hx; exact .inl hx
    | none =>
      rw [putK_new _ e, List.map_append] at hx
      rcases List.mem_append.mp hx with z | z
      · exact .inl z
      · exact .inr (List.mem_singleton.mp z)
  refine ⟨?_, fun kv hkv => ?_, fun u v hn => ?_, fun u v o ho => ?_⟩
  · cases e : valV kvs (key2 s.first s.last) with
    | some y => rw [putT_keys (by rw [e]; rfl)]; exact h.nd
    | none =>
      rw [putK_new _ e, List.map_append]
      refine List.nodup_append.mpr ⟨h.nd, by simp, fun x hx y hy => ?_⟩
      rw [List.mem_singleton.mp hy]
      intro z
      rw [z] at hx
      have := valV_keyT.mpr hx
      rw [show valV kvs ((key2 s.first s.last, a) : List Key × V).1 = _ from e] at this
      cases this
  · rcases kk kv.1 (List.mem_map.mpr ⟨kv, hkv, rfl⟩) with z | z
    · obtain ⟨r, hr, e⟩ := List.mem_map.mp z
      rw [← e]
      exact h.keys r hr
    · exact ⟨_, h1, _, h2, z⟩
  · rw [valV_put]
    by_cases c : u = s.first ∧ v = s.last
    · rw [c.1, c.2, et] at hn
      cases hn
    · rw [if_neg (fun z => c (key2_inj z))]
      exact h.none u v (by rw [← eo u v c]; exact hn)
  · rw [valV_put]
    by_cases c : u = s.first ∧ v = s.last
    · rw [c.1, c.2, et] at ho
      cases ho
      exact ⟨a, if_pos (by rw [c.1, c.2]), ha⟩
    · rw [if_neg (fun z => c (key2_inj z))]
      exact h.some u v o (by rw [← eo u v c]; exact ho)
theorem Tb.take_stay {T : Tb} {s o : St} (e : T s.first s.last = some o) (b : s.better o = false) : T.take s = T := by
  funext u v
  unfold Tb.take
  by_cases c : u = s.first ∧ v = s.last
  · rw [if_pos c, c.1, c.2, e]
    exact if_neg (by rw [b]; simp)
  · exact if_neg c
def spTaken (K : PySem.W.Frag) : Sp := fun vs H Q _ => ∃ (G : Hp) (d : Addr) (v : V) (T : Tb) (s : St) (names : List Str), vs = [.ref d, v] ∧ Same G H ∧ G d = none ∧ TabAt K G H d T names ∧ StepAt K G v s ∧ s.first ∈ names ∧ s.last ∈ names ∧ names.length ≤ 60 ∧
  ∀ H', But d H H' → TabAt K G H' d (T.take s) names → Q .non H'
section
variable {P : Program} {w : World} {K : PySem.W.Frag} {mg : Str → Option Value} {base : Heap}
end
end SW


/-! ### the best ways between any two parts -/
namespace SW
open PySem PySem.Spec PyProof.Rows L2 He TL
theorem fm_take {α β : Type} {f : α → Option β} {l : List α} {i : Nat} {x : α} (h : l[i]? = some x) : (l.take (i + 1)).filterMap f = (l.take i).filterMap f ++ (match f x with | some y => [y] | none => []) := by
  rw [take_one h, List.filterMap_append]
  cases e : f x <;> simp [e]
def comesF (T : Tb) (m n : Str) : Option St := if n = m then none else T n m
def goesF (T : Tb) (m n : Str) : Option St := if n = m then none else T m n
/-- what best_steps tells -/
structure BestOk (L : List Ln) (tm : Str → Int) (names : List Str) (sts : List St) : Prop where
  best : Best L tm sts
  ends : ∀ s ∈ sts, s.first ∈ names ∧ s.last ∈ names
  few : sts.length ≤ 3600
  small : ∀ s ∈ sts, s.places.length ≤ 4096
def spBest (K : PySem.W.Frag) : Sp := fun vs H Q _ => ∃ (G : Hp) (a : Addr) (ps : List Pd), vs = [.ref a] ∧ Same G H ∧ WorksAt K G a ps ∧ Wf ps ∧ (∀ p ∈ ps, ∀ f ∈ p.feeds, 0 ≤ f.2) ∧ ps.length ≤ 12 ∧
  ∀ q us sts G' H', Grow G H G' H' → H q = none → G' q = none → H' q = some (.lst us) → All2 (StepAt K G') us sts → BestOk (linesOf ps) (tmOf ps) (ps.map Pd.name) sts → Q (.ref q) H'
structure TbOk (L : List Ln) (tm : Str → Int) (T : Tb) (names : List Str) (b : Nat) : Prop where
  ok : T.Ok L tm
  small : ∀ u v s, T u v = some s → s.places.length ≤ b
  ends : ∀ u v s, T u v = some s → u ∈ names ∧ v ∈ names
theorem TbOk.take {L : List Ln} {tm : Str → Int} {T : Tb} {names : List Str} {b : Nat} {s : St} (h : TbOk L tm T names b) (hs : s.ok L tm) (hb : s.places.length ≤ b) (h1 : s.first ∈ names) (h2 : s.last ∈ names) : TbOk L tm (T.take s) names b := by
  have key : ∀ u v o, (T.take s) u v = some o → T u v = some o ∨ (o = s ∧ u = s.first ∧ v = s.last) := fun u v o e => by
    unfold Tb.take at e
    split at e
    · rename_i c
      split at e
      · cases e
        exact .inr ⟨rfl, c⟩
      · rename_i o2 e2
        split at e
        · cases e
          exact .inr ⟨rfl, c⟩
        · cases e
          exact .inl e2
    · exact .inl e
  refine ⟨h.ok.take hs, fun u v o e => ?_, fun u v o e => ?_⟩
  · rcases key u v o e with z | ⟨rfl, _⟩
    · exact h.small u v o z
    · exact hb
  · rcases key u v o e with z | ⟨rfl, rfl, rfl⟩
    · exact h.ends u v o z
    · exact ⟨h1, h2⟩
theorem TbOk.more {L : List Ln} {tm : Str → Int} {T : Tb} {names : List Str} {b c : Nat} (h : TbOk L tm T names b) (e : b ≤ c) : TbOk L tm T names c := ⟨h.ok, fun u v s x => Nat.le_trans (h.small u v s x) e, h.ends⟩
theorem Same.but {d : Addr} {H H' : Hp} (h : Same H H') : But d H H' := fun b o _ e => h b o e
theorem But.same {d : Addr} {H0 H H' : Hp} (h : But d H H') (s : Same H0 H) (n : H0 d = none) : Same H0 H' := fun b o e => h b o (ne_of_none e n) (s b o e)
/-- a table of our own changes -/
theorem Grow.but {G0 H0 G H H' : Hp} {d : Addr} (g : Grow G0 H0 G H) (h : But d H H') (n : H0 d = none) (gn : G d = none) : Grow G0 H0 G H' :=
  ⟨g.gg, h.same g.hh n, fun b o e => h b o (ne_of_none e gn) (g.gh b o e), g.sep⟩
theorem made_step {K : PySem.W.Frag} {G0 H0 G H : Hp} (g : Grow G0 H0 G H) {pq x dx : Addr} {st : St} {xs : List V} (hxs : xs = st.places.map fun n : Nat => V.int (n : Int)) (hpq : H pq = none) (nx : upd H pq (.lst xs) x = none) (mx : upd H pq (.lst xs) dx = none) :
    ∃ G', Grow G0 H0 G' (upd (upd (upd H pq (.lst xs)) dx (.own x)) x (.ins (ga K "Step") dx (stepFlds st pq))) ∧ Same G G' ∧ StepAt K G' (.ref x) st ∧
      Same H (upd (upd (upd H pq (.lst xs)) dx (.own x)) x (.ins (ga K "Step") dx (stepFlds st pq))) ∧ ∀ c o, H c = some o → G c = none → G' c = none := by
  have hxq : x ≠ pq := fun z => by rw [z, upd_same] at nx; cases nx
  have nx6 : H x = none := by rw [upd_ne hxq] at nx; exact nx
  have hpG : G pq = none := g.gh.free hpq
  have hxG : G x = none := g.gh.free nx6
  have g7 := (g.temp (o := .lst xs) hpq).make (C := ga K "Step") (fs := stepFlds st pq) nx mx
  have old : Same H (upd (upd (upd H pq (.lst xs)) dx (.own x)) x (.ins (ga K "Step") dx (stepFlds st pq))) := fun b o e => by
    have e' := Same.new (o := .lst xs) hpq _ _ e
    rw [upd_ne (ne_of_none e' nx), upd_ne (ne_of_none e' mx)]
    exact e'
  have x7 : (upd (upd (upd H pq (.lst xs)) dx (.own x)) x (.ins (ga K "Step") dx (stepFlds st pq))) x = some (.ins (ga K "Step") dx (stepFlds st pq)) := upd_same
  have q7 : (upd (upd (upd H pq (.lst xs)) dx (.own x)) x (.ins (ga K "Step") dx (stepFlds st pq))) pq = some (.lst xs) := by
    have e' : upd H pq (.lst xs) pq = some (.lst xs) := upd_same
    rw [upd_ne hxq.symm, upd_ne (ne_of_none e' mx)]
    exact e'
  have g8 := (g7.keep (g.hh.free hpq) hpG q7).keep (g.hh.free nx6) (by rw [upd_ne hxq]; exact hxG) x7
  refine ⟨_, g8, (Same.new hpG).trans (Same.new (by rw [upd_ne hxq]; exact hxG)), ⟨x, dx, pq, rfl, upd_same, by rw [upd_ne hxq.symm, upd_same, hxs]⟩, old, fun c o e n => ?_⟩
  rw [upd_ne (ne_of_none e nx6), upd_ne (ne_of_none e hpq)]
  exact n
section
variable {P : Program} {w : World} {K : PySem.W.Frag} {mg : Str → Option Value} {base : Heap}
end
end SW


/-! ### bounds that settle, or a ring of bounds that sum below nought: plain Lean -/
namespace SW
open PySem PySem.Spec PyProof.Rows L2 He TL
structure Ac where
  first : Str
  last : Str
  bound : Int
  step : V
  back : Bool
def Ac.sat (low : Str → Int) (A : Ac) : Prop := low A.last ≤ low A.first + A.bound
structure Bf where
  low : Str → Int
  by' : Str → Option Nat
  t : Str → Int
  c : Str → Nat
  clk : Nat
def Bf.relax (b : Bf) (A : Ac) (i : Nat) (k : Int) : Bf :=
  ⟨fun v => if v = A.last then b.low A.first + A.bound else b.low v, fun v => if v = A.last then some i else b.by' v, fun v => if v = A.last then k else b.t v, fun v => if v = A.last then b.clk + 1 else b.c v, b.clk + 1⟩
structure Bf.Ok (arcs : List Ac) (k : Int) (i : Nat) (b : Bf) (lst : Option Str) : Prop where
  each : ∀ v j, b.by' v = some j → ∃ A, arcs[j]? = some A ∧ A.last = v ∧ b.low A.first + A.bound ≤ b.low v ∧ (b.c v ≤ b.c A.first → b.low A.first + A.bound < b.low v) ∧ b.t v - 1 ≤ b.t A.first
  nov : ∀ v, b.by' v = none → b.t v = -1
  tk : ∀ v, b.t v ≤ k
  ck : ∀ v, b.c v ≤ b.clk
  sat : ∀ (j : Nat) (A : Ac), arcs[j]? = some A → (j < i → b.t A.first < k → A.sat b.low) ∧ (i ≤ j → b.t A.first < k - 1 → A.sat b.low)
  lstS : ∀ v, lst = some v → b.t v = k
  lstN : lst = none → ∀ (j : Nat) (A : Ac), j < i → arcs[j]? = some A → A.sat b.low
theorem Bf.Ok.start (arcs : List Ac) : Bf.Ok arcs 0 0 ⟨fun _ => 0, fun _ => Option.none, fun _ => -1, fun _ => 0, 0⟩ Option.none := by
  refine ⟨fun v j h => (by cases h), fun _ _ => rfl, fun _ => ?_, fun _ => Nat.le_refl _, fun j A h => ⟨fun h1 => absurd h1 (Nat.not_lt_zero _), fun _ h2 => ?_⟩, fun v h => (by cases h), fun _ j A h => absurd h (Nat.not_lt_zero _)⟩
  · show (-1 : Int) ≤ 0
    decide
  · have h2 : (-1 : Int) < 0 - 1 := h2
    omega
section
variable {arcs : List Ac} {k : Int} {i : Nat} {b : Bf} {lst : Option Str} {A : Ac}
theorem Bf.Ok.stay (h : b.Ok arcs k i lst) (hA : arcs[i]? = some A) (hs : ¬ b.low A.first + A.bound < b.low A.last) : b.Ok arcs k (i + 1) lst := by
  have key : ∀ (j : Nat) (B : Ac), arcs[j]? = some B → j = i → B.sat b.low := fun j B hB e => by
    rw [e, hA] at hB
    cases hB
    unfold Ac.sat
    omega
  refine ⟨h.each, h.nov, h.tk, h.ck, fun j B hB => ⟨fun h1 h2 => ?_, fun h1 h2 => (h.sat j B hB).2 (by omega) h2⟩, h.lstS, fun e j B hj hB => ?_⟩
  · by_cases e : j = i
    · exact key j B hB e
    · exact (h.sat j B hB).1 (by omega) h2
  · by_cases e2 : j = i
    · exact key j B hB e2
    · exact h.lstN e j B (by omega) hB
theorem Bf.Ok.relax (h : b.Ok arcs k i lst) (hk : 0 ≤ k) (hA : arcs[i]? = some A) (hs : b.low A.first + A.bound < b.low A.last) : (b.relax A i k).Ok arcs k (i + 1) (some A.last) := by
  have lowS : (b.relax A i k).low A.last = b.low A.first + A.bound := if_pos rfl
  have lowN : ∀ v, v ≠ A.last → (b.relax A i k).low v = b.low v := fun v n => if_neg n
  have tS : (b.relax A i k).t A.last = k := if_pos rfl
  have tN : ∀ v, v ≠ A.last → (b.relax A i k).t v = b.t v := fun v n => if_neg n
  have cS : (b.relax A i k).c A.last = b.clk + 1 := if_pos rfl
  have cN : ∀ v, v ≠ A.last → (b.relax A i k).c v = b.c v := fun v n => if_neg n
  have lowLe : ∀ v, (b.relax A i k).low v ≤ b.low v := fun v => by
    by_cases e : v = A.last
    · rw [e, lowS]
      omega
    · rw [lowN v e]
      exact Int.le_refl _
  refine ⟨fun v j hb => ?_, fun v hb => ?_, fun v => ?_, fun v => ?_, fun j B hB => ⟨fun h1 h2 => ?_, fun h1 h2 => ?_⟩, fun v e => by cases e; exact tS, fun e => (by cases e)⟩
  · have hb : (if v = A.last then some i else b.by' v) = some j := hb
    by_cases e : v = A.last
    · rw [if_pos e] at hb
      cases hb
      subst e
      refine ⟨A, hA, rfl, ?_⟩
      rw [lowS, cS, tS]
      by_cases e2 : A.first = A.last
      · rw [e2] at hs ⊢
        rw [lowS, tS, cS, e2]
        exact ⟨by omega, fun _ => by omega, by omega⟩
      · rw [lowN _ e2, cN _ e2, tN _ e2]
        have h1 := h.ck A.first
        refine ⟨Int.le_refl _, fun z => by omega, ?_⟩
        refine Int.not_lt.mp fun z => ?_
        have := (h.sat i A hA).2 (Nat.le_refl _) (by omega)
        unfold Ac.sat at this
        omega
    · rw [if_neg e] at hb
      obtain ⟨B, hB, e1, e2, e3, e4⟩ := h.each v j hb
      refine ⟨B, hB, e1, ?_⟩
      rw [lowN v e, cN v e, tN v e]
      by_cases e5 : B.first = A.last
      · have h1 := h.tk v
        rw [e5] at e2 ⊢
        rw [lowS, tS]
        exact ⟨by omega, fun _ => by omega, by omega⟩
      · rw [lowN _ e5, cN _ e5, tN _ e5]
        exact ⟨e2, e3, e4⟩
  · have hb : (if v = A.last then some i else b.by' v) = none := hb
    by_cases e : v = A.last
    · rw [if_pos e] at hb
      cases hb
    · rw [if_neg e] at hb
      rw [tN v e]
      exact h.nov v hb
  · by_cases e : v = A.last
    · rw [e, tS]
      exact Int.le_refl _
    · rw [tN v e]
      exact h.tk v
  · show (if v = A.last then b.clk + 1 else b.c v) ≤ b.clk + 1
    have := h.ck v
    split <;> omega
  · by_cases e : B.first = A.last
    · rw [e, tS] at h2
      omega
    · rw [tN _ e] at h2
      unfold Ac.sat
      rw [lowN _ e]
      by_cases ej : j = i
      · subst ej
        rw [hA] at hB
        cases hB
        rw [lowS]
        exact Int.le_refl _
      · have := (h.sat j B hB).1 (by omega) h2
        unfold Ac.sat at this
        have := lowLe B.last
        omega
  · by_cases e : B.first = A.last
    · rw [e, tS] at h2
      omega
    · rw [tN _ e] at h2
      have := (h.sat j B hB).2 (by omega) h2
      unfold Ac.sat at this ⊢
      rw [lowN _ e]
      have := lowLe B.last
      omega
theorem Bf.Ok.next (h : b.Ok arcs k arcs.length lst) : b.Ok arcs (k + 1) 0 none :=
  ⟨h.each, h.nov, fun v => by have := h.tk v; omega, h.ck, fun j A hA => ⟨fun h1 => absurd h1 (Nat.not_lt_zero _), fun _ h2 => (h.sat j A hA).1 (lt_of_get hA) (by omega)⟩, fun v e => (by cases e), fun _ j A h1 => absurd h1 (Nat.not_lt_zero _)⟩
/-- a row of arcs from u to v -/
def Row : Str → List Ac → Str → Prop
  | u, [], v => u = v
  | u, A :: R, v => A.first = u ∧ Row A.last R v
structure IsRing (arcs R : List Ac) : Prop where
  sub : ∀ A ∈ R, A ∈ arcs
  ne : R ≠ []
  row : ∃ u, Row u R u
  neg : (R.map Ac.bound).sum < 0
  few : R.length ≤ 61
  nodup : (R.map Ac.last).Nodup
theorem Row.pot {r : Str → Int} : ∀ {R : List Ac} {u v : Str}, Row u R v → (∀ A ∈ R, r A.first - r A.last ≤ A.bound) → r u - r v ≤ (R.map Ac.bound).sum
  | [], u, v, h, _ => by
    have h : u = v := h
    rw [h]
    show r v - r v ≤ 0
    omega
  | A :: R, u, v, h, hp => by
    obtain ⟨h1, h2⟩ := h
    have := Row.pot h2 fun B hB => hp B (List.mem_cons_of_mem _ hB)
    have := hp A (List.mem_cons_self ..)
    rw [List.map_cons, List.sum_cons, ← h1]
    omega
/-- where all arcs bear some numbers there is no such ring -/
theorem IsRing.none {R : List Ac} (h : IsRing arcs R) {r : Str → Int} (hp : ∀ A ∈ arcs, r A.first - r A.last ≤ A.bound) : False := by
  obtain ⟨u, hu⟩ := h.row
  have := hu.pot fun A hA => hp A (h.sub A hA)
  have := h.neg
  omega
/-! the parts from which arcs came -/
def Bf.pred (b : Bf) (arcs : List Ac) (v : Str) : Str := match b.by' v with
  | some j => ((arcs[j]?).map Ac.first).getD ""
  | none => ""
def Bf.walk (b : Bf) (arcs : List Ac) (v : Str) : Nat → Str
  | 0 => v
  | n + 1 => b.pred arcs (b.walk arcs v n)
theorem Bf.Ok.at (h : b.Ok arcs k i lst) {v : Str} (hv : 0 ≤ b.t v) : ∃ j A, b.by' v = some j ∧ arcs[j]? = some A ∧ A.last = v ∧ A.first = b.pred arcs v ∧ b.low A.first + A.bound ≤ b.low v ∧ (b.c v ≤ b.c A.first → b.low A.first + A.bound < b.low v) ∧ b.t v - 1 ≤ b.t A.first := by
  cases e : b.by' v with
  | none => have := h.nov v e; omega
  | some j =>
    obtain ⟨A, hA, h1, h2, h3, h4⟩ := h.each v j e
    exact ⟨j, A, rfl, hA, h1, by unfold Bf.pred; rw [e]; show A.first = ((arcs[j]?).map Ac.first).getD ""; rw [hA]; rfl, h2, h3, h4⟩
theorem Bf.Ok.down (h : b.Ok arcs k i lst) {v : Str} : ∀ m : Nat, (m : Int) ≤ b.t v + 1 → b.t v - m ≤ b.t (b.walk arcs v m)
  | 0, _ => by
    show b.t v - 0 ≤ b.t v
    omega
  | m + 1, hm => by
    have ih := Bf.Ok.down h (v := v) m (by omega)
    obtain ⟨j, A, _, _, _, e, _, _, h4⟩ := h.at (v := b.walk arcs v m) (by omega)
    show b.t v - ((m + 1 : Nat) : Int) ≤ b.t (b.pred arcs (b.walk arcs v m))
    rw [← e]
    omega
theorem not_nodup {α : Type} : ∀ {l : List α}, ¬ l.Nodup → ∃ i j, i < j ∧ j < l.length ∧ l[i]? = l[j]?
  | [], h => absurd List.nodup_nil h
  | x :: l, h => by
    rw [List.nodup_cons] at h
    by_cases hx : x ∈ l
    · obtain ⟨j, hj⟩ := List.mem_iff_getElem?.mp hx
      exact ⟨0, j + 1, by omega, by have := lt_of_get hj; rw [List.length_cons]; omega, by rw [List.getElem?_cons_succ, hj] <;> rfl⟩
    · obtain ⟨i, j, h1, h2, h3⟩ := not_nodup (l := l) fun z => h ⟨hx, z⟩
      exact ⟨i + 1, j + 1, by omega, by rw [List.length_cons]; omega, by rw [List.getElem?_cons_succ, List.getElem?_cons_succ]; exact h3⟩
/-- as many steps back as there are nodes lead into a round -/
theorem Bf.Ok.round (h : b.Ok arcs k i lst) {nodes : List Str} (hn : ∀ A ∈ arcs, A.first ∈ nodes) {v : Str} (hv : v ∈ nodes) (ht : (nodes.length : Int) ≤ b.t v) :
    (∀ m, 0 ≤ b.t (b.walk arcs v m)) ∧ ∃ p, 1 ≤ p ∧ p ≤ nodes.length ∧ b.walk arcs v (nodes.length + p) = b.walk arcs v nodes.length := by
  have d0 : ∀ m : Nat, m ≤ nodes.length → 0 ≤ b.t (b.walk arcs v m) := fun m hm => by
    have := h.down (v := v) m (by omega)
    omega
  have inN : ∀ m : Nat, m ≤ nodes.length → b.walk arcs v m ∈ nodes := fun m hm => by
    cases m with
    | zero => exact hv
    | succ m =>
      obtain ⟨j, A, _, hA, _, e, _⟩ := h.at (d0 m (by omega))
      show b.pred arcs (b.walk arcs v m) ∈ nodes
      rw [← e]
      exact hn A (List.mem_of_getElem? hA)
  obtain ⟨x, y, hxy, hy, hw⟩ : ∃ x y, x < y ∧ y ≤ nodes.length ∧ b.walk arcs v x = b.walk arcs v y := by
    have : ¬ ((List.range (nodes.length + 1)).map (b.walk arcs v)).Nodup := fun z => by
      have := nodup_len z fun s hs => by
        obtain ⟨m, hm, rfl⟩ := List.mem_map.mp hs
        exact inN m (by have := List.mem_range.mp hm; omega)
      rw [List.length_map, List.length_range] at this
      omega
    obtain ⟨x, y, h1, h2, h3⟩ := not_nodup this
    rw [List.length_map, List.length_range] at h2
    rw [List.getElem?_map, List.getElem?_map, List.getElem?_range (by omega), List.getElem?_range h2] at h3
    exact ⟨x, y, h1, by omega, Option.some.inj h3⟩
  have per : ∀ m, x ≤ m → b.walk arcs v (m + (y - x)) = b.walk arcs v m := fun m hm => by
    obtain ⟨q, rfl⟩ : ∃ q, m = x + q := ⟨m - x, by omega⟩
    induction q with
    | zero =>
      rw [show x + 0 + (y - x) = y by omega]
      exact hw.symm
    | succ q ih =>
      have := ih (by omega)
      show b.walk arcs v (x + q + 1 + (y - x)) = b.pred arcs (b.walk arcs v (x + q))
      rw [show x + q + 1 + (y - x) = (x + q + (y - x)) + 1 by omega]
      show b.pred arcs (b.walk arcs v (x + q + (y - x))) = _
      rw [this]
  refine ⟨fun m => ?_, y - x, by omega, by omega, per _ (by omega)⟩
  induction m using Nat.strongRecOn with
  | ind m ih =>
    by_cases hm : m ≤ nodes.length
    · exact d0 m hm
    · have := per (m - (y - x)) (by omega)
      rw [show m - (y - x) + (y - x) = m by omega] at this
      rw [this]
      exact ih _ (by omega)
/-- the arcs along the walk back -/
theorem Bf.Ok.sum (h : b.Ok arcs k i lst) {c : Nat → Str} (hc : ∀ m, c (m + 1) = b.pred arcs (c m)) (hd : ∀ m, 0 ≤ b.t (c m)) {A : Nat → Ac} (hA : ∀ m, ∃ j, b.by' (c m) = some j ∧ arcs[j]? = some (A m)) : ∀ q, 1 ≤ q → c q = c 0 → (((List.range q).map fun m => (A m).bound).sum) < 0 := by
  have each : ∀ m, (A m).last = c m ∧ (A m).first = c (m + 1) ∧ b.low (c (m + 1)) + (A m).bound ≤ b.low (c m) ∧ (b.c (c m) ≤ b.c (c (m + 1)) → b.low (c (m + 1)) + (A m).bound < b.low (c m)) := fun m => by
    obtain ⟨j, B, h1, h2, h3, h4, h5, h6, _⟩ := h.at (hd m)
    obtain ⟨j2, g1, g2⟩ := hA m
    rw [h1] at g1
    cases g1
    rw [h2] at g2
    cases g2
    rw [hc m, ← h4]
    exact ⟨h3, rfl, h5, h6⟩
  have tele : ∀ q, b.low (c q) + ((List.range q).map fun m => (A m).bound).sum ≤ b.low (c 0) ∧ ((∃ x, x < q ∧ b.c (c x) ≤ b.c (c (x + 1))) → b.low (c q) + ((List.range q).map fun m => (A m).bound).sum < b.low (c 0)) := by
    intro q
    induction q with
    | zero =>
      refine ⟨?_, fun ⟨x, hx, _⟩ => absurd hx (Nat.not_lt_zero _)⟩
      show b.low (c 0) + 0 ≤ b.low (c 0)
      omega
    | succ q ih =>
      obtain ⟨i1, i2⟩ := ih
      obtain ⟨_, _, e1, e2⟩ := each q
      rw [List.range_succ, List.map_append, List.sum_append]
      have es : ([q].map fun m => (A m).bound).sum = (A q).bound := by
        show (A q).bound + 0 = _
        omega
      rw [es]
      refine ⟨by omega, fun ⟨x, hx, hcx⟩ => ?_⟩
      by_cases e : x = q
      · subst e
        have := e2 hcx
        omega
      · have := i2 ⟨x, by omega, hcx⟩
        omega
  intro q hq e
  obtain ⟨_, t2⟩ := tele q
  have : ∃ x, x < q ∧ b.c (c x) ≤ b.c (c (x + 1)) := by
    refine Classical.byContradiction fun z => ?_
    have dec : ∀ x, x ≤ q → b.c (c x) + x ≤ b.c (c 0) := by
      intro x
      induction x with
      | zero => intro _; omega
      | succ x ih =>
        intro hx
        have := ih (by omega)
        have : b.c (c (x + 1)) < b.c (c x) := Nat.lt_of_not_le fun y => z ⟨x, by omega, y⟩
        omega
    have := dec q (Nat.le_refl _)
    rw [e] at this
    omega
  have := t2 this
  rw [e] at this
  omega
end
end SW


/-! ### arcs, nodes, lags by sums of bounds -/
namespace SW
open PySem PySem.Spec PyProof.Rows L2 He TL
def arcFlds (A : Ac) : List (Str × V) := [("first", .str A.first), ("last", .str A.last), ("bound", .int A.bound), ("step", A.step), ("back", .bl A.back)]
def ArcIn (K : PySem.W.Frag) (G : Hp) (a : Addr) (A : Ac) (dx : Addr) : Prop := G a = some (.ins (ga K "Arc") dx (arcFlds A))
def ArcAt (K : PySem.W.Frag) (G : Hp) (v : V) (A : Ac) : Prop := ∃ a dx, v = .ref a ∧ ArcIn K G a A dx
theorem ArcAt.mono {K : PySem.W.Frag} {G G' : Hp} {v : V} {A : Ac} (e : Same G G') (h : ArcAt K G v A) : ArcAt K G' v A := by
  obtain ⟨a, dx, r, h⟩ := h
  exact ⟨a, dx, r, e _ _ h⟩
def must (most : Int) (s : St) : Int := if most < s.takes then 1 else 0
def arcOf (ps : List Pd) (most : Int) (x : V × St) : Ac := ⟨nodeOf ps x.2.first, nodeOf ps x.2.last, x.2.held - must most x.2, x.1, false⟩
def arcsL (ps : List Pd) (most : Int) (svs : List V) (sts : List St) : List Ac := (svs.zip sts).map (arcOf ps most)
def nodesOf (ps : List Pd) : List Str := "" :: (ps.map Pd.name).filter fun n => !decide (nodeOf ps n = "")
def LowAt (H : Hp) (d : Addr) (nodes : List Str) (low : Str → Int) : Prop := ∃ kvs, H d = some (.dK kvs) ∧ kvs.map (·.1) = nodes.map Sum.inr ∧ ∀ n ∈ nodes, valV kvs (Sum.inr n : Key) = some (.int (low n))
def spArcsOf (K : PySem.W.Frag) : Sp := fun vs H Q _ => ∃ (G : Hp) (a sq : Addr) (ps : List Pd) (svs : List V) (sts : List St) (most : Int), vs = [.ref a, .ref sq, .int most] ∧ Same G H ∧ WorksAt K G a ps ∧ Wf ps ∧ SqL K H sq svs ∧ All2 (StepAt K G) svs sts ∧
  (∀ s ∈ sts, s.first ∈ ps.map Pd.name ∧ s.last ∈ ps.map Pd.name) ∧ sts.length ≤ 10000 ∧
  ∀ q us G' H', Grow G H G' H' → H q = none → G' q = none → H' q = some (.lst us) → All2 (ArcAt K G') us (arcsL ps most svs sts) → Q (.ref q) H'
def spNodesOf (K : PySem.W.Frag) : Sp := fun vs H Q _ => ∃ (G : Hp) (a : Addr) (ps : List Pd), vs = [.ref a] ∧ Same G H ∧ WorksAt K G a ps ∧ Wf ps ∧ ∀ q H', Same H H' → H q = none → H' q = some (.lst ((nodesOf ps).map V.str)) → Q (.ref q) H'
def lagBy (ps : List Pd) (low : Str → Int) (n : Str) : Int := low "" - low (nodeOf ps n)
def spLagsBy (K : PySem.W.Frag) : Sp := fun vs H Q _ => ∃ (G : Hp) (a d : Addr) (ps : List Pd) (low : Str → Int), vs = [.ref a, .ref d] ∧ Same G H ∧ WorksAt K G a ps ∧ Wf ps ∧ LowAt H d (nodesOf ps) low ∧
  ∀ q H', Same H H' → H q = none → H' q = some (.dK (dictOf (fun p => V.int (lagBy ps low p.name)) ps)) → Q (.ref q) H'
theorem Wf.noEmpty {ps : List Pd} (h : Wf ps) {n : Str} (hn : n ∈ ps.map Pd.name) : n ≠ "" := fun z => by
  obtain ⟨p, hp, rfl⟩ := List.mem_map.mp hn
  have := name_ne (h.nn p hp)
  rw [z] at this
  exact this (by decide +kernel)
theorem node_mem {ps : List Pd} {n : Str} (hn : n ∈ ps.map Pd.name) : nodeOf ps n ∈ nodesOf ps := by
  unfold nodesOf
  by_cases e : nodeOf ps n = ""
  · rw [e]
    exact List.mem_cons_self ..
  · have h1 : nodeOf ps n = n := by
      unfold nodeOf at e ⊢
      split
      · rename_i z
        exact absurd (if_pos z) e
      · rfl
    refine List.mem_cons_of_mem _ ?_
    rw [h1]
    refine List.mem_filter.mpr ⟨hn, ?_⟩
    rw [decide_eq_false e] <;> rfl
theorem nodes_nodup {ps : List Pd} (h : Wf ps) : (nodesOf ps).Nodup := by
  refine List.nodup_cons.mpr ⟨fun z => ?_, h.nd.sublist List.filter_sublist⟩
  exact h.noEmpty (List.mem_filter.mp z).1 rfl
theorem nodes_len {ps : List Pd} (h : Wf ps) : (nodesOf ps).length ≤ 61 := by
  unfold nodesOf
  have := List.length_filter_le (fun n => !decide (nodeOf ps n = "")) (ps.map Pd.name)
  rw [List.length_map] at this
  have := h.few
  rw [List.length_cons]
  omega
section
variable {P : Program} {w : World} {K : PySem.W.Frag} {mg : Str → Option Value} {base : Heap}
theorem zip_at {α β : Type} {xs : List α} {ys : List β} {i : Nat} {x : α} {y : β} (h1 : xs[i]? = some x) (h2 : ys[i]? = some y) : (xs.zip ys)[i]? = some (x, y) := by
  rw [List.getElem?_zip_eq_some]
  exact ⟨h1, h2⟩
end
end SW


/-! ### settle -/
namespace SW
open PySem PySem.Spec PyProof.Rows L2 He TL
theorem keyput {kvs : List (Key × V)} {k : Key} {v : V} (h : (valV kvs k).isSome = true) : (putK kvs k v).map (·.1) = kvs.map (·.1) := by
  unfold putK
  rw [valV_any, h, if_pos rfl, List.map_map]
  refine List.map_congr_left fun x _ => ?_
  show (if x.1 = k then (x.1, v) else x).1 = x.1
  split <;> rfl
theorem putK_le {kvs : List (Key × V)} {k : Key} {v : V} : (putK kvs k v).length ≤ kvs.length + 1 := by
  cases e : valV kvs k with
  | some y =>
    have := congrArg List.length (keyput (v := v) (show (valV kvs k).isSome = true by rw [e]; rfl))
    rw [List.length_map, List.length_map] at this
    omega
  | none =>
    rw [putK_new _ e, List.length_append]
    exact Nat.le_refl _
theorem LowAt.put {H : Hp} {d : Addr} {nodes : List Str} {low : Str → Int} {n : Str} {x : Int} (h : LowAt H d nodes low) (hn : n ∈ nodes) :
    ∃ kvs, H d = some (.dK kvs) ∧ kvs.length = nodes.length ∧ LowAt (upd H d (.dK (putK kvs (Sum.inr n) (.int x)))) d nodes (fun v => if v = n then x else low v) := by
  obtain ⟨kvs, hd, hk, hv⟩ := h
  refine ⟨kvs, hd, ?_, _, upd_same, ?_, fun m hm => ?_⟩
  · have := congrArg List.length hk
    rw [List.length_map, List.length_map] at this
    exact this
  · rw [keyput (by rw [hv n hn]; rfl), hk]
  · rw [valV_put]
    show _ = some (V.int (if m = n then x else low m))
    by_cases e : m = n
    · rw [if_pos (by rw [e]), if_pos e]
    · rw [if_neg (fun z => e (Sum.inr.inj z)), if_neg e, hv m hm]
theorem LowAt.get {H : Hp} {d : Addr} {nodes : List Str} {low : Str → Int} {n : Str} (h : LowAt H d nodes low) (hn : n ∈ nodes) : DGet H d (.str n) (some (.int (low n))) := by
  obtain ⟨kvs, hd, _, hv⟩ := h
  have := DGet.k (k := Sum.inr n) hd
  rw [hv n hn] at this
  exact this
theorem LowAt.of {H H' : Hp} {d : Addr} {nodes : List Str} {low : Str → Int} (h : LowAt H d nodes low) (e : H' d = H d) : LowAt H' d nodes low := by
  obtain ⟨kvs, hd, h⟩ := h
  exact ⟨kvs, by rw [e, hd], h⟩
def lastV : Option Str → V
  | none => .non
  | some v => .str v
structure SetIn (H H' : Hp) (d bd : Addr) (nodes : List Str) (arcs : List Ac) (avs : List V) (b : Bf) (k : Int) (i : Nat) (lst : Option Str) (cnt : Nat) : Prop where
  same : Same H H'
  low : LowAt H' d nodes b.low
  by' : ∃ bkv, H' bd = some (.dK bkv) ∧ bkv.length ≤ cnt ∧ ∀ v : Str, valV bkv (Sum.inr v : Key) = (b.by' v).bind fun j => avs[j]?
  ok : b.Ok arcs k i lst
  mem : ∀ v, lst = some v → v ∈ nodes
section
variable {K : PySem.W.Frag} {G H H' : Hp} {d bd : Addr} {nodes : List Str} {arcs : List Ac} {avs : List V} {b : Bf} {k : Int} {i : Nat} {lst : Option Str} {cnt : Nat} {A : Ac} {x : V}
theorem SetIn.relax (h : SetIn H H' d bd nodes arcs avs b k i lst cnt) (nd : H d = none) (nb : H bd = none) (hne : d ≠ bd) (hk : 0 ≤ k) (hA : arcs[i]? = some A) (hx : avs[i]? = some x) (hm : A.last ∈ nodes) (hs : b.low A.first + A.bound < b.low A.last) :
    ∃ kvs bkv, H' d = some (.dK kvs) ∧ kvs.length = nodes.length ∧ H' bd = some (.dK bkv) ∧ bkv.length ≤ cnt ∧
      SetIn H (upd (upd H' d (.dK (putK kvs (Sum.inr A.last) (.int (b.low A.first + A.bound))))) bd (.dK (putK bkv (Sum.inr A.last) x))) d bd nodes arcs avs (b.relax A i k) k (i + 1) (some A.last) (cnt + 1) := by
  obtain ⟨kvs, h1, h2, h3⟩ := h.low.put (x := b.low A.first + A.bound) hm
  obtain ⟨bkv, h4, h5, h6⟩ := h.by'
  refine ⟨kvs, bkv, h1, h2, h4, h5, fun c o e => ?_, ?_, ⟨_, upd_same, ?_, fun v => ?_⟩, h.ok.relax hk hA hs, fun v e => by cases e; exact hm⟩
  · rw [upd_ne (ne_of_none e nb), upd_ne (ne_of_none e nd)]
    exact h.same c o e
  · exact h3.of (upd_ne hne)
  · have := putK_le (kvs := bkv) (k := Sum.inr A.last) (v := x)
    omega
  · rw [valV_put]
    show _ = Option.bind (if v = A.last then some i else b.by' v) _
    by_cases e : v = A.last
    · rw [if_pos (by rw [e]), if_pos e]
      exact hx.symm
    · rw [if_neg (fun z => e (Sum.inr.inj z)), if_neg e, h6 v]
theorem SetIn.stay (h : SetIn H H' d bd nodes arcs avs b k i lst cnt) (hA : arcs[i]? = some A) (hs : ¬ b.low A.first + A.bound < b.low A.last) : SetIn H H' d bd nodes arcs avs b k (i + 1) lst (cnt + 1) := by
  obtain ⟨bkv, h4, h5, h6⟩ := h.by'
  exact ⟨h.same, h.low, ⟨bkv, h4, by omega, h6⟩, h.ok.stay hA hs, h.mem⟩
theorem SetIn.next (h : SetIn H H' d bd nodes arcs avs b k arcs.length lst cnt) : SetIn H H' d bd nodes arcs avs b (k + 1) 0 none cnt := ⟨h.same, h.low, h.by', h.ok.next, fun v e => by cases e⟩
theorem SetIn.of {H2 : Hp} (h : SetIn H H' d bd nodes arcs avs b k i lst cnt) (hs : Same H' H2) : SetIn H H2 d bd nodes arcs avs b k i lst cnt := by
  obtain ⟨bkv, h4, h5, h6⟩ := h.by'
  obtain ⟨kvs, l1, l2⟩ := h.low
  exact ⟨h.same.trans hs, ⟨kvs, hs _ _ l1, l2⟩, ⟨bkv, hs _ _ h4, h5, h6⟩, h.ok, h.mem⟩
theorem SetIn.at (h : SetIn H H' d bd nodes arcs avs b k i lst cnt) (hB : All2 (ArcAt K G) avs arcs) {v : Str} (hv : 0 ≤ b.t v) :
    ∃ j A x, b.by' v = some j ∧ arcs[j]? = some A ∧ ArcAt K G x A ∧ A.last = v ∧ A.first = b.pred arcs v ∧ DGet H' bd (.str v) (some x) := by
  obtain ⟨j, A, h1, h2, h3, h4, _⟩ := h.ok.at hv
  obtain ⟨x, h5, h6⟩ := hB.get' h2
  obtain ⟨bkv, h7, h8, h9⟩ := h.by'
  refine ⟨j, A, x, h1, h2, h6, h3, h4, ?_⟩
  have := DGet.k (k := Sum.inr v) h7
  rw [h9 v, h1] at this
  rw [show (some j).bind (fun j => avs[j]?) = some x from h5] at this
  exact this
end
theorem ring_row {c : Nat → Str} {A : Nat → Ac} (h : ∀ m, (A m).last = c m ∧ (A m).first = c (m + 1)) : ∀ q, Row (c q) ((List.range q).map A).reverse (c 0)
  | 0 => rfl
  | q + 1 => by
    rw [List.range_succ, List.map_append, List.reverse_append]
    refine ⟨(h q).2, ?_⟩
    rw [(h q).1]
    exact ring_row h q
theorem sum_rev : ∀ l : List Int, l.reverse.sum = l.sum
  | [] => rfl
  | x :: l => by
    rw [List.reverse_cons, List.sum_append, sum_rev l, List.sum_cons]
    show l.sum + (x + 0) = x + l.sum
    omega
/-- a walk that comes back to where it began, for the first time -/
theorem first_back {c : Nat → Str} {f : Str → Str} (hc : ∀ m, c (m + 1) = f (c m)) {j : Nat} (hno : ∀ m, 1 ≤ m → m ≤ j → c m ≠ c 0) (hend : c (j + 1) = c 0) : ∀ a b, a < b → b ≤ j → c a ≠ c b := by
  intro a b hab hbj e
  have shift : ∀ x y, c x = c y → ∀ t, c (x + t) = c (y + t) := fun x y h t => by
    induction t with
    | zero => exact h
    | succ t ih =>
      show c (x + t + 1) = c (y + t + 1)
      rw [hc, hc, ih]
  have h1 := shift a b e (j + 1 - a)
  rw [show a + (j + 1 - a) = j + 1 by omega, hend, show b + (j + 1 - a) = (j + 1) + (b - a) by omega] at h1
  have h2 := shift (j + 1) 0 hend (b - a)
  rw [Nat.zero_add] at h2
  exact hno (b - a) (by omega) (by omega) (by rw [← h2, ← h1])
theorem range_nodup {c : Nat → Str} {n : Nat} (h : ∀ a b, a < b → b < n → c a ≠ c b) : ((List.range n).map c).Nodup := by
  refine List.pairwise_iff_getElem.mpr fun i j hi hj hij => ?_
  rw [List.length_map, List.length_range] at hj
  rw [List.getElem_map, List.getElem_map, List.getElem_range, List.getElem_range]
  exact h i j hij hj
theorem ring_two {K : PySem.W.Frag} {G : Hp} {F : Nat → Ac × V} (h : ∀ m, ArcAt K G (F m).2 (F m).1) : ∀ q, All2 (ArcAt K G) ((List.range q).map fun m => (F m).2).reverse ((List.range q).map fun m => (F m).1).reverse
  | 0 => All2.nil
  | q + 1 => by
    rw [List.range_succ, List.map_append, List.map_append, List.reverse_append, List.reverse_append]
    exact All2.cons (h q) (ring_two h q)
def Settles (arcs R : List Ac) (low : Str → Int) : Prop := (R = [] ∧ ∀ A ∈ arcs, A.sat low) ∨ IsRing arcs R
def spSettle (K : PySem.W.Frag) : Sp := fun vs H Q _ => ∃ (G : Hp) (aq nq : Addr) (arcs : List Ac) (avs : List V) (nodes : List Str), vs = [.ref aq, .ref nq] ∧ Same G H ∧ H aq = some (.lst avs) ∧ All2 (ArcAt K G) avs arcs ∧ H nq = some (.lst (nodes.map V.str)) ∧
  nodes.Nodup ∧ nodes ≠ [] ∧ (∀ A ∈ arcs, A.first ∈ nodes ∧ A.last ∈ nodes) ∧ nodes.length ≤ 61 ∧ arcs.length ≤ 20000 ∧
  ∀ t d q low rvs R H', Same H H' → H d = none → H q = none → H' t = some (.tup [.ref d, .ref q]) → LowAt H' d nodes low → H' q = some (.lst rvs) → All2 (ArcAt K G) rvs R → Settles arcs R low → Q (.ref t) H'
section
variable {P : Program} {w : World} {K : PySem.W.Frag} {mg : Str → Option Value} {base : Heap}
end
end SW


/-! ### lags that make a beat: plain Lean -/
namespace SW
open PySem PySem.Spec PyProof.Rows L2 He TL
structure Feas (ps : List Pd) (T : Int) (lag : Str → Int) : Prop where
  fits : Fits ps lag
  each : ∀ p ∈ ps, p.time ≤ T
  ways : ∀ u w v, Via (linesOf ps) (fun _ => True) u w v → heldW (linesOf ps) w + lag v - lag u = 0 → timeW (linesOf ps) (tmOf ps) u w ≤ T
section
variable {ps : List Pd} {lag : Str → Int} {T : Int}
theorem line_of {f : Ln} (h : f ∈ linesOf ps) : ∃ p ∈ ps, ∃ e ∈ p.feeds, f = (e.1, p.name, e.2) := by
  obtain ⟨p, hp, hm⟩ := List.mem_flatMap.mp h
  obtain ⟨e, he, rfl⟩ := List.mem_map.mp hm
  exact ⟨p, hp, e, he, rfl⟩
theorem Fits.line (h : Fits ps lag) {f : Ln} (hf : f ∈ linesOf ps) : 0 ≤ f.2.2 + lag f.2.1 - lag f.1 := by
  obtain ⟨p, hp, e, he, rfl⟩ := line_of hf
  exact h.lines p hp e he
theorem Fits.way (h : Fits ps lag) {u v : Str} {w : List Nat} {S : Str → Prop} (hv : Via (linesOf ps) S u w v) : 0 ≤ heldW (linesOf ps) w + lag v - lag u := by
  induction hv with
  | one h1 =>
    rw [held_one h1]
    exact h.line (List.mem_of_getElem? h1)
  | cons h1 _ _ ih =>
    rw [held_cons h1]
    have := h.line (List.mem_of_getElem? h1)
    omega
theorem lag_end (hf : Wf ps) {low : Str → Int} {p : Pd} (hp : p ∈ ps) (he : p.isEnd = true) : lagBy ps low p.name = 0 := by
  unfold lagBy nodeOf
  rw [endOf_at hf.nd hp, if_pos he]
  omega
theorem arc_mem {svs : List V} {sts : List St} {s : St} {most : Int} (hl : svs.length = sts.length) (hs : s ∈ sts) : ∃ x, arcOf ps most (x, s) ∈ arcsL ps most svs sts := by
  obtain ⟨j, hj⟩ := List.mem_iff_getElem?.mp hs
  have hlt := lt_of_get hj
  refine ⟨svs[j]'(by omega), List.mem_map.mpr ⟨_, List.mem_of_getElem? (zip_at (List.getElem?_eq_getElem (by omega)) hj), rfl⟩⟩
theorem arc_of {svs : List V} {sts : List St} {most : Int} {A : Ac} (h : A ∈ arcsL ps most svs sts) : ∃ x s, s ∈ sts ∧ A = arcOf ps most (x, s) := by
  obtain ⟨⟨x, s⟩, hm, rfl⟩ := List.mem_map.mp h
  exact ⟨x, s, (List.of_mem_zip hm).2, rfl⟩
theorem must_nn {most : Int} {s : St} : 0 ≤ must most s ∧ (most < s.takes → must most s = 1) ∧ (¬ most < s.takes → must most s = 0) := by
  unfold must
  refine ⟨by split <;> omega, fun h => if_pos h, fun h => if_neg h⟩
/-- bounds that are met tell lags that make the beat -/
theorem feas_of (hf : Wf ps) (hc : ∀ p ∈ ps, ∀ f ∈ p.feeds, 0 ≤ f.2) {sts : List St} {svs : List V} {most : Int} {low : Str → Int} (hB : BestOk (linesOf ps) (tmOf ps) (ps.map Pd.name) sts) (hl : svs.length = sts.length)
    (hs : ∀ A ∈ arcsL ps most svs sts, A.sat low) (he : ∀ p ∈ ps, p.time ≤ most) : Feas ps most (lagBy ps low) := by
  have hL := hf.sound hc
  have key : ∀ u w v, u ≠ v → Via (linesOf ps) (fun _ => True) u w v → ∃ s ∈ sts, s.le (heldW (linesOf ps) w) (timeW (linesOf ps) (tmOf ps) u w) ∧ must most s ≤ s.held + lagBy ps low v - lagBy ps low u := fun u w v huv hv => by
    obtain ⟨s, hsm, h1, h2, h3⟩ := hB.best.opt u v w huv hv
    obtain ⟨x, hx⟩ := arc_mem (ps := ps) (most := most) hl hsm
    have := hs _ hx
    have : low (nodeOf ps s.last) ≤ low (nodeOf ps s.first) + (s.held - must most s) := this
    refine ⟨s, hsm, h3, ?_⟩
    unfold lagBy
    rw [h1, h2] at this
    omega
  refine ⟨⟨fun p hp h => lag_end hf hp h, fun p hp f hfm => ?_⟩, he, fun u w v hv h0 => ?_⟩
  · show 0 ≤ f.2 + lagBy ps low p.name - lagBy ps low f.1
    by_cases e : f.1 = p.name
    · have := hc p hp f hfm
      rw [e]
      omega
    · have hm : (f.1, p.name, f.2) ∈ linesOf ps := List.mem_flatMap.mpr ⟨p, hp, List.mem_map.mpr ⟨f, hfm, rfl⟩⟩
      obtain ⟨i, hi⟩ := List.mem_iff_getElem?.mp hm
      obtain ⟨s, _, h1, h2⟩ := key f.1 [i] p.name e (.one hi)
      rw [held_one hi] at h1
      have := (must_nn (most := most) (s := s)).1
      unfold St.le at h1
      have h1 : s.held < f.2 ∨ (s.held = f.2 ∧ _) := h1
      omega
  · by_cases e : u = v
    · subst e
      have := hL.ring hv
      omega
    · obtain ⟨s, _, h1, h2⟩ := key u w v e hv
      have m := must_nn (most := most) (s := s)
      unfold St.le at h1
      refine Classical.byContradiction fun z => ?_
      by_cases ht : most < s.takes
      · have := m.2.1 ht
        omega
      · have := m.2.2 ht
        omega
/-- where lags make the beat there is no ring against it -/
theorem no_ring (hf : Wf ps) {sts : List St} {svs : List V} {most : Int} (hB : BestOk (linesOf ps) (tmOf ps) (ps.map Pd.name) sts) (h : Feas ps most lag) {R : List Ac} (hR : IsRing (arcsL ps most svs sts) R) : False := by
  refine hR.none (r := fun n => if n = "" then 0 else lag n) fun A hA => ?_
  obtain ⟨x, s, hs, rfl⟩ := arc_of hA
  obtain ⟨h1, h2⟩ := hB.ends s hs
  have hr : ∀ n ∈ ps.map Pd.name, (if nodeOf ps n = "" then 0 else lag (nodeOf ps n)) = lag n := fun n hn => by
    obtain ⟨p, hp, rfl⟩ := List.mem_map.mp hn
    have hne := hf.noEmpty (n := p.name) hn
    unfold nodeOf
    rw [endOf_at hf.nd hp]
    cases e : p.isEnd with
    | true => rw [if_pos rfl, if_pos rfl, h.fits.ends p hp e]
    | false => rw [if_neg (by decide : ¬ (false = true)), if_neg hne]
  show (if nodeOf ps s.first = "" then 0 else lag (nodeOf ps s.first)) - (if nodeOf ps s.last = "" then 0 else lag (nodeOf ps s.last)) ≤ s.held - must most s
  rw [hr _ h1, hr _ h2]
  obtain ⟨ok, _⟩ := hB.best.ok s hs
  have hw := h.fits.way ok.way
  rw [← ok.held] at hw
  have m := must_nn (most := most) (s := s)
  by_cases ht : most < s.takes
  · have := m.2.1 ht
    refine Classical.byContradiction fun z => ?_
    have := h.ways _ _ _ ok.way (by rw [← ok.held]; omega)
    rw [← ok.takes] at this
    omega
  · have := m.2.2 ht
    omega
/-- without lags the longest way is the beat -/
theorem feas_top (hf : Wf ps) (hc : ∀ p ∈ ps, ∀ f ∈ p.feeds, 0 ≤ f.2) {sts : List St} (hB : BestOk (linesOf ps) (tmOf ps) (ps.map Pd.name) sts) (h1 : ∀ p ∈ ps, p.time ≤ T) (h2 : ∀ s ∈ sts, s.takes ≤ T) : Feas ps T (fun _ => 0) := by
  have hL := hf.sound hc
  refine ⟨⟨fun _ _ _ => rfl, fun p hp f hfm => ?_⟩, h1, fun u w v hv h0 => ?_⟩
  · show 0 ≤ f.2 + 0 - 0
    have := hc p hp f hfm
    omega
  · by_cases e : u = v
    · subst e
      have := hL.ring hv
      omega
    · obtain ⟨s, hs, _, _, h3⟩ := hB.best.opt u v w e hv
      obtain ⟨ok, _⟩ := hB.best.ok s hs
      have := held_nn hL.nn s.places
      rw [← ok.held] at this
      have := h2 s hs
      unfold St.le at h3
      omega
/-- a beat that lags make: also the greatest time of a part or a step not above it -/
theorem feas_least (hf : Wf ps) (hc : ∀ p ∈ ps, ∀ f ∈ p.feeds, 0 ≤ f.2) {sts : List St} (hB : BestOk (linesOf ps) (tmOf ps) (ps.map Pd.name) sts) (h : Feas ps T lag) {c : Int} (h1 : ∀ p ∈ ps, p.time ≤ T → p.time ≤ c) (h2 : ∀ s ∈ sts, s.takes ≤ T → s.takes ≤ c) : Feas ps c lag := by
  have hL := hf.sound hc
  refine ⟨h.fits, fun p hp => h1 p hp (h.each p hp), fun u w v hv h0 => ?_⟩
  by_cases e : u = v
  · subst e
    have := hL.ring hv
    omega
  · obtain ⟨s, hs, e1, e2, h3⟩ := hB.best.opt u v w e hv
    obtain ⟨ok, _⟩ := hB.best.ok s hs
    have hw := h.fits.way ok.way
    rw [← ok.held, e1, e2] at hw
    unfold St.le at h3
    have ht := h.ways _ _ _ ok.way (by rw [← ok.held, e1, e2]; omega)
    rw [← ok.takes] at ht
    have := h2 s hs ht
    omega
end
end SW


/-! ### the beat of a works: plain Lean -/
namespace SW
open PySem PySem.Spec PyProof.Rows L2 He TL
/-- the feed without a store that comes last, the first of them -/
def bestStep (tm : Str → Int) (found : Str) (f : Str × Int) : Str := if f.2 = 0 ∧ (found = "" ∨ tm f.1 > tm found) then f.1 else found
def bestF (tm : Str → Int) (fs : List (Str × Int)) : Str := fs.foldl (bestStep tm) ""
theorem bestF_take {tm : Str → Int} {fs : List (Str × Int)} {i : Nat} {f : Str × Int} (h : fs[i]? = some f) : bestF tm (fs.take (i + 1)) = bestStep tm (bestF tm (fs.take i)) f := by
  unfold bestF
  rw [take_one h, List.foldl_append] <;> rfl
theorem bestF_is {tm : Str → Int} {fs : List (Str × Int)} (hne : ∀ f ∈ fs, f.1 ≠ "") : (bestF tm fs = "" → ∀ f ∈ fs, f.2 ≠ 0) ∧ (bestF tm fs ≠ "" → (∃ f ∈ fs, f.2 = 0 ∧ f.1 = bestF tm fs) ∧ ∀ f ∈ fs, f.2 = 0 → tm f.1 ≤ tm (bestF tm fs)) := by
  have key : ∀ i, i ≤ fs.length → (bestF tm (fs.take i) = "" → ∀ f ∈ fs.take i, f.2 ≠ 0) ∧ (bestF tm (fs.take i) ≠ "" → (∃ f ∈ fs.take i, f.2 = 0 ∧ f.1 = bestF tm (fs.take i)) ∧ ∀ f ∈ fs.take i, f.2 = 0 → tm f.1 ≤ tm (bestF tm (fs.take i))) := by
    intro i
    induction i with
    | zero => intro _; exact ⟨fun _ f h => (by cases h), fun h => absurd rfl h⟩
    | succ i ih =>
      intro hi
      obtain ⟨i1, i2⟩ := ih (by omega)
      have e := List.getElem?_eq_getElem (show i < fs.length by omega)
      have hm := hne _ (List.getElem_mem (show i < fs.length by omega))
      generalize fs[i] = f at e hm
      rw [bestF_take e, take_one e]
      unfold bestStep
      by_cases c : f.2 = 0 ∧ (bestF tm (fs.take i) = "" ∨ tm f.1 > tm (bestF tm (fs.take i)))
      · rw [if_pos c]
        refine ⟨fun z => absurd z hm, fun _ => ⟨⟨f, List.mem_append.mpr (.inr (List.mem_singleton.mpr rfl)), c.1, rfl⟩, fun g hg h0 => ?_⟩⟩
        rcases List.mem_append.mp hg with hg | hg
        · rcases c.2 with c2 | c2
          · exact absurd h0 (i1 c2 g hg)
          · by_cases hz : bestF tm (fs.take i) = ""
            · exact absurd h0 (i1 hz g hg)
            · have := (i2 hz).2 g hg h0
              omega
        · rw [List.mem_singleton.mp hg]
          exact Int.le_refl _
      · rw [if_neg c]
        refine ⟨fun z g hg => ?_, fun hz => ?_⟩
        · rcases List.mem_append.mp hg with hg | hg
          · exact i1 z g hg
          · rw [List.mem_singleton.mp hg]
            exact fun h0 => c ⟨h0, .inl z⟩
        · obtain ⟨⟨g, hg, g1, g2⟩, h2⟩ := i2 hz
          refine ⟨⟨g, List.mem_append.mpr (.inl hg), g1, g2⟩, fun k hk h0 => ?_⟩
          rcases List.mem_append.mp hk with hk | hk
          · exact h2 k hk h0
          · rw [List.mem_singleton.mp hk] at h0 ⊢
            refine Int.not_lt.mp fun z => c ⟨h0, .inr z⟩
  have := key fs.length (Nat.le_refl _)
  rw [List.take_length] at this
  exact this
/-- when each part is done, from the start of a beat -/
structure ArrOk (ps : List Pd) (ar : Str → Int) : Prop where
  each : ∀ p ∈ ps, ar p.name = p.time + (if bestF ar p.feeds = "" then 0 else ar (bestF ar p.feeds))
theorem snoc_inv {L : List Ln} {S : Str → Prop} {u v : Str} {w : List Nat} (h : Via L S u w v) : (∃ i f, w = [i] ∧ L[i]? = some f ∧ f.1 = u ∧ f.2.1 = v) ∨ ∃ w' i f, w = w' ++ [i] ∧ Via L S u w' f.1 ∧ L[i]? = some f ∧ f.2.1 = v := by
  induction h with
  | one h => exact .inl ⟨_, _, rfl, h, rfl, rfl⟩
  | @cons i f w v h s hv ih =>
    right
    rcases ih with ⟨j, g, rfl, hg, e1, rfl⟩ | ⟨w', j, g, rfl, hw, hg, rfl⟩
    · exact ⟨[i], j, g, rfl, by rw [e1]; exact .one h, hg, rfl⟩
    · exact ⟨i :: w', j, g, rfl, .cons h s hw, hg, rfl⟩
section
variable {ps : List Pd} {ar : Str → Int}
theorem ArrOk.ahead (h : ArrOk ps ar) (hf : Wf ps) {p : Pd} (hp : p ∈ ps) : (∀ f ∈ p.feeds, f.2 = 0 → p.time + ar f.1 ≤ ar p.name) ∧ ((∀ f ∈ p.feeds, f.2 ≠ 0) ∧ ar p.name = p.time ∨ ∃ f ∈ p.feeds, f.2 = 0 ∧ ar p.name = p.time + ar f.1) := by
  have hne : ∀ f ∈ p.feeds, f.1 ≠ "" := fun f hfm => by
    obtain ⟨r, hr, e⟩ := hf.cl p hp f hfm
    exact hf.noEmpty (List.mem_map.mpr ⟨r, hr, e⟩)
  obtain ⟨h1, h2⟩ := bestF_is (tm := ar) hne
  have e := h.each p hp
  by_cases hz : bestF ar p.feeds = ""
  · rw [if_pos hz] at e
    exact ⟨fun f hfm h0 => absurd h0 (h1 hz f hfm), .inl ⟨h1 hz, by omega⟩⟩
  · rw [if_neg hz] at e
    obtain ⟨⟨f, hfm, f0, fe⟩, h3⟩ := h2 hz
    refine ⟨fun g hg g0 => ?_, .inr ⟨f, hfm, f0, by rw [e, fe]⟩⟩
    have := h3 g hg g0
    omega
/-- no part is done before its own time -/
theorem ArrOk.own (h : ArrOk ps ar) (hf : Wf ps) (ht : ∀ p ∈ ps, 0 ≤ p.time) : ∀ p ∈ ps, p.time ≤ ar p.name := by
  obtain ⟨rank, hr⟩ := hf.ac
  have key : ∀ n, ∀ p ∈ ps, rank p.name ≤ n → p.time ≤ ar p.name := by
    intro n
    induction n with
    | zero =>
      intro p hp hn
      rcases (h.ahead hf hp).2 with ⟨_, e⟩ | ⟨f, hfm, f0, _⟩
      · omega
      · have := hr p hp f hfm f0
        omega
    | succ n ih =>
      intro p hp hn
      rcases (h.ahead hf hp).2 with ⟨_, e⟩ | ⟨f, hfm, f0, e⟩
      · omega
      · obtain ⟨r, hrm, hrn⟩ := hf.cl p hp f hfm
        have h1 := hr p hp f hfm f0
        have h2 := ih r hrm (by rw [hrn]; omega)
        have h3 := ht r hrm
        rw [hrn] at h2
        omega
  exact fun p hp => key _ p hp (Nat.le_refl _)
/-- what lags make of the beat: the arrivals of the works moved by them -/
theorem arr_feas {lag : Str → Int} {T : Int} (hf : Wf ps) (hc : ∀ p ∈ ps, ∀ f ∈ p.feeds, 0 ≤ f.2) (ht : ∀ p ∈ ps, 0 ≤ p.time) (hfit : Fits ps lag) (h : ArrOk (regive (gLag lag) ps) ar) (hT : ∀ p ∈ ps, ar p.name ≤ T) : Feas ps T lag := by
  have hf' : Wf (regive (gLag lag) ps) := hf.moved hc
  have ht' : ∀ p ∈ regive (gLag lag) ps, 0 ≤ p.time := fun q hq => by
    obtain ⟨p, hp, rfl⟩ := regive_mem hq
    exact ht p hp
  have own := h.own hf' ht'
  refine ⟨hfit, fun p hp => ?_, fun u w v hv h0 => ?_⟩
  · have := own (regiveP (gLag lag) p) (List.mem_map.mpr ⟨p, hp, rfl⟩)
    exact Int.le_trans this (hT p hp)
  · -- a way all of whose stores are moved away
    have step : ∀ f ∈ linesOf ps, f.2.2 + lag f.2.1 - lag f.1 = 0 → tmOf ps f.2.1 + ar f.1 ≤ ar f.2.1 := fun f hfm h0 => by
      obtain ⟨p, hp, e, he, rfl⟩ := line_of hfm
      have := (h.ahead hf' (p := regiveP (gLag lag) p) (List.mem_map.mpr ⟨p, hp, rfl⟩)).1 (e.1, gLag lag p e) (List.mem_map.mpr ⟨e, he, rfl⟩) h0
      show tmOf ps p.name + ar e.1 ≤ ar p.name
      rw [tmOf_at hf.nd hp]
      exact this
    have ownL : ∀ n ∈ ps.map Pd.name, tmOf ps n ≤ ar n := fun n hn => by
      obtain ⟨p, hp, rfl⟩ := List.mem_map.mp hn
      rw [tmOf_at hf.nd hp]
      exact own (regiveP (gLag lag) p) (List.mem_map.mpr ⟨p, hp, rfl⟩)
    have pos : ∀ {u w v}, Via (linesOf ps) (fun _ => True) u w v → 0 ≤ heldW (linesOf ps) w + lag v - lag u := fun hv => hfit.way hv
    have key : ∀ n w u v, w.length ≤ n → Via (linesOf ps) (fun _ => True) u w v → heldW (linesOf ps) w + lag v - lag u = 0 → timeW (linesOf ps) (tmOf ps) u w ≤ ar v := by
      intro n
      induction n with
      | zero =>
        intro w u v hw hv _
        exact absurd (List.eq_nil_of_length_eq_zero (Nat.le_zero.mp hw)) hv.ne
      | succ n ih =>
        intro w u v hw hv h0
        rcases snoc_inv hv with ⟨i, f, rfl, hfi, rfl, rfl⟩ | ⟨w', i, f, rfl, hw', hfi, rfl⟩
        · rw [held_one hfi] at h0
          have h1 := step f (List.mem_of_getElem? hfi) h0
          have h2 := ownL f.1 (hf.lineEnds (List.mem_of_getElem? hfi)).1
          rw [time_one hfi]
          omega
        · rw [List.length_append, List.length_singleton] at hw
          rw [held_app, held_one hfi] at h0
          have h1 := pos hw'
          have h2 := hfit.line (List.mem_of_getElem? hfi)
          have h3 := ih w' u f.1 (by omega) hw' (by omega)
          have h4 := step f (List.mem_of_getElem? hfi) (by omega)
          have h5 : timeW (linesOf ps) (tmOf ps) f.1 [i] = tmOf ps f.1 + tmOf ps f.2.1 := time_one hfi
          rw [time_app (m := f.1), h5]
          omega
    have hvn : v ∈ ps.map Pd.name := by
      obtain ⟨f, hfm, rfl⟩ := hv.last
      exact (hf.lineEnds hfm).2
    obtain ⟨p, hp, rfl⟩ := List.mem_map.mp hvn
    exact Int.le_trans (key _ w u p.name (Nat.le_refl _) hv h0) (hT p hp)
/-- no arrival is later than any beat that the lags make -/
theorem arr_le {lag : Str → Int} {T : Int} (hf : Wf ps) (hc : ∀ p ∈ ps, ∀ f ∈ p.feeds, 0 ≤ f.2) (h : ArrOk (regive (gLag lag) ps) ar) (hx : Feas ps T lag) : ∀ p ∈ ps, ar p.name ≤ T := by
  have hf' : Wf (regive (gLag lag) ps) := hf.moved hc
  obtain ⟨rank, hr⟩ := hf'.ac
  have key : ∀ n, ∀ p ∈ ps, rank p.name ≤ n → ar p.name = p.time ∨ ∃ u w, Via (linesOf ps) (fun _ => True) u w p.name ∧ heldW (linesOf ps) w + lag p.name - lag u = 0 ∧ ar p.name = timeW (linesOf ps) (tmOf ps) u w := by
    intro n
    induction n with
    | zero =>
      intro p hp hn
      rcases (h.ahead hf' (p := regiveP (gLag lag) p) (List.mem_map.mpr ⟨p, hp, rfl⟩)).2 with ⟨_, e⟩ | ⟨f, hfm, f0, _⟩
      · exact .inl e
      · have : rank f.1 < rank p.name := hr (regiveP (gLag lag) p) (List.mem_map.mpr ⟨p, hp, rfl⟩) f hfm f0
        omega
    | succ n ih =>
      intro p hp hn
      rcases (h.ahead hf' (p := regiveP (gLag lag) p) (List.mem_map.mpr ⟨p, hp, rfl⟩)).2 with ⟨_, e⟩ | ⟨f, hfm, f0, e⟩
      · exact .inl e
      · have h1 : rank f.1 < rank p.name := hr (regiveP (gLag lag) p) (List.mem_map.mpr ⟨p, hp, rfl⟩) f hfm f0
        obtain ⟨g, hg, rfl⟩ := List.mem_map.mp hfm
        have f0 : g.2 + lag p.name - lag g.1 = 0 := f0
        have e : ar p.name = p.time + ar g.1 := e
        have h1 : rank g.1 < rank p.name := h1
        obtain ⟨r, hrm, hrn⟩ := hf.cl p hp g hg
        have hm : (g.1, p.name, g.2) ∈ linesOf ps := List.mem_flatMap.mpr ⟨p, hp, List.mem_map.mpr ⟨g, hg, rfl⟩⟩
        obtain ⟨i, hi⟩ := List.mem_iff_getElem?.mp hm
        have v1 : Via (linesOf ps) (fun _ => True) g.1 [i] p.name := .one hi
        have e1 : heldW (linesOf ps) [i] = g.2 := held_one hi
        have e2 : timeW (linesOf ps) (tmOf ps) g.1 [i] = tmOf ps g.1 + tmOf ps p.name := time_one hi
        have e3 := tmOf_at hf.nd hp
        right
        rcases ih r hrm (by rw [hrn]; omega) with h2 | ⟨u, w, hv, hz, h2⟩
        · have e4 := tmOf_at hf.nd hrm
          rw [hrn] at e4 h2
          exact ⟨g.1, [i], v1, by rw [e1]; omega, by rw [e2, e, h2, e3, e4]; omega⟩
        · rw [hrn] at hv hz h2
          refine ⟨u, w ++ [i], hv.app trivial v1, by rw [held_app, e1]; omega, ?_⟩
          rw [time_app (m := g.1), e2, e, h2, e3]
          omega
  intro p hp
  rcases key _ p hp (Nat.le_refl _) with e | ⟨u, w, hv, hz, e⟩
  · rw [e]
    exact hx.each p hp
  · rw [e]
    exact hx.ways u w _ hv hz
end
end SW


/-! ### best_feed, arrivals, beat -/
namespace SW
open PySem PySem.Spec PyProof.Rows L2 He TL
def spBestFeed (K : PySem.W.Frag) : Sp := fun vs H Q _ => ∃ (G : Hp) (v : V) (p : Pd) (d : Addr) (kvs : List (Key × V)) (tm : Str → Int), vs = [v, .ref d] ∧ Same G H ∧ PartAt K G v p ∧ p.feeds.length ≤ 900 ∧ (∀ f ∈ p.feeds, f.1 ≠ "") ∧ H d = some (.dK kvs) ∧
  (∀ f ∈ p.feeds, f.2 = 0 → valV kvs (Sum.inr f.1 : Key) = some (.int (tm f.1))) ∧ Q (.str (bestF tm p.feeds)) H
def spArrivals (K : PySem.W.Frag) : Sp := fun vs H Q _ => ∃ (G : Hp) (a : Addr) (ps : List Pd), vs = [.ref a] ∧ Same G H ∧ WorksAt K G a ps ∧ Wf ps ∧
  ∀ d os ar H', Same H H' → H d = none → ArrOk ps ar → Ord ps os → os.length = ps.length → H' d = some (.dK (dictOf (fun p => V.int (ar p.name)) os)) → Q (.ref d) H'
def spBeat (K : PySem.W.Frag) : Sp := fun vs H Q _ => ∃ (G : Hp) (a : Addr) (ps : List Pd), vs = [.ref a] ∧ Same G H ∧ WorksAt K G a ps ∧ Wf ps ∧ ps ≠ [] ∧
  ∀ b ar H', Same H H' → ArrOk ps ar → (∃ p ∈ ps, ar p.name = b) → (∀ p ∈ ps, ar p.name ≤ b) → Q (.int b) H'
theorem bestF_congr {tm tm' : Str → Int} {fs : List (Str × Int)} (hne : ∀ f ∈ fs, f.1 ≠ "") (h : ∀ f ∈ fs, f.2 = 0 → tm f.1 = tm' f.1) : bestF tm fs = bestF tm' fs := by
  have key : ∀ i, i ≤ fs.length → bestF tm (fs.take i) = bestF tm' (fs.take i) := by
    intro i
    induction i with
    | zero => intro _; rfl
    | succ i ih =>
      intro hi
      have ih := ih (by omega)
      have e := List.getElem?_eq_getElem (show i < fs.length by omega)
      have hm := List.getElem_mem (show i < fs.length by omega)
      generalize fs[i] = f at e hm
      rw [bestF_take e, bestF_take e, ih]
      unfold bestStep
      by_cases h0 : f.2 = 0
      · by_cases hz : bestF tm' (fs.take i) = ""
        · rw [if_pos ⟨h0, .inl hz⟩, if_pos ⟨h0, .inl hz⟩]
        · obtain ⟨⟨g, hg, g0, ge⟩, _⟩ := (bestF_is (tm := tm') (fs := fs.take i) fun f hf => hne f (List.mem_of_mem_take hf)).2 hz
          have e1 := h f hm h0
          have e2 := h g (List.mem_of_mem_take hg) g0
          rw [ge] at e2
          rw [e1, e2]
      · rw [if_neg (fun z => h0 z.1), if_neg (fun z => h0 z.1)]
  have := key fs.length (Nat.le_refl _)
  rw [List.take_length] at this
  exact this
section
variable {P : Program} {w : World} {K : PySem.W.Frag} {mg : Str → Option Value} {base : Heap}
theorem ok_best_feed (T : Txt K mg) : Ok P w K mg base 1 (ga K "best_feed") ["part", "times"] (spBestFeed K) := by
  refine mkOk T.F_best_feed sc_best_feed (fun _ _ _ _ _ _ us hl => match us, hl with | [_, _], _ => rfl) (by rintro vs H Q E ⟨_, _, _, _, _, _, rfl, _⟩; rfl) (fun cdv A outer s H vs Q E hr h => ?_)
  obtain ⟨G, v, p, d, kvs, tm, rfl, sg, ⟨a, dx, k, l, ws, rfl, hp⟩, hfl, hne, hd, hv, q⟩ := h
  have hu := hu_of hr
  refine ⟨_, (Evl.pss_cut (ps_set (i := 2) sc_best_feed.nd rfl (by first | exact Or.inl rfl | exact Or.inr rfl) pe_str)
      (pss_cons (ps_for PassesOwn.never rfl (piL (K := K) (pe_fldK (K := K) (pv 0) rfl)) (pg_name (i := 3) sc_best_feed.nd rfl (by first | exact Or.inl rfl | exact Or.inr rfl))
      (pss_one (ps_if (PW.pt (pw_and (pt_cmpR op_eq (pe_ix (ixT (K := K)) (pv 3) pe_int (fun _ _ => rfl)) pe_int (nomark _)) (pw_and1 (PW.pt (pw_or (pt_cmpR op_eq (pv 2) pe_str (nomark _)) (pw_or1 (pt_cmpR op_gt (pe_dget hu (pv 1) (pe_ix (ixT (K := K)) (pv 3) pe_int (fun _ _ => rfl)) (fun _ _ => rfl)) (pe_dget hu (pv 1) (pv 2) (fun _ _ => rfl)) (nomark _)))))))) (pss_one (ps_set (i := 2) sc_best_feed.nd rfl (by first | exact Or.inl rfl | exact Or.inr rfl) (pe_ix (ixT (K := K)) (pv 3) pe_int (fun _ _ => rfl)))) pss_nil)))
      (pss_one (ps_ret (pv 2))))), ?_⟩
  refine ⟨fun σ H' => σ = [some (.ref a), some (.ref d), some (.str ""), none] ∧ H = H', ⟨rfl, rfl⟩, ?_⟩
  rintro σ _ ⟨rfl, rfl⟩
  have l0 := sg _ _ hp.ls
  refine ⟨_, rfl, a, _, dx, _, _, rfl, sg _ _ hp.ob, T.c_Part, T.n_Part_feeds, rfl, l, rfl, ⟨_, SqL.of l0⟩, ?_⟩
  refine for_list (K := K) (a := l) (xs := ws) (fun i σ H' => ∃ v3, σ = [some (.ref a), some (.ref d), some (.str (bestF tm (p.feeds.take i))), v3] ∧ H = H')
    ⟨none, rfl, rfl⟩ (fun i σ H' _ h => by obtain ⟨_, _, rfl⟩ := h; exact SqL.of l0) ?_ ?_
  · rintro i x σ _ hi ⟨v3, rfl, rfl⟩
    obtain ⟨f, hfi, tt, rfl, htt⟩ := hp.fs.get hi
    have ht := sg _ _ htt
    have hfm := List.mem_of_getElem? hfi
    have key := bestF_take (tm := tm) hfi
    have isB := bestF_is (tm := tm) (fs := p.feeds.take i) fun f hf => hne f (List.mem_of_mem_take hf)
    have dget : ∀ g ∈ p.feeds, g.2 = 0 → DGet H d (.str g.1) (some (.int (tm g.1))) := fun g hg h0 => by
      have := DGet.k (k := Sum.inr g.1) hd
      rw [hv g hg h0] at this
      exact this
    have e1 : decide (V.int f.2 = V.int 0) = decide (f.2 = 0) := decide_eq_decide.mpr ⟨V.int.inj, fun z => by rw [z]⟩
    have e2 : decide (V.str (bestF tm (p.feeds.take i)) = V.str "") = decide (bestF tm (p.feeds.take i) = "") := decide_eq_decide.mpr ⟨V.str.inj, fun z => by rw [z]⟩
    have take : f.2 = 0 → (bestF tm (p.feeds.take i) = "" ∨ tm f.1 > tm (bestF tm (p.feeds.take i))) → bestF tm (p.feeds.take (i + 1)) = f.1 := fun h0 h1 => by
      rw [key]
      unfold bestStep
      rw [if_pos ⟨h0, h1⟩]
    have stay : ¬ (f.2 = 0 ∧ (bestF tm (p.feeds.take i) = "" ∨ tm f.1 > tm (bestF tm (p.feeds.take i)))) → bestF tm (p.feeds.take (i + 1)) = bestF tm (p.feeds.take i) := fun h => by
      rw [key]
      unfold bestStep
      rw [if_neg h]
    refine ⟨_, rfl, tt, _, _, _, rfl, rfl, SqT.of ht, at1 _ _ _, rfl, _, rfl, ?_⟩
    rw [e1]
    by_cases h0 : f.2 = 0
    · rw [decide_eq_true h0]
      refine iteT ⟨_, rfl, rfl, _, rfl, ?_⟩
      rw [e2]
      by_cases hz : bestF tm (p.feeds.take i) = ""
      · rw [decide_eq_true hz]
        refine iteT (iteT ?_)
        exact ⟨_, rfl, tt, _, _, _, rfl, rfl, SqT.of ht, at0 _ _, some (.ref tt), by rw [take h0 (.inl hz)] <;> rfl, rfl⟩
      · rw [decide_eq_false hz]
        obtain ⟨⟨g, hg, g0, ge⟩, _⟩ := isB.2 hz
        have hgB := dget g (List.mem_of_mem_take hg) g0
        rw [ge] at hgB
        refine iteF ⟨_, rfl, _, rfl, tt, _, _, _, rfl, rfl, SqT.of ht, at0 _ _, d, _, rfl, dget f hfm h0, _, rfl, _, rfl, d, _, rfl, hgB, _, _, rfl, rfl, _, rfl, ?_⟩
        refine ite2 (fun hgt => ?_) (fun hgt => ?_)
        · exact ⟨_, rfl, tt, _, _, _, rfl, rfl, SqT.of ht, at0 _ _, some (.ref tt), by rw [take h0 (.inr (of_decide_eq_true hgt))] <;> rfl, rfl⟩
        · exact ⟨some (.ref tt), by rw [stay fun z => z.2.elim hz fun y => hgt (decide_eq_true y)] <;> rfl, rfl⟩
    · rw [decide_eq_false h0]
      exact iteF (iteF ⟨some (.ref tt), by rw [stay fun z => h0 z.1] <;> rfl, rfl⟩)
  · rintro σ _ ⟨v3, rfl, rfl⟩
    rw [hp.fs.1, List.take_length]
    exact ⟨_, rfl, q⟩
theorem ok_arrivals (T : Txt K mg) : Ok P w K mg base 3 (ga K "arrivals") ["works"] (spArrivals K) := by
  have G_settled := ok_settled (P := P) (w := w) (base := base) T
  have G_best_feed := ok_best_feed (P := P) (w := w) (base := base) T
  refine mkOk T.F_arrivals sc_arrivals (fun _ _ _ _ _ _ us hl => match us, hl with | [_], _ => rfl) (by rintro vs H Q E ⟨_, _, _, rfl, _⟩; rfl) (fun cdv A outer s H vs Q E hr h => ?_)
  obtain ⟨G, a, ps, rfl, sg, hwa, hf, q⟩ := h
  have hu := hu_of hr
  refine ⟨_, (pss_cons (ps_set (i := 1) sc_arrivals.nd rfl (by first | exact Or.inl rfl | exact Or.inr rfl) pe_dnewK)
      (pss_cons (ps_for PassesOwn.never rfl (piL (K := K) (pe_callO G_settled (hr.mono (by decide)) T.g_settled (pa_cons (pv 0) pa_nil))) (pg_name (i := 2) sc_arrivals.nd rfl (by first | exact Or.inl rfl | exact Or.inr rfl))
      (pss_cons (ps_set (i := 3) sc_arrivals.nd rfl (by first | exact Or.inl rfl | exact Or.inr rfl) (pe_callO G_best_feed (hr.mono (by decide)) T.g_best_feed (pa_cons (pv 2) (pa_cons (pv 1) pa_nil))))
      (pss_one (ps_dput hu (pv 1) (pe_fldK (K := K) (pv 2) rfl) (pe_op op_add (pe_fldK (K := K) (pv 2) rfl) (pe_ifExp (pt_cmpR op_ne (pv 3) pe_str (nomark _)) (pe_dget hu (pv 1) (pv 3) (fun _ _ => rfl)) pe_int)) rfl))))
      (pss_one (ps_ret (pv 1))))), ?_⟩
  intro d hd
  have s1 : Same H (upd H d (.dK [])) := Same.new hd
  have d1 : upd H d (.dK []) d = some (.dK []) := upd_same
  revert s1 d1
  generalize upd H d (HO.dK []) = H1
  intro s1 d1
  refine ⟨_, rfl, G, a, ps, rfl, sg.trans s1, hwa, hf, fun oq us os H2 s2 hoq o2 hA hO hol => ?_⟩
  have s02 := s1.trans s2
  have few := hf.few
  have hod : oq ≠ d := fun z => by rw [z, d1] at hoq; cases hoq
  refine ⟨oq, rfl, ⟨_, SqL.of o2⟩, ?_⟩
  refine for_list (K := K) (a := oq) (xs := us) (fun i σ H' => ∃ v2 v3 ar, σ = [some (.ref a), some (.ref d), v2, v3] ∧ Same H H' ∧ H' oq = some (.lst us) ∧ H' d = some (.dK (dictOf (fun p => V.int (ar p.name)) (os.take i))) ∧ ∀ p ∈ os.take i, ar p.name = p.time + (if bestF ar p.feeds = "" then 0 else ar (bestF ar p.feeds)))
    ⟨none, none, fun _ => 0, rfl, s02, o2, s2 _ _ d1, fun p h => by cases h⟩ (fun i σ H' _ h => by obtain ⟨_, _, _, _, _, o, _⟩ := h; exact SqL.of o) ?_ ?_
  · rintro i x σ H3 hi ⟨v2, v3, ar, rfl, s3, o3, d3, har⟩
    obtain ⟨p, hp, hpa⟩ := hA.get hi
    have ⟨b, dx, k, l, ws, eb, hpi⟩ := hpa
    subst eb
    have hil := lt_of_get hp
    have hpm := hO.sub p (List.mem_of_getElem? hp)
    have hfd : ∀ f ∈ p.feeds, f.1 ≠ "" := fun f hfm => by
      obtain ⟨r, hr, e⟩ := hf.cl p hpm f hfm
      exact hf.noEmpty (List.mem_map.mpr ⟨r, hr, e⟩)
    have hnd : ((os.take i).map Pd.name).Nodup := by
      rw [List.map_take]
      exact hO.nd.sublist (List.take_sublist ..)
    have hval : ∀ n ∈ (os.take i).map Pd.name, valV (dictOf (fun p => V.int (ar p.name)) (os.take i)) (Sum.inr n : Key) = some (.int (ar n)) := fun n hn => by
      obtain ⟨r, hr, rfl⟩ := List.mem_map.mp hn
      exact val_dict hnd hr
    have hnew : p.name ∉ (os.take i).map Pd.name := nodup_pre hO.nd hp
    have h3 := hf.ln p hpm
    have h4 := lines_le p.kd.c
    refine ⟨_, rfl, _, rfl, G, .ref b, p, d, _, ar, rfl, sg.trans s3, hpa, by omega, hfd, d3, fun f hfm h0 => hval _ (hO.topo i p hp f hfm h0), ?_⟩
    -- the part's own time put in
    have small : (dictOf (fun p => V.int (ar p.name)) (os.take i)).length < sizeLine := by
      unfold dictOf
      rw [List.length_map, List.length_take]
      exact small1000 (by omega)
    obtain ⟨val, hval2⟩ : ∃ val : Int, val = p.time + (if bestF ar p.feeds = "" then 0 else ar (bestF ar p.feeds)) := ⟨_, rfl⟩
    obtain ⟨ar', har'⟩ : ∃ ar' : Str → Int, ar' = fun n => if n = p.name then val else ar n := ⟨_, rfl⟩
    have arN : ∀ n, n ≠ p.name → ar' n = ar n := fun n hn => by rw [har']; exact if_neg hn
    have arS : ar' p.name = val := by rw [har']; exact if_pos rfl
    have zeroOld : ∀ (j : Nat) (r : Pd), os[j]? = some r → j ≤ i → ∀ f ∈ r.feeds, f.2 = 0 → f.1 ≠ p.name := fun j r hj hji f hfm h0 z => by
      have h5 := hO.topo j r hj f hfm h0
      rw [z] at h5
      refine hnew ?_
      obtain ⟨r2, hr2, e⟩ := List.mem_map.mp h5
      exact List.mem_map.mpr ⟨r2, List.mem_of_mem_take (i := j) (by rw [List.take_take, Nat.min_eq_left hji]; exact hr2), e⟩
    have hbest : ∀ (j : Nat) (r : Pd), os[j]? = some r → j ≤ i → bestF ar' r.feeds = bestF ar r.feeds ∧ (bestF ar r.feeds ≠ "" → bestF ar r.feeds ≠ p.name) := fun j r hj hji => by
      have hrm := hO.sub r (List.mem_of_getElem? hj)
      have hrd : ∀ f ∈ r.feeds, f.1 ≠ "" := fun f hfm => by
        obtain ⟨r3, hr3, e⟩ := hf.cl r hrm f hfm
        exact hf.noEmpty (List.mem_map.mpr ⟨r3, hr3, e⟩)
      refine ⟨bestF_congr hrd fun f hfm h0 => arN _ (zeroOld j r hj hji f hfm h0), fun hz => ?_⟩
      obtain ⟨⟨g, hg, g0, ge⟩, _⟩ := (bestF_is (tm := ar) hrd).2 hz
      rw [← ge]
      exact zeroOld j r hj hji g hg g0
    have fin : ∀ v3, ∃ v2' v3' ar2, [some (V.ref a), some (.ref d), some (.ref b), some v3] = [some (V.ref a), some (.ref d), v2', v3'] ∧ Same H (upd H3 d (.dK (putK (dictOf (fun p => V.int (ar p.name)) (os.take i)) (Sum.inr p.name : Key) (.int val)))) ∧ (upd H3 d (.dK (putK (dictOf (fun p => V.int (ar p.name)) (os.take i)) (Sum.inr p.name : Key) (.int val)))) oq = some (.lst us) ∧
        (upd H3 d (.dK (putK (dictOf (fun p => V.int (ar p.name)) (os.take i)) (Sum.inr p.name : Key) (.int val)))) d = some (.dK (dictOf (fun p => V.int (ar2 p.name)) (os.take (i + 1)))) ∧ ∀ p ∈ os.take (i + 1), ar2 p.name = p.time + (if bestF ar2 p.feeds = "" then 0 else ar2 (bestF ar2 p.feeds)) := fun v3 => by
      have eold : dictOf (fun p => V.int (ar p.name)) (os.take i) = dictOf (fun p => V.int (ar' p.name)) (os.take i) := by
        unfold dictOf
        refine List.map_congr_left fun r hr => ?_
        show (Sum.inr r.name, V.int (ar r.name)) = (Sum.inr r.name, V.int (ar' r.name))
        rw [arN r.name fun z => hnew (by rw [← z]; exact List.mem_map.mpr ⟨r, hr, rfl⟩)]
      refine ⟨_, _, ar', rfl, fun c o e => by rw [upd_ne (ne_of_none e hd)]; exact s3 c o e, by rw [upd_ne hod]; exact o3, ?_, fun r hr => ?_⟩
      · rw [upd_same, eold, ← arS]
        have ep := dict_push (fun p => V.int (ar' p.name)) (os.take i) p hnew
        rw [ep, ← take_one hp]
      · rw [take_one hp] at hr
        rcases List.mem_append.mp hr with z | z
        · obtain ⟨j, hj⟩ := List.mem_iff_getElem?.mp z
          rw [List.getElem?_take] at hj
          split at hj
          · rename_i hji
            obtain ⟨b1, b2⟩ := hbest j r hj (by omega)
            rw [b1, arN r.name fun z2 => hnew (by rw [← z2]; exact List.mem_map.mpr ⟨r, z, rfl⟩), har r z]
            by_cases hz : bestF ar r.feeds = ""
            · rw [if_pos hz, if_pos hz]
            · rw [if_neg hz, if_neg hz, arN _ (b2 hz)]
          · cases hj
        · rw [List.mem_singleton.mp z]
          obtain ⟨b1, b2⟩ := hbest i p hp (Nat.le_refl _)
          rw [b1, arS, hval2]
          by_cases hz : bestF ar p.feeds = ""
          · rw [if_pos hz, if_pos hz]
          · rw [if_neg hz, if_neg hz, arN _ (b2 hz)]
    have hb3 := s3 _ _ (sg _ _ hpi.ob)
    have e2 : (!decide (V.str (bestF ar p.feeds) = V.str "")) = !decide (bestF ar p.feeds = "") := by
      congr 1
      exact decide_eq_decide.mpr ⟨V.str.inj, fun z => by rw [z]⟩
    refine ⟨_, rfl, b, _, dx, _, _, rfl, hb3, T.c_Part, T.n_Part_takes, rfl, ?_⟩
    refine ⟨_, rfl, rfl, _, rfl, ?_⟩
    rw [e2]
    by_cases hz : bestF ar p.feeds = ""
    · rw [if_pos hz] at hval2
      rw [decide_eq_true hz]
      refine iteF ⟨_, _, rfl, rfl, _, rfl, _, rfl, b, _, dx, _, _, rfl, hb3, T.c_Part, T.n_Part_called, rfl, d, _, rfl, DPut.k (k := Sum.inr p.name) d3 small, ?_⟩
      have := fin (.str (bestF ar p.feeds))
      rw [hval2] at this
      exact this
    · rw [if_neg hz] at hval2
      rw [decide_eq_false hz]
      have hfeed : DGet H3 d (.str (bestF ar p.feeds)) (some (.int (ar (bestF ar p.feeds)))) := by
        obtain ⟨⟨g, hg, g0, ge⟩, _⟩ := (bestF_is (tm := ar) hfd).2 hz
        have := DGet.k (k := Sum.inr (bestF ar p.feeds)) d3
        rw [hval _ (by rw [← ge]; exact hO.topo i p hp g hg g0)] at this
        exact this
      refine iteT ⟨_, rfl, _, rfl, d, _, rfl, hfeed, _, _, rfl, rfl, _, rfl, _, rfl, b, _, dx, _, _, rfl, hb3, T.c_Part, T.n_Part_called, rfl, d, _, rfl, DPut.k (k := Sum.inr p.name) d3 small, ?_⟩
      have := fin (.str (bestF ar p.feeds))
      rw [hval2] at this
      exact this
  · rintro σ H3 ⟨v2, v3, ar, rfl, s3, o3, d3, har⟩
    have el : us.length = os.length := hA.1
    rw [el, List.take_length] at d3 har
    refine ⟨_, rfl, q d os ar H3 s3 hd ⟨fun p hp => har p ?_⟩ hO hol d3⟩
    refine Classical.byContradiction fun hno => ?_
    have hnn : p.name ∉ os.map Pd.name := fun hm => by
      obtain ⟨r, hr, e⟩ := List.mem_map.mp hm
      exact hno (by rw [← nodup_uniq hf.nd (hO.sub r hr) hp e]; exact hr)
    have := nodup_len (List.nodup_cons.mpr ⟨hnn, hO.nd⟩) (ys := ps.map Pd.name) fun n hn => by
      rcases List.mem_cons.mp hn with rfl | hn
      · exact List.mem_map.mpr ⟨p, hp, rfl⟩
      · obtain ⟨r, hr, rfl⟩ := List.mem_map.mp hn
        exact List.mem_map.mpr ⟨r, hO.sub r hr, rfl⟩
    rw [List.length_cons, List.length_map, List.length_map] at this
    omega
theorem ok_beat (T : Txt K mg) : Ok P w K mg base 4 (ga K "beat") ["works"] (spBeat K) := by
  have G_arrivals := ok_arrivals (P := P) (w := w) (base := base) T
  refine mkOk T.F_beat sc_beat (fun _ _ _ _ _ _ us hl => match us, hl with | [_], _ => rfl) (by rintro vs H Q E ⟨_, _, _, rfl, _⟩; rfl) (fun cdv A outer s H vs Q E hr h => ?_)
  obtain ⟨G, a, ps, rfl, sg, hwa, hf, hne, q⟩ := h
  refine ⟨_, (pss_one (ps_ret (pe_maxVals rfl (by rfl) T.f_max (pe_callO G_arrivals (hr.mono (by decide)) T.g_arrivals (pa_cons (pv 0) pa_nil))))), ?_⟩
  refine ⟨_, rfl, G, a, ps, rfl, sg, hwa, hf, fun d os ar H1 s1 hd hA hO hol d1 => ?_⟩
  have hall : ∀ p ∈ ps, p ∈ os := fun p hp => by
    refine Classical.byContradiction fun hno => ?_
    have hnn : p.name ∉ os.map Pd.name := fun hm => by
      obtain ⟨r, hr, e⟩ := List.mem_map.mp hm
      exact hno (by rw [← nodup_uniq hf.nd (hO.sub r hr) hp e]; exact hr)
    have := nodup_len (List.nodup_cons.mpr ⟨hnn, hO.nd⟩) (ys := ps.map Pd.name) fun n hn => by
      rcases List.mem_cons.mp hn with rfl | hn
      · exact List.mem_map.mpr ⟨p, hp, rfl⟩
      · obtain ⟨r, hr, rfl⟩ := List.mem_map.mp hn
        exact List.mem_map.mpr ⟨r, hO.sub r hr, rfl⟩
    rw [List.length_cons, List.length_map, List.length_map] at this
    omega
  refine ⟨d, _, os.map fun p => ar p.name, rfl, d1, ?_, ?_, fun m h1 h2 => ?_⟩
  · unfold dictOf
    rw [List.map_map, List.map_map] <;> rfl
  · intro z
    have := congrArg List.length z
    rw [List.length_map, hol] at this
    exact hne (List.eq_nil_of_length_eq_zero this)
  · obtain ⟨p, hp, rfl⟩ := List.mem_map.mp h1
    exact q _ ar H1 s1 hA ⟨p, hO.sub p hp, rfl⟩ fun r hr => h2 _ (List.mem_map.mpr ⟨r, hall r hr, rfl⟩)
end
end SW


/-! ### longest -/
namespace SW
open PySem PySem.Spec PyProof.Rows L2 He TL LamX
/-! the heap without tables -/
def noT (G : Hp) : Hp := fun c => match G c with
  | some (.tbl _) => none
  | o => o
theorem noT_of {G : Hp} {c : Addr} {o : HO} (h : G c = some o) (hn : ∀ ps, o ≠ .tbl ps) : noT G c = some o := by
  unfold noT
  rw [h]
  cases o with
  | tbl ps => exact absurd rfl (hn ps)
  | _ => rfl
theorem noT_same {G H H' : Hp} (s : Same G H) (e : ExtN H H') : Same (noT G) H' := fun c o h => by
  unfold noT at h
  cases q : G c with
  | none =>
    rw [q] at h
    cases h
  | some u =>
    rw [q] at h
    cases u with
    | tbl ps => cases h
    | _ =>
      cases h
      exact e _ _ (s _ _ q) (fun ps z => by cases z)
section
variable {K : PySem.W.Frag} {G : Hp}
theorem kind_noT {a : Addr} {k : Kd} (h : KindAt K G a k) : KindAt K (noT G) a k := by
  obtain ⟨dx, h⟩ := h
  exact ⟨dx, noT_of h (fun ps z => by cases z)⟩
theorem part_noT {v : V} {p : Pd} (h : PartAt K G v p) : PartAt K (noT G) v p := by
  obtain ⟨a, dx, k, l, vs, e, h⟩ := h
  refine ⟨a, dx, k, l, vs, e, noT_of h.ob (fun ps z => by cases z), kind_noT h.kd, h.ok, noT_of h.ls (fun ps z => by cases z), h.fs.mono fun v f ⟨t, e1, e2⟩ => ⟨t, e1, noT_of e2 (fun ps z => by cases z)⟩⟩
theorem works_noT {a : Addr} {ps : List Pd} (h : WorksAt K G a ps) : WorksAt K (noT G) a ps := by
  obtain ⟨dx, l, vs, h⟩ := h
  exact ⟨dx, l, vs, noT_of h.ob (fun ps z => by cases z), noT_of h.ls (fun ps z => by cases z), h.ps.mono fun _ _ z => part_noT z⟩
theorem law_noT {q : Addr} {ls : List Lp} (h : LawAt G q ls) : LawAt (noT G) q ls := by
  obtain ⟨vs, h1, h2⟩ := h
  refine ⟨vs, noT_of h1 (fun ps z => by cases z), h2.mono fun v p ⟨t, l, us, e, h⟩ => ⟨t, l, us, e, noT_of h.ob (fun ps z => by cases z), noT_of h.ls (fun ps z => by cases z), h.fs.mono fun v f ⟨t, e1, e2⟩ => ⟨t, e1, noT_of e2 (fun ps z => by cases z)⟩⟩⟩
end
/-- the parts of a way without stores -/
structure WayOk (ps : List Pd) (m : Int) (way : List Str) : Prop where
  ne : way ≠ []
  sub : ∀ x ∈ way, x ∈ ps.map Pd.name
  few : way.length ≤ 60
  sum : (way.map (tmOf ps)).sum = m
  chain : ∀ i x y, way[i]? = some x → way[i + 1]? = some y → ∃ p ∈ ps, p.name = y ∧ (x, (0 : Int)) ∈ p.feeds
structure WayIn (ps : List Pd) (ar : Str → Int) (rank : Str → Nat) (m : Int) (way : List Str) (n : Str) : Prop where
  head : way[0]? = some n
  sub : ∀ x ∈ way, x ∈ ps.map Pd.name
  nd : way.Nodup
  low : ∀ x ∈ way, rank n ≤ rank x
  sum : (way.map (tmOf ps)).sum + ar n - tmOf ps n = m
  chain : ∀ i x y, way[i]? = some x → way[i + 1]? = some y → ∃ p ∈ ps, p.name = y ∧ (x, (0 : Int)) ∈ p.feeds
section
variable {ps : List Pd} {ar : Str → Int} {rank : Str → Nat} {m : Int} {way : List Str}
theorem WayIn.few {n : Str} (h : WayIn ps ar rank m way n) (hf : Wf ps) : way.length ≤ 60 := by
  have h1 := nodup_len h.nd h.sub
  have h2 := hf.few
  rw [List.length_map] at h1
  omega
theorem WayIn.one {p : Pd} (hf : Wf ps) (hp : p ∈ ps) (e : ar p.name = m) : WayIn ps ar rank m [p.name] p.name := by
  refine ⟨rfl, fun x hx => ?_, List.nodup_cons.mpr ⟨List.not_mem_nil, List.nodup_nil⟩, fun x hx => ?_, ?_, fun i x y _ h2 => ?_⟩
  · rw [List.mem_singleton.mp hx]
    exact List.mem_map.mpr ⟨p, hp, rfl⟩
  · rw [List.mem_singleton.mp hx]
    exact Nat.le_refl _
  · show tmOf ps p.name + 0 + ar p.name - tmOf ps p.name = m
    omega
  · cases h2
theorem WayIn.push {p : Pd} (h : WayIn ps ar rank m way p.name) (hf : Wf ps) (hA : ArrOk ps ar) (hr : ∀ p ∈ ps, ∀ f ∈ p.feeds, f.2 = 0 → rank f.1 < rank p.name) (hp : p ∈ ps) (hne : ∀ f ∈ p.feeds, f.1 ≠ "") (hz : bestF ar p.feeds ≠ "") :
    rank (bestF ar p.feeds) < rank p.name ∧ WayIn ps ar rank m (bestF ar p.feeds :: way) (bestF ar p.feeds) := by
  obtain ⟨⟨f, hfm, f0, fe⟩, _⟩ := (bestF_is (tm := ar) hne).2 hz
  have e := hA.each p hp
  rw [if_neg hz] at e
  have h1 := hr p hp f hfm f0
  have et := tmOf_at hf.nd hp
  rw [fe] at h1
  refine ⟨h1, rfl, fun x hx => ?_, List.nodup_cons.mpr ⟨fun z => ?_, h.nd⟩, fun x hx => ?_, ?_, fun i x y hx hy => ?_⟩
  · rcases List.mem_cons.mp hx with rfl | hx
    · obtain ⟨r, hr, e⟩ := hf.cl p hp f hfm
      rw [← fe]
      exact List.mem_map.mpr ⟨r, hr, e⟩
    · exact h.sub x hx
  · have := h.low _ z
    omega
  · rcases List.mem_cons.mp hx with rfl | hx
    · exact Nat.le_refl _
    · have := h.low x hx
      omega
  · have hs := h.sum
    rw [List.map_cons, List.sum_cons]
    omega
  · cases i with
    | zero =>
      have hx : some (bestF ar p.feeds) = some x := hx
      have hy : way[0]? = some y := hy
      rw [h.head] at hy
      cases hx
      cases hy
      refine ⟨p, hp, rfl, ?_⟩
      rw [← fe, ← f0]
      exact hfm
    | succ i => exact h.chain i x y hx hy
theorem WayIn.done {p : Pd} (h : WayIn ps ar rank m way p.name) (hf : Wf ps) (hA : ArrOk ps ar) (hp : p ∈ ps) (hz : bestF ar p.feeds = "") : WayOk ps m way := by
  have e := hA.each p hp
  rw [if_pos hz] at e
  have et := tmOf_at hf.nd hp
  have hs := h.sum
  refine ⟨fun z => ?_, h.sub, h.few hf, by omega, h.chain⟩
  have := h.head
  rw [z] at this
  cases this
end
theorem ord_all {ps os : List Pd} (hf : Wf ps) (hO : Ord ps os) (hol : os.length = ps.length) : ∀ p ∈ ps, p ∈ os := fun p hp => by
  refine Classical.byContradiction fun hno => ?_
  have hnn : p.name ∉ os.map Pd.name := fun hm => by
    obtain ⟨r, hr, e⟩ := List.mem_map.mp hm
    exact hno (by rw [← nodup_uniq hf.nd (hO.sub r hr) hp e]; exact hr)
  have := nodup_len (List.nodup_cons.mpr ⟨hnn, hO.nd⟩) (ys := ps.map Pd.name) fun n hn => by
    rcases List.mem_cons.mp hn with rfl | hn
    · exact List.mem_map.mpr ⟨p, hp, rfl⟩
    · obtain ⟨r, hr, rfl⟩ := List.mem_map.mp hn
      exact List.mem_map.mpr ⟨r, hO.sub r hr, rfl⟩
  rw [List.length_cons, List.length_map, List.length_map] at this
  omega
abbrev lonD : He.Defn := ("longest", none)
def spLongest (K : PySem.W.Frag) : Sp := fun vs H Q _ => ∃ (G : Hp) (a : Addr) (ps : List Pd), vs = [.ref a] ∧ Same G H ∧ WorksAt K G a ps ∧ Wf ps ∧ ps ≠ [] ∧ H (cT K lonD).2 = some (.tbl #[]) ∧
  ∀ wq way ar m H', ExtN H H' → ArrOk ps ar → m ∈ ps.map Pd.name → (∀ n ∈ ps.map Pd.name, ar n ≤ ar m) → WayOk ps (ar m) way → H' wq = some (.lst (way.map V.str)) → Q (.ref wq) H'
section
variable {P : Program} {w : World} {K : PySem.W.Frag} {mg : Str → Option Value} {base : Heap}
theorem ok_longest (T : Txt K mg) (TB : TabB base mg (cT K lonD).1 (cT K lonD).2) : Ok P w K mg base 4 (ga K "longest") ["works"] (spLongest K) := by
  have G_arrivals := ok_arrivals (P := P) (w := w) (base := base) T
  have G_best_feed := ok_best_feed (P := P) (w := w) (base := base) T
  have G_Works_names := ok_Works_names (P := P) (w := w) (base := base) T
  have G_Works_part := ok_Works_part (P := P) (w := w) (base := base) T
  refine mkOkC (p := lonD) T.F_longest sc_longest (fun _ _ _ _ _ _ us hl => match us, hl with | [_], _ => rfl) (by rintro vs H Q E ⟨_, _, _, rfl, _⟩; rfl) (fun A outer s H vs Q E hr h => ?_)
  obtain ⟨G, a, ps, rfl, sg, hwa, hf, hne, hP, q⟩ := h
  have hu := hu_of hr
  refine ⟨_, (Evl.pss_cut (ps_set (i := 1) sc_longest.nd rfl (by first | exact Or.inl rfl | exact Or.inr rfl) (pe_callO G_arrivals (hr.mono (by decide)) T.g_arrivals (pa_cons (pv 0) pa_nil)))
      (Evl.pss_cut (ps_set (i := 2) sc_longest.nd rfl (by first | exact Or.inl rfl | exact Or.inr rfl) (pe_maxKey (i := 1) (c := (cT K lonD).1) (P := (cT K lonD).2) (k := 0) rfl (by rfl) T.f_max (pa_cons (G_Works_names.use fun fd F b => pe_meth0 (pv 0) T.c_Works T.m_Works_names F (hr.mono (by decide)) b .nil pass0) pa_nil) (hr.mono (by decide)) TB rfl rfl rfl rfl (fun _ _ _ _ _ _ => rfl) (keyS_by (sc := defScope s_longest) (by decide +kernel)) (by decide) (by decide) (by decide)))
      (Evl.pss_cut (ps_set (i := 3) sc_longest.nd rfl (by first | exact Or.inl rfl | exact Or.inr rfl) (pe_lst (pa_cons (pv 2) pa_nil)))
      (pss_cons (ps_while PassesOwn.never (pt_cmpR op_ne (pe_callO G_best_feed (hr.mono (by decide)) T.g_best_feed (pa_cons (G_Works_part.use fun fd F b => pe_meth (pv 0) T.c_Works T.m_Works_part F (hr.mono (by decide)) b .nil pass0 (pa_cons (pv 2) pa_nil)) (pa_cons (pv 1) pa_nil))) pe_str (nomark _)) (pss_cons (ps_set (i := 2) sc_longest.nd rfl (by first | exact Or.inl rfl | exact Or.inr rfl) (pe_callO G_best_feed (hr.mono (by decide)) T.g_best_feed (pa_cons (G_Works_part.use fun fd F b => pe_meth (pv 0) T.c_Works T.m_Works_part F (hr.mono (by decide)) b .nil pass0 (pa_cons (pv 2) pa_nil)) (pa_cons (pv 1) pa_nil))))
      (pss_one (ps_expr (pe_bm PySem.F.plainAttrs_list PySem.F.slot_list_insert PySem.F.type_list_insert mt_insert (pv 3) (pa_cons pe_int (pa_cons (pv 2) pa_nil)))))))
      (pss_one (ps_ret (pv 3))))))), ?_⟩
  refine ⟨fun σ H' => ∃ d os ar, σ = [some (.ref a), some (.ref d), none, none] ∧ Same H H' ∧ H d = none ∧ ArrOk ps ar ∧ Ord ps os ∧ os.length = ps.length ∧ H' d = some (.dK (dictOf (fun p => V.int (ar p.name)) os)), ?_, ?_⟩
  · refine ⟨_, rfl, G, a, ps, rfl, sg, hwa, hf, fun d os ar H1 s1 hd hA hO hol d1 => ?_⟩
    exact ⟨d, os, ar, rfl, s1, hd, hA, hO, hol, d1⟩
  rintro σ H1 ⟨d, os, ar, rfl, s1, hd, hA, hO, hol, d1⟩
  have ⟨dx, l, us, hw⟩ := hwa
  have few := hf.few
  have hall := ord_all hf hO hol
  have hval : ∀ n ∈ ps.map Pd.name, valV (dictOf (fun p => V.int (ar p.name)) os) (Sum.inr n : Key) = some (.int (ar n)) := fun n hn => by
    obtain ⟨r, hr, rfl⟩ := List.mem_map.mp hn
    exact val_dict hO.nd (hall r hr)
  refine ⟨fun σ H' => ∃ m, σ = [some (.ref a), some (.ref d), some (.str m), none] ∧ ExtN H H' ∧ H' d = some (.dK (dictOf (fun p => V.int (ar p.name)) os)) ∧ m ∈ ps.map Pd.name ∧ ∀ n ∈ ps.map Pd.name, ar n ≤ ar m, ?_, ?_⟩
  · refine ⟨_, rfl, a, dx, _, rfl, s1 _ _ (sg _ _ hw.ob), rfl, G, a, ps, rfl, sg.trans s1, hwa, by omega, fun nq H2 s2 hnq n2 => ?_⟩
    have en : (ps.map fun p => V.str p.name) = (ps.map Pd.name).map V.str := by rw [List.map_map] <;> rfl
    rw [en] at n2
    refine ⟨nq, d, ps.map Pd.name, ar, _, rfl, SqL.of n2, fun z => hne (List.map_eq_nil_iff.mp z), rfl, s2 _ _ d1, hval, TabS.nil (s2 _ _ (s1 _ _ hP)), fun m H3 eN hm hmax => ?_⟩
    exact ⟨m, rfl, (ExtN.of (s1.trans s2)).trans eN, eN _ _ (s2 _ _ d1) (fun ps z => by cases z), hm, hmax⟩
  rintro σ H2 ⟨m, rfl, e2, d2, hm, hmax⟩
  obtain ⟨pm, hpm, rfl⟩ := List.mem_map.mp hm
  obtain ⟨rank, hrk⟩ := hf.ac
  have sN : Same (noT G) H2 := noT_same sg e2
  have hwN := works_noT hwa
  have ⟨dx2, l2, us2, hw2⟩ := hwN
  refine ⟨fun σ H' => ∃ wq, σ = [some (.ref a), some (.ref d), some (.str pm.name), some (.ref wq)] ∧ H2 wq = none ∧ Same H2 H' ∧ H' wq = some (.lst ([pm.name].map V.str)), ?_, ?_⟩
  · refine ⟨_, rfl, (by show 1 ≤ sizeLine; decide), fun wq hwq => ?_⟩
    exact ⟨wq, rfl, hwq, Same.new hwq, upd_same⟩
  rintro σ H3 ⟨wq, rfl, hwq, s3, w3⟩
  have dget : ∀ (p : Pd), p ∈ ps → ∀ f ∈ p.feeds, f.2 = 0 → valV (dictOf (fun p => V.int (ar p.name)) os) (Sum.inr f.1 : Key) = some (.int (ar f.1)) := fun p hp f hfm _ => by
    obtain ⟨r, hr, e⟩ := hf.cl p hp f hfm
    exact hval _ (List.mem_map.mpr ⟨r, hr, e⟩)
  have hfd : ∀ p ∈ ps, ∀ f ∈ p.feeds, f.1 ≠ "" := fun p hp f hfm => by
    obtain ⟨r, hr, e⟩ := hf.cl p hp f hfm
    exact hf.noEmpty (List.mem_map.mpr ⟨r, hr, e⟩)
  have hln : ∀ p ∈ ps, p.feeds.length ≤ 900 := fun p hp => by rw [hf.ln p hp]; have := lines_le p.kd.c; omega
  refine ⟨fun k σ H' => ∃ (p : Pd) (way : List Str), k = rank p.name ∧ σ = [some (.ref a), some (.ref d), some (.str p.name), some (.ref wq)] ∧ p ∈ ps ∧ WayIn ps ar rank (ar pm.name) way p.name ∧ Same H2 H' ∧ H' wq = some (.lst (way.map V.str)), ⟨_, pm, _, rfl, rfl, hpm, .one hf hpm rfl, s3, w3⟩, ?_⟩
  rintro k σ H4 ⟨p, way, rfl, rfl, hp, hW, s4, w4⟩
  obtain ⟨jp, hjp, fp⟩ := hf.at hp
  have eb : (!decide (V.str (bestF ar p.feeds) = V.str "")) = !decide (bestF ar p.feeds = "") := by
    congr 1
    exact decide_eq_decide.mpr ⟨V.str.inj, fun z => by rw [z]⟩
  refine ⟨_, rfl, a, dx2, _, rfl, s4 _ _ (sN _ _ hw2.ob), rfl, _, rfl, noT G, a, ps, jp, p, rfl, sN.trans s4, hwN, by omega, hjp, fp, fun pv H5 s5 hpv => ?_⟩
  refine ⟨_, rfl, noT G, pv, p, d, _, ar, rfl, (sN.trans s4).trans s5, hpv, hln p hp, hfd p hp, s5 _ _ (s4 _ _ d2), dget p hp, rfl, _, rfl, ?_⟩
  rw [eb]
  by_cases hz : bestF ar p.feeds = ""
  · rw [decide_eq_true hz]
    refine iteF ?_
    refine ⟨_, rfl, q wq way ar pm.name H5 (e2.trans (ExtN.of (s4.trans s5))) hA hm hmax (hW.done hf hA hp hz) (s5 _ _ w4)⟩
  · rw [decide_eq_false hz]
    refine iteT ?_
    obtain ⟨hlt, hW2⟩ := hW.push hf hA hrk hp (hfd p hp) hz
    obtain ⟨f, hfm, f0, fe⟩ := ((bestF_is (tm := ar) (hfd p hp)).2 hz).1
    obtain ⟨r, hr2, er⟩ := hf.cl p hp f hfm
    have er : r.name = bestF ar p.feeds := by rw [er, fe]
    refine ⟨fun σ H' => ∃ (p' : Pd) (way' : List Str), rank p'.name < rank p.name ∧ σ = [some (.ref a), some (.ref d), some (.str p'.name), some (.ref wq)] ∧ p' ∈ ps ∧ WayIn ps ar rank (ar pm.name) way' p'.name ∧ Same H2 H' ∧ H' wq = some (.lst (way'.map V.str)), fun σ' H' ⟨p', way', h1, h2, h3, h4, h5, h6⟩ => ⟨_, h1, p', way', rfl, h2, h3, h4, h5, h6⟩, ?_⟩
    refine ⟨_, rfl, a, dx2, _, rfl, s5 _ _ (s4 _ _ (sN _ _ hw2.ob)), rfl, _, rfl, noT G, a, ps, jp, p, rfl, (sN.trans s4).trans s5, hwN, by omega, hjp, fp, fun pv H6 s6 hpv => ?_⟩
    refine ⟨_, rfl, noT G, pv, p, d, _, ar, rfl, ((sN.trans s4).trans s5).trans s6, hpv, hln p hp, hfd p hp, s6 _ _ (s5 _ _ (s4 _ _ d2)), dget p hp, ?_⟩
    have w6 := s6 _ _ (s5 _ _ w4)
    have few2 := hW.few hf
    refine ⟨_, rfl, .inl ⟨rfl, _, SqL.of w6⟩, _, rfl, wq, _, 0, .str (bestF ar p.feeds), rfl, rfl, w6, by rw [List.length_map]; exact small1000 (by omega), by decide, by decide, ?_⟩
    refine ⟨r, bestF ar p.feeds :: way, by rw [er]; exact hlt, by rw [er] <;> rfl, hr2, by rw [er]; exact hW2, fun c o e => by rw [upd_ne (ne_of_none e hwq)]; exact s6 _ _ (s5 _ _ (s4 c o e)), by rw [upd_same] <;> rfl⟩
end
end SW


/-! ### _law_timed -/
namespace SW
open PySem PySem.Spec PyProof.Rows L2 He TL
def aheadL (ls : List Lp) (ar : Str → Int) (fs : List (Nat × Int)) : List Int := (fs.filter fun f => decide (f.2 = 0)).map fun f => ar (nameAt ls f.1)
theorem ahead_take {ls : List Lp} {ar : Str → Int} {fs : List (Nat × Int)} {i : Nat} {f : Nat × Int} (h : fs[i]? = some f) : aheadL ls ar (fs.take (i + 1)) = aheadL ls ar (fs.take i) ++ (if f.2 = 0 then [ar (nameAt ls f.1)] else []) := by
  unfold aheadL
  rw [take_one h, List.filter_append, List.map_append, List.filter_cons, List.filter_nil]
  by_cases e : f.2 = 0
  · rw [decide_eq_true e, if_pos rfl, if_pos e] <;> rfl
  · rw [decide_eq_false e, if_neg (by simp), if_neg e] <;> rfl
theorem ahead_mem {ls : List Lp} {ar : Str → Int} {fs : List (Nat × Int)} {m : Int} : m ∈ aheadL ls ar fs ↔ ∃ f ∈ fs, f.2 = 0 ∧ ar (nameAt ls f.1) = m := by
  unfold aheadL
  rw [List.mem_map]
  constructor
  · rintro ⟨f, h1, h2⟩
    obtain ⟨h3, h4⟩ := List.mem_filter.mp h1
    exact ⟨f, h3, of_decide_eq_true h4, h2⟩
  · rintro ⟨f, h1, h2, h3⟩
    exact ⟨f, List.mem_filter.mpr ⟨h1, decide_eq_true h2⟩, h3⟩
theorem ahead_due {ls : List Lp} {ar : Str → Int} (hf : Wf (worksOf ls)) (hA : ArrOk (worksOf ls) ar) {l : Lp} (hl : l ∈ ls) : (aheadL ls ar l.feeds = [] → ar l.name = l.time + 0) ∧ ∀ m, m ∈ aheadL ls ar l.feeds → (∀ y, y ∈ aheadL ls ar l.feeds → y ≤ m) → ar l.name = l.time + m := by
  have hp : pdOf ls l ∈ worksOf ls := List.mem_map.mpr ⟨l, hl, rfl⟩
  obtain ⟨h1, h2⟩ := hA.ahead hf hp
  have h1 : ∀ f ∈ l.feeds, f.2 = 0 → l.time + ar (nameAt ls f.1) ≤ ar l.name := fun f hfm h0 => h1 (nameAt ls f.1, f.2) (List.mem_map.mpr ⟨f, hfm, rfl⟩) h0
  have h2 : ((∀ f ∈ l.feeds, f.2 ≠ 0) ∧ ar l.name = l.time) ∨ ∃ f ∈ l.feeds, f.2 = 0 ∧ ar l.name = l.time + ar (nameAt ls f.1) := by
    rcases h2 with ⟨h3, h4⟩ | ⟨f, h3, h4, h5⟩
    · exact .inl ⟨fun f hfm => h3 (nameAt ls f.1, f.2) (List.mem_map.mpr ⟨f, hfm, rfl⟩), h4⟩
    · obtain ⟨g, hg, rfl⟩ := List.mem_map.mp h3
      exact .inr ⟨g, hg, h4, h5⟩
  refine ⟨fun e => ?_, fun m hm hmax => ?_⟩
  · rcases h2 with ⟨_, h4⟩ | ⟨f, h3, h4, _⟩
    · omega
    · have := ahead_mem (ls := ls) (ar := ar).mpr ⟨f, h3, h4, rfl⟩
      rw [e] at this
      cases this
  · obtain ⟨f, hfm, f0, rfl⟩ := ahead_mem.mp hm
    rcases h2 with ⟨h3, _⟩ | ⟨g, h3, h4, h5⟩
    · exact absurd f0 (h3 f hfm)
    · have h6 := hmax _ (ahead_mem.mpr ⟨g, h3, h4, rfl⟩)
      have h7 := h1 f hfm f0
      omega
def spTimed (K : PySem.W.Frag) : Sp := fun vs H Q _ => ∃ (G : Hp) (pq d : Addr) (mark : Int) (ls : List Lp) (ar : Str → Int) (os : List Pd), vs = [.ref pq, .ref d] ∧ Same G H ∧ LawAt G pq ls ∧ LawB mark ls ∧ Wf (worksOf ls) ∧ ArrOk (worksOf ls) ar ∧ Ord (worksOf ls) os ∧ os.length = (worksOf ls).length ∧
  H d = some (.dK (dictOf (fun p => V.int (ar p.name)) os)) ∧ ∀ H', Same H H' → Q (.bl true) H'
section
variable {P : Program} {w : World} {K : PySem.W.Frag} {mg : Str → Option Value} {base : Heap}
theorem ok_law_timed (T : Txt K mg) : Ok P w K mg base 1 (ga K "_law_timed") ["_law_parts", "_law_times"] (spTimed K) := by
  refine mkOk T.F_law_timed sc_law_timed (fun _ _ _ _ _ _ us hl => match us, hl with | [_, _], _ => rfl) (by rintro vs H Q E ⟨_, _, _, _, _, _, _, rfl, _⟩; rfl) (fun cdv A outer s H vs Q E hr h => ?_)
  obtain ⟨G, pq, d, mark, ls, ar, os, rfl, sg, hla, hb, hf, hA, hO, hol, hd, q⟩ := h
  have ⟨us, hpq, hAl⟩ := hla
  have hu := hu_of hr
  have hi := hb.hi
  refine ⟨_, (pss_cons (ps_if (PW.pt (pw_or (pt_not (pt_val (pe_callB (isiK (K := K)) (by rfl) T.f_isinstance (by decide +kernel) (pa_cons (pv 1) (pa_cons (pe_bltn (v := .ty "dict") (u := .type "dict") (by rfl) T.f_dict (by decide +kernel) rfl) pa_nil))))) (pw_or1 (pt_cmpR op_ne (pe_callB call_lenD (by rfl) T.f_len (by decide +kernel) (pa_cons (pv 1) pa_nil)) (pe_callB (lenQ (K := K)) (by rfl) T.f_len (by decide +kernel) (pa_cons (pv 0) pa_nil)) (nomark _))))) (pss_one (ps_ret pe_bl)) pss_nil)
      (pss_cons (ps_for PassesOwn.never rfl (piL (K := K) (pv 0)) (pg_name (i := 2) sc_law_timed.nd rfl (by first | exact Or.inl rfl | exact Or.inr rfl))
      (pss_cons (ps_set (i := 3) sc_law_timed.nd rfl (by first | exact Or.inl rfl | exact Or.inr rfl) (pe_dget1 hu (pv 1) (pe_ix (ixT (K := K)) (pv 2) pe_int (fun _ _ => rfl)) ⟨rfl, rfl, rfl, rfl⟩))
      (pss_cons (ps_if (PW.pt (pw_or (pt_not (pt_val (pe_callB (isiK (K := K)) (by rfl) T.f_isinstance (by decide +kernel) (pa_cons (pv 3) (pa_cons (pe_bltn (v := .ty "int") (u := .type "int") (by rfl) T.f_int (by decide +kernel) rfl) pa_nil))))) (pw_or1 (pt_val (pe_callB (isiK (K := K)) (by rfl) T.f_isinstance (by decide +kernel) (pa_cons (pv 3) (pa_cons (pe_bltn (v := .ty "bool") (u := .type "bool") (by rfl) T.f_bool (by decide +kernel) rfl) pa_nil))))))) (pss_one (ps_ret pe_bl)) pss_nil)
      (pss_cons (ps_setLc (i := 4) (own := [("_law_feed", 5)]) rfl sc_law_timed.nd rfl rfl (sw_true rfl rfl rfl (by decide +kernel)) (piL (K := K) (pe_ix (ixT (K := K)) (pv 2) pe_int (fun _ _ => rfl))) (blkOk_by (own := [("_law_feed", 5)]) (N := ["_law_parts", "_law_times", "_law_part", "_law_time", "_law_ahead", "_law_feed"]) (sc := defScope s_law_timed) (by decide +kernel)) (fun _ _ _ _ _ => (pg_name (i := 5) sc_law_timed.nd rfl (by first | exact Or.inl rfl | exact Or.inr rfl))) (fun _ _ _ _ _ => pts_one (pt_cmpR op_eq (pe_ix (ixT (K := K)) (pv 5) pe_int (fun _ _ => rfl)) pe_int (nomark _))) (fun _ _ _ _ _ => (pe_dget hu (pv 1) (pe_ix (ixT (K := K)) (pe_ix (ixL (K := K)) (pv 0) (pe_ix (ixT (K := K)) (pv 5) pe_int (fun _ _ => rfl)) (fun _ _ => rfl)) pe_int (fun _ _ => rfl)) (fun _ _ => rfl))))
      (pss_one (ps_if (pt_cmpR op_ne (pv 3) (pe_op op_add (pe_ix (ixT (K := K)) (pv 2) pe_int (fun _ _ => rfl)) (pe_callBK (maxDfK (K := K) rfl hu) (by rfl) T.f_max (by decide +kernel) (pa_cons (pv 4) pa_nil) (pk_cons pe_int pk_nil))) (nomark _)) (pss_one (ps_ret pe_bl)) pss_nil))))))
      (pss_one (ps_ret pe_bl)))), ?_⟩
  have wlen : (worksOf ls).length = ls.length := by unfold worksOf; exact List.length_map ..
  have hall := ord_all hf hO hol
  have hval : ∀ {k : Nat} {l : Lp}, ls[k]? = some l → valV (dictOf (fun p => V.int (ar p.name)) os) (Sum.inr l.name : Key) = some (.int (ar l.name)) := fun {k l} e => val_dict (p := pdOf ls l) hO.nd (hall _ (List.mem_map.mpr ⟨l, List.mem_of_getElem? e, rfl⟩))
  refine ⟨_, rfl, .ref d, .ty "dict", .type "dict", .type "dict", true, rfl, .ty _, .base (.dK hd), kitTy, true, rfl, iteF ?_⟩
  refine ⟨_, rfl, d, _, rfl, hd, _, rfl, pq, us, rfl, .inl (SqL.of (sg _ _ hpq)), rfl, _, rfl, ?_⟩
  have el : (dictOf (fun p => V.int (ar p.name)) os).length = us.length := by
    unfold dictOf
    rw [List.length_map, hol, wlen, hAl.1]
  rw [el, decide_eq_true rfl]
  refine iteF ?_
  refine ⟨_, rfl, pq, rfl, ⟨_, SqL.of (sg _ _ hpq)⟩, ?_⟩
  refine for_list (K := K) (a := pq) (xs := us) (fun i σ H' => ∃ v2 v3 v4, σ = [some (.ref pq), some (.ref d), v2, v3, v4, none] ∧ Same H H') ⟨none, none, none, rfl, Same.refl _⟩ (fun i σ H' _ h => by obtain ⟨_, _, _, _, s⟩ := h; exact SqL.of (s _ _ (sg _ _ hpq))) ?_ ?_
  · rintro i x σ H1 hix ⟨v2, v3, v4, rfl, s1⟩
    obtain ⟨l, hli, t, m, ws, rfl, hp⟩ := hAl.get hix
    have ht := s1 _ _ (sg _ _ hp.ob)
    have hlm := List.mem_of_getElem? hli
    have hget : DGet H1 d (V.str l.name) (some (.int (ar l.name))) := by
      have := DGet.k (k := Sum.inr l.name) (s1 _ _ hd)
      rw [hval hli] at this
      exact this
    refine ⟨_, rfl, d, rfl, .inl ⟨_, .inl (s1 _ _ hd)⟩, _, rfl, t, _, _, _, rfl, rfl, SqT.of ht, at0 _ _, _, hget, ?_⟩
    refine ⟨_, rfl, .int (ar l.name), .ty "int", .type "int", .type "int", true, rfl, .ty _, .base (.int _), kitTy, true, rfl, iteF ?_⟩
    refine ⟨_, rfl, .int (ar l.name), .ty "bool", .type "int", .type "bool", false, rfl, .ty _, .base (.int _), kitIB, false, rfl, iteF ?_⟩
    have hfl : l.feeds.length ≤ 3 := by rw [hb.fl l hlm]; exact lines_le _
    refine ⟨_, rfl, t, _, _, .ref m, rfl, rfl, SqT.of ht, atI_nat (j := 3) rfl, m, rfl, ⟨_, SqL.of (s1 _ _ (sg _ _ hp.ls))⟩, fun D hD => ?_⟩
    refine lc_list (K := K) (a := m) (xs := ws) (fun i H' => Same H1 H' ∧ H' D = some (.lst ((aheadL ls ar (l.feeds.take i)).map V.int))) ⟨Same.new hD, upd_same⟩ (fun i H' _ h => SqL.of (h.1 _ _ (s1 _ _ (sg _ _ hp.ls)))) ?_ ?_
    · rintro j y H2 hj ⟨s2, d2⟩
      obtain ⟨f, hfj, u, rfl, hu2⟩ := hp.fs.get hj
      have hu3 := s2 _ _ (s1 _ _ (sg _ _ hu2))
      have hfm := List.mem_of_getElem? hfj
      obtain ⟨r, hr1, _⟩ := hb.fd l hlm f hfm
      obtain ⟨rv, hrv, rt, rm, rws, rfl, hrp⟩ := hAl.get' hr1
      have hrt := s2 _ _ (s1 _ _ (sg _ _ hrp.ob))
      have e1 : decide (V.int f.2 = V.int 0) = decide (f.2 = 0) := decide_eq_decide.mpr ⟨V.int.inj, fun z => by rw [z]⟩
      refine ⟨rfl, ?_⟩
      refine ⟨_, rfl, u, _, _, _, rfl, rfl, SqT.of hu3, at1 _ _ _, rfl, _, rfl, ?_⟩
      rw [e1]
      refine ite2 (fun h0 => ?_) (fun h0 => ?_)
      · have h0 : f.2 = 0 := of_decide_eq_true h0
        have hget2 : DGet H2 d (V.str r.name) (some (.int (ar r.name))) := by
          have := DGet.k (k := Sum.inr r.name) (s2 _ _ (s1 _ _ hd))
          rw [hval hr1] at this
          exact this
        refine ⟨_, rfl, _, rfl, _, rfl, u, _, _, _, rfl, rfl, SqT.of hu3, at0 _ _, pq, _, _, .ref rt, rfl, rfl, SqL.of (s2 _ _ (s1 _ _ (sg _ _ hpq))), atI_nat hrv, rt, _, _, _, rfl, rfl, SqT.of hrt, at0 _ _, d, _, rfl, hget2, ?_⟩
        refine ⟨_, d2, ?_, fun b o e => by rw [upd_ne (ne_of_none e hD)]; exact s2 b o e, ?_⟩
        · rw [List.length_map]
          unfold aheadL
          rw [List.length_map]
          have h1 := List.length_filter_le (fun f : Nat × Int => decide (f.2 = 0)) (l.feeds.take j)
          rw [List.length_take] at h1
          exact small1000 (by omega)
        · rw [upd_same, ahead_take hfj, if_pos h0, List.map_append, nameAt_of hr1] <;> rfl
      · have h0 : ¬ f.2 = 0 := fun z => h0 (decide_eq_true z)
        exact ⟨s2, by rw [ahead_take hfj, if_neg h0, List.append_nil]; exact d2⟩
    rintro H2 ⟨s2, d2⟩
    rw [hp.fs.1, List.take_length] at d2
    obtain ⟨a1, a2⟩ := ahead_due hf hA hlm
    have ht2 := s2 _ _ ht
    refine ⟨_, rfl, _, rfl, t, _, _, _, rfl, rfl, SqT.of ht2, at2 _ _ _ _, _, rfl, D, _, .int 0, rfl, rfl, SqL.of d2, fun e => ?_, fun mx hm hmax => ?_⟩
    · have e2 := a1 e
      exact ⟨_, _, rfl, rfl, rfl, false, (by show V.bl (!decide (V.int (ar l.name) = V.int (l.time + 0))) = V.bl false; rw [e2, decide_eq_true rfl] <;> rfl), iteF ⟨_, _, _, rfl, s1.trans s2⟩⟩
    · have e2 := a2 mx hm hmax
      exact ⟨_, _, rfl, rfl, rfl, false, (by show V.bl (!decide (V.int (ar l.name) = V.int (l.time + mx))) = V.bl false; rw [e2, decide_eq_true rfl] <;> rfl), iteF ⟨_, _, _, rfl, s1.trans s2⟩⟩
  · rintro σ H1 ⟨v2, v3, v4, rfl, s1⟩
    exact q H1 s1
end
end SW


/-! ### law k05 -/
namespace SW
open PySem PySem.Spec PyProof.Rows L2 He TL LamX
theorem notInDK {X : Cx} {K : PySem.W.Frag} (hu : X.A.units + 65 < cLine) (h : X.K = K := by rfl) : OpR X (compareOp .NotIn) (rNotInD K) := by subst h; exact op_notInD hu
/-- the arrivals are told by the works alone -/
theorem ArrOk.uniq {ps : List Pd} {ar ar' : Str → Int} (h : ArrOk ps ar) (h' : ArrOk ps ar') (hf : Wf ps) : ∀ p ∈ ps, ar p.name = ar' p.name := by
  obtain ⟨rank, hr⟩ := hf.ac
  have key : ∀ n, ∀ p ∈ ps, rank p.name ≤ n → ar p.name = ar' p.name := by
    intro n
    induction n with
    | zero =>
      intro p hp hn
      have none : ∀ f ∈ p.feeds, f.2 ≠ 0 := fun f hfm h0 => by
        have := hr p hp f hfm h0
        omega
      rcases (h.ahead hf hp).2 with ⟨_, e1⟩ | ⟨f, hfm, h0, _⟩
      · rcases (h'.ahead hf hp).2 with ⟨_, e2⟩ | ⟨f, hfm, h0, _⟩
        · rw [e1, e2]
        · exact absurd h0 (none f hfm)
      · exact absurd h0 (none f hfm)
    | succ n ih =>
      intro p hp hn
      have same : ∀ f ∈ p.feeds, f.2 = 0 → ar f.1 = ar' f.1 := fun f hfm h0 => by
        obtain ⟨r, hrm, e⟩ := hf.cl p hp f hfm
        have := hr p hp f hfm h0
        rw [← e]
        exact ih r hrm (by rw [e]; omega)
      obtain ⟨a1, a2⟩ := h.ahead hf hp
      obtain ⟨b1, b2⟩ := h'.ahead hf hp
      rcases a2 with ⟨na, e1⟩ | ⟨f, hfm, h0, e1⟩
      · rcases b2 with ⟨_, e2⟩ | ⟨f, hfm, h0, _⟩
        · rw [e1, e2]
        · exact absurd h0 (na f hfm)
      · rcases b2 with ⟨nb, _⟩ | ⟨g, hgm, g0, e2⟩
        · exact absurd h0 (nb f hfm)
        · have := b1 f hfm h0
          have := a1 g hgm g0
          have := same f hfm h0
          have := same g hgm g0
          omega
  exact fun p hp => key _ p hp (Nat.le_refl _)
def pairD (f : Nat × Int) : PyData := .tuple [.int (f.1 : Int), .int f.2]
theorem dpPairs {K : PySem.W.Frag} {G H : Hp} (s : Same G H) : ∀ {ws : List V} {fs : List (Nat × Int)}, All2 (PairAt G) ws fs → DpAll K H ws (fs.map pairD)
  | [], [], _ => .nil
  | [], _ :: _, h => by cases h.1
  | _ :: _, [], h => by cases h.1
  | w :: ws, f :: fs, h => by
    obtain ⟨⟨t, e, ht⟩, h2⟩ := h.uncons
    subst e
    exact .cons (.tup (SqT.of (s _ _ ht)) (.cons (.int _) (.cons (.int _) .nil))) (dpPairs s h2)
theorem layPairs : ∀ fs : List (Nat × Int), PyData.canLayAll0 (fs.map pairD) = true ∧ PyData.depthAll (fs.map pairD) ≤ 1
  | [] => ⟨rfl, Nat.zero_le _⟩
  | f :: fs => by
    obtain ⟨h1, h2⟩ := layPairs fs
    refine ⟨?_, ?_⟩
    · show (PyData.canLay0 (pairD f) && PyData.canLayAll0 (fs.map pairD)) = true
      rw [h1] <;> rfl
    · show max (PyData.depth (pairD f)) (PyData.depthAll (fs.map pairD)) ≤ 1
      exact Nat.max_le.mpr ⟨Nat.le_refl _, h2⟩
theorem shapePairs (fs : List (Nat × Int)) : SeqAt.shaped (.list (fs.map pairD)) = true := by
  obtain ⟨h1, h2⟩ := layPairs fs
  show (PyData.canLayAll0 _ && decide (PyData.depthAll _ + 1 ≤ 64)) = true
  rw [h1]
  exact decide_eq_true (by omega)
theorem shapePair (f : Nat × Int) : SeqAt.shaped (pairD f) = true := rfl
theorem sum_take {l : List Str} {tm : Str → Int} {k : Nat} {x : Str} (h : l[k]? = some x) : ((l.take (k + 1)).map tm).sum = ((l.take k).map tm).sum + tm x := by
  rw [take_one h, List.map_append, List.sum_append]
  show _ + (tm x + 0) = _
  omega
theorem inV_names : ∀ {ls : List Lp} {l : Lp}, l ∈ ls → inV (V.str l.name) (ls.map fun p => V.str p.name) = true
  | r :: ls, l, h => by
    show (eqV (.str r.name) (.str l.name) || inV (V.str l.name) (ls.map fun p => V.str p.name)) = true
    rcases List.mem_cons.mp h with rfl | h
    · rw [eqV_str, decide_eq_true rfl] <;> rfl
    · rw [inV_names h, Bool.or_true]
def spLaw (K : PySem.W.Frag) : Sp := fun vs H Q _ => ∃ (a : Addr) (ns : List Int), vs = [.ref a] ∧ H (cT K lonD).2 = some (.tbl #[]) ∧ SqL K H a (ns.map V.int) ∧ ns.length ≤ 63 ∧ ∀ H', Q (.bl true) H'
section
variable {P : Program} {w : World} {K : PySem.W.Frag} {mg : Str → Option Value} {base : Heap}
def lawLevel : Nat := 6
theorem ok_law (T : Txt K mg) (TB : TabB base mg (cT K lonD).1 (cT K lonD).2) : Ok P w K mg base lawLevel (ga K "law") ["_law_script"] (spLaw K) := by
  have G_law_works := ok_law_works (P := P) (w := w) (base := base) T
  have G_law_text := ok_law_text (P := P) (w := w) (base := base) T
  have G_law_cell_at := ok_cell_at (P := P) (w := w) (base := base) T
  have G_law_timed := ok_law_timed (P := P) (w := w) (base := base) T
  have G_read := ok_read (P := P) (w := w) (base := base) T
  have G_arrivals := ok_arrivals (P := P) (w := w) (base := base) T
  have G_beat := ok_beat (P := P) (w := w) (base := base) T
  have G_longest := ok_longest (P := P) (w := w) (base := base) T TB
  refine mkOk T.F_law sc_law (fun _ _ _ _ _ _ us hl => match us, hl with | [_], _ => rfl) (by rintro vs H Q E ⟨_, _, rfl, _⟩; rfl) (fun cdv A outer s H vs Q E hr h => ?_)
  obtain ⟨a, ns, rfl, hP, hS, hlen, q⟩ := h
  have hu := hu_of hr
  refine ⟨_, (pss_cons (ps_set (i := 1) sc_law.nd rfl (by first | exact Or.inl rfl | exact Or.inr rfl) (pe_callO G_law_works (hr.mono (by decide)) T.g_law_works (pa_cons (pv 0) (pa_cons pe_int pa_nil))))
      (Evl.pss_cut (ps_if (pt_cmpR op_eq (pe_op op_mod (pe_op op_fdiv (pe_callO G_law_cell_at (hr.mono (by decide)) T.g_law_cell_at (pa_cons (pv 0) (pa_cons pe_int pa_nil))) pe_int) pe_int) pe_int (nomark _)) (pss_one (ps_set (i := 1) sc_law.nd rfl (by first | exact Or.inl rfl | exact Or.inr rfl) (pe_callO G_law_works (hr.mono (by decide)) T.g_law_works (pa_cons (pe_op op_cat (pe_lst (pa_cons (pe_op op_add pe_int (pe_op op_mod (pe_callO G_law_cell_at (hr.mono (by decide)) T.g_law_cell_at (pa_cons (pv 0) (pa_cons pe_int pa_nil))) pe_int)) pa_nil)) (pe_slice (slL (K := K)) (pv 0) (po_some pe_int) po_none)) (pa_cons pe_int pa_nil))))) pss_nil)
      (pss_cons (ps_set (i := 2) sc_law.nd rfl (by first | exact Or.inl rfl | exact Or.inr rfl) (pe_callO G_read (hr.mono (by decide)) T.g_read (pa_cons (pe_callO G_law_text (hr.mono (by decide)) T.g_law_text (pa_cons (pv 1) pa_nil)) pa_nil)))
      (pss_cons (ps_set (i := 3) sc_law.nd rfl (by first | exact Or.inl rfl | exact Or.inr rfl) (pe_callO G_arrivals (hr.mono (by decide)) T.g_arrivals (pa_cons (pv 2) pa_nil)))
      (Evl.pss_cut (ps_if (pt_not (pt_val (pe_callO G_law_timed (hr.mono (by decide)) T.g_law_timed (pa_cons (pv 1) (pa_cons (pv 3) pa_nil))))) (pss_one (ps_ret pe_bl)) pss_nil)
      (pss_cons (ps_set (i := 4) sc_law.nd rfl (by first | exact Or.inl rfl | exact Or.inr rfl) (pe_callO G_beat (hr.mono (by decide)) T.g_beat (pa_cons (pv 2) pa_nil)))
      (Evl.pss_cut (ps_if (PW.pt (pw_or (pt_not (pt_val (pe_callB (isiK (K := K)) (by rfl) T.f_isinstance (by decide +kernel) (pa_cons (pv 4) (pa_cons (pe_bltn (v := .ty "int") (u := .type "int") (by rfl) T.f_int (by decide +kernel) rfl) pa_nil))))) (pw_or (pt_val (pe_callB (isiK (K := K)) (by rfl) T.f_isinstance (by decide +kernel) (pa_cons (pv 4) (pa_cons (pe_bltn (v := .ty "bool") (u := .type "bool") (by rfl) T.f_bool (by decide +kernel) rfl) pa_nil)))) (pw_or1 (pt_cmpR op_ne (pv 4) (pe_callB (maxK (K := K) rfl) (by rfl) T.f_max (by decide +kernel) (pa_cons (pe_lc (own := [("_law_part", 5)]) rfl sc_law.nd (piL (K := K) (pv 1)) (blkOk_by (own := [("_law_part", 5)]) (N := ["_law_script", "_law_parts", "_law_works_here", "_law_times", "_law_most", "_law_part", "_law_way", "_law_names", "_law_total", "_law_k"]) (sc := defScope s_law) (by decide +kernel)) (fun _ _ _ _ _ => (pg_name (i := 5) sc_law.nd rfl (by first | exact Or.inl rfl | exact Or.inr rfl))) (fun _ _ _ _ _ => pts_nil) (fun _ _ _ _ _ => (pe_dget hu (pv 3) (pe_ix (ixT (K := K)) (pv 5) pe_int (fun _ _ => rfl)) (fun _ _ => rfl)))) pa_nil)) (nomark _)))))) (pss_one (ps_ret pe_bl)) pss_nil)
      (pss_cons (ps_set (i := 6) sc_law.nd rfl (by first | exact Or.inl rfl | exact Or.inr rfl) (pe_callO G_longest (hr.mono (by decide)) T.g_longest (pa_cons (pv 2) pa_nil)))
      (Evl.pss_cut (ps_if (PW.pt (pw_or (pt_not (pt_val (pe_callB (isiK (K := K)) (by rfl) T.f_isinstance (by decide +kernel) (pa_cons (pv 6) (pa_cons (pe_bltn (v := .ty "list") (u := .type "list") (by rfl) T.f_list (by decide +kernel) rfl) pa_nil))))) (pw_or1 (pt_cmpR (eqEmpK (K := K) (hu0_of hr)) (pv 6) (pe_lst pa_nil) (nomark _))))) (pss_one (ps_ret pe_bl)) pss_nil)
      (Evl.pss_cut (ps_setLc (i := 7) (own := [("_law_part", 5)]) rfl sc_law.nd rfl rfl (sw_true rfl rfl rfl (by decide +kernel)) (piL (K := K) (pv 1)) (blkOk_by (own := [("_law_part", 5)]) (N := ["_law_script", "_law_parts", "_law_works_here", "_law_times", "_law_most", "_law_part", "_law_way", "_law_names", "_law_total", "_law_k"]) (sc := defScope s_law) (by decide +kernel)) (fun _ _ _ _ _ => (pg_name (i := 5) sc_law.nd rfl (by first | exact Or.inl rfl | exact Or.inr rfl))) (fun _ _ _ _ _ => pts_nil) (fun _ _ _ _ _ => (pe_ix (ixT (K := K)) (pv 5) pe_int (fun _ _ => rfl))))
      (pss_cons (ps_set (i := 8) sc_law.nd rfl (by first | exact Or.inl rfl | exact Or.inr rfl) pe_int)
      (pss_cons (ps_for PassesOwn.never rfl (pi_range1 (by rfl) T.f_range (pa_cons (pe_callB (lenQ (K := K)) (by rfl) T.f_len (by decide +kernel) (pa_cons (pv 6) pa_nil)) pa_nil)) (pg_name (i := 9) sc_law.nd rfl (by first | exact Or.inl rfl | exact Or.inr rfl))
      (pss_cons (ps_if (pt_cmpR (notInQ (K := K)) (pe_ix (ixL (K := K)) (pv 6) (pv 9) (fun _ _ => rfl)) (pv 7) (by rfl)) (pss_one (ps_ret pe_bl)) pss_nil)
      (pss_cons (ps_set (i := 5) sc_law.nd rfl (by first | exact Or.inl rfl | exact Or.inr rfl) (pe_ix (ixL (K := K)) (pv 1) (pe_bm PySem.F.plainAttrs_list PySem.F.slot_list_index PySem.F.type_list_index (indexK (K := K)) (pv 7) (pa_cons (pe_ix (ixL (K := K)) (pv 6) (pv 9) (fun _ _ => rfl)) pa_nil)) (fun _ _ => rfl)))
      (pss_cons (ps_set (i := 8) sc_law.nd rfl (by first | exact Or.inl rfl | exact Or.inr rfl) (pe_op op_add (pv 8) (pe_ix (ixT (K := K)) (pv 5) pe_int (fun _ _ => rfl))))
      (pss_one (ps_if (PW.pt (pw_and (pt_cmpR op_gt (pv 9) pe_int (nomark _)) (pw_and1 (pt_cmpR (notInDK (K := K) (hu65 hr)) (pe_tup (pa_cons (pe_bm PySem.F.plainAttrs_list PySem.F.slot_list_index PySem.F.type_list_index (indexK (K := K)) (pv 7) (pa_cons (pe_ix (ixL (K := K)) (pv 6) (pe_op op_sub (pv 9) pe_int) (fun _ _ => rfl)) pa_nil)) (pa_cons pe_int pa_nil))) (pe_ix (ixT (K := K)) (pv 5) pe_int (fun _ _ => rfl)) (by rfl))))) (pss_one (ps_ret pe_bl)) pss_nil))))))
      (pss_one (ps_ret (pe_cmpR op_eq (pv 8) (pv 4) (nomark _)))))))))))))))), ?_⟩
  refine ⟨_, rfl, H, a, ns, 10, rfl, Same.refl _, hS, by decide, by decide, fun q1 mark1 ls1 G1 H1 g1 _ la1 ok1 => ?_⟩
  refine ⟨fun σ H' => ∃ pq most mark ls G', σ = [some (.ref a), some (.ref pq), none, none, none, none, none, none, none, none] ∧ Grow H H G' H' ∧ LawAt G' pq ls ∧ LawOk most mark ls ∧ most ≤ 59, ?_, ?_⟩
  · refine ⟨_, rfl, a, ns, 0, rfl, g1.hh.seq hS, _, _, rfl, rfl, ⟨by decide, by decide⟩, _, _, rfl, rfl, (by decide : (0 : Int) < 5), rfl, _, rfl, ?_⟩
    refine ite2 (fun h1 => ?_) (fun h1 => ?_)
    · refine ⟨_, rfl, a, ns, 0, rfl, g1.hh.seq hS, _, _, rfl, rfl, (by decide : (0 : Int) < 9), _, _, rfl, rfl, (by show 1 ≤ sizeLine; decide), fun p1 hp1 => ?_⟩
      have g2 := g1.temp (o := .lst [.int (50 + cellAt ns 0 % 9)]) hp1
      have e2 : upd H1 p1 (.lst [.int (50 + cellAt ns 0 % 9)]) p1 = _ := upd_same
      revert g2 e2
      generalize upd H1 p1 (.lst [.int (50 + cellAt ns 0 % 9)]) = H2
      intro g2 e2
      refine ⟨_, rfl, 1, rfl, a, _, rfl, g2.hh.seq hS, fun p2 hp2 => ?_⟩
      have ecut : cutV (ns.map V.int) (some 1) none = (ns.drop 1).map V.int := by
        rw [show (1 : Int) = ((1 : Nat) : Int) from rfl, cut_drop, List.map_drop]
      rw [ecut]
      have g3 := g2.temp (o := .lst ((ns.drop 1).map V.int)) hp2
      have e3 := Same.new (o := .lst ((ns.drop 1).map V.int)) hp2 _ _ e2
      refine ⟨p1, p2, _, _, rfl, rfl, e3, upd_same, ?_, fun p3 hp3 => ?_⟩
      · rw [List.length_map, List.length_drop]
        show 1 + _ ≤ sizeLine
        exact Nat.le_trans (by omega : 1 + (ns.length - 1) ≤ 1000) (by decide)
      have g4 := g3.temp (o := .lst ([.int (50 + cellAt ns 0 % 9)] ++ (ns.drop 1).map V.int)) hp3
      refine ⟨G1, p3, (50 + cellAt ns 0 % 9) :: ns.drop 1, 59, rfl, g4.gh, SqL.of upd_same, by decide, by decide, fun q2 mark2 ls2 G5 H5 g5 _ la2 ok2 => ?_⟩
      exact ⟨q2, 59, mark2, ls2, G5, rfl, g4.trans g5, la2, ok2, by decide⟩
    · exact ⟨q1, 10, mark1, ls1, G1, rfl, g1, la1, ok1, by decide⟩
  rintro σ H2 ⟨pq, most, mark, ls, G2, rfl, g2, hla, hok, hm⟩
  have gd := hok.good hm
  have hb := hok.b hm
  have hi := hb.hi
  have wlen : (worksOf ls).length = ls.length := by unfold worksOf; exact List.length_map ..
  have hne : worksOf ls ≠ [] := fun z => by
    have := hb.lo
    rw [← wlen, z] at this
    exact absurd this (by decide)
  -- text, works
  refine ⟨_, rfl, G2, pq, most, mark, ls, rfl, g2.gh, hla, hok, hm, fun H3 s3 => ?_⟩
  have g3 := g2.same s3
  refine ⟨G2, shownText (worksOf ls), worksOf ls, rfl, g3.gh, gd.reads, fun wa G5 H5 g35 _ hwa => ?_⟩
  have g5 := g3.trans g35
  have hla5 := hla.mono g35.gg
  -- arrivals
  refine ⟨_, rfl, G5, wa, worksOf ls, rfl, g5.gh, hwa, gd.wf, fun d os ar H6 s6 hd hA hO hol d6 => ?_⟩
  have g6 := g5.same s6
  refine ⟨fun σ H' => σ = [some (.ref a), some (.ref pq), some (.ref wa), some (.ref d), none, none, none, none, none, none] ∧ Same H6 H', ?_, ?_⟩
  · refine ⟨_, rfl, _, rfl, G5, pq, d, mark, ls, ar, os, rfl, g6.gh, hla5, hb, gd.wf, hA, hO, hol, d6, fun H7 s7 => ⟨true, rfl, iteF ⟨rfl, s7⟩⟩⟩
  rintro σ H7 ⟨rfl, s7⟩
  have g7 := g6.same s7
  have d7 := s7 _ _ d6
  -- the beat
  refine ⟨_, rfl, G5, wa, worksOf ls, rfl, g7.gh, hwa, gd.wf, hne, fun b ar2 H8 s8 hA2 hx2 hle2 => ?_⟩
  have g8 := g7.same s8
  have hun := hA2.uniq hA gd.wf
  have ⟨us, hpq, hAl⟩ := hla5
  have hall := ord_all gd.wf hO hol
  have hval : ∀ {k : Nat} {l : Lp}, ls[k]? = some l → valV (dictOf (fun p => V.int (ar p.name)) os) (Sum.inr l.name : Key) = some (.int (ar l.name)) := fun {k l} e => val_dict (p := pdOf ls l) hO.nd (hall _ (List.mem_map.mpr ⟨l, List.mem_of_getElem? e, rfl⟩))
  refine ⟨fun σ H' => σ = [some (.ref a), some (.ref pq), some (.ref wa), some (.ref d), some (.int b), none, none, none, none, none] ∧ Same H8 H', ?_, ?_⟩
  · refine ⟨_, rfl, .int b, .ty "int", .type "int", .type "int", true, rfl, .ty _, .base (.int _), kitTy, true, rfl, iteF ?_⟩
    refine ⟨_, rfl, .int b, .ty "bool", .type "int", .type "bool", false, rfl, .ty _, .base (.int _), kitIB, false, rfl, iteF ?_⟩
    refine ⟨_, rfl, _, rfl, pq, rfl, ⟨_, SqL.of (g8.gh _ _ hpq)⟩, fun D hD => ?_⟩
    refine lc_list (K := K) (a := pq) (xs := us) (fun i H' => Same H8 H' ∧ H' D = some (.lst (((ls.take i).map fun p => ar p.name).map V.int))) ⟨Same.new hD, upd_same⟩ (fun i H' _ h => SqL.of (h.1 _ _ (g8.gh _ _ hpq))) ?_ ?_
    · rintro i x H' hi' ⟨s9, d9⟩
      obtain ⟨l, hli, t, m, ws, rfl, hp⟩ := hAl.get hi'
      have ht := s9 _ _ (g8.gh _ _ hp.ob)
      have hget : DGet H' d (V.str l.name) (some (.int (ar l.name))) := by
        have := DGet.k (k := Sum.inr l.name) (s9 _ _ (s8 _ _ d7))
        rw [hval hli] at this
        exact this
      refine ⟨rfl, iteT (B := True) ?_⟩
      refine ⟨_, rfl, _, rfl, t, _, _, _, rfl, rfl, SqT.of ht, at0 _ _, d, _, rfl, hget, ?_⟩
      refine ⟨_, d9, ?_, fun b o e => by rw [upd_ne (ne_of_none e hD)]; exact s9 b o e, ?_⟩
      · rw [List.length_map, List.length_map, List.length_take]
        exact small1000 (by omega)
      · rw [upd_same, take_one hli, List.map_append, List.map_append] <;> rfl
    rintro H9 ⟨s9, d9⟩
    rw [hAl.1, List.take_length] at d9
    refine ⟨D, _, rfl, SqL.of d9, by rw [List.length_map]; have := hb.lo; omega, fun mx hmx hmax => ?_⟩
    have emx : b = mx := by
      obtain ⟨l, hl, rfl⟩ := List.mem_map.mp hmx
      obtain ⟨p2, hp2, rfl⟩ := hx2
      obtain ⟨k2, l2, e2, rfl⟩ := works_mem hp2
      have h1 := hle2 (pdOf ls l) (List.mem_map.mpr ⟨l, hl, rfl⟩)
      have h2 := hmax _ (List.mem_map.mpr ⟨l2, List.mem_of_getElem? e2, rfl⟩)
      have h3 := hun (pdOf ls l) (List.mem_map.mpr ⟨l, hl, rfl⟩)
      have h4 := hun _ hp2
      have h1 : ar2 l.name ≤ ar2 l2.name := h1
      have h3 : ar2 l.name = ar l.name := h3
      have h4 : ar2 l2.name = ar l2.name := h4
      show ar2 l2.name = ar l.name
      omega
    exact ⟨rfl, false, (by show V.bl (!decide (V.int b = V.int mx)) = V.bl false; rw [emx, decide_eq_true rfl] <;> rfl), iteF ⟨rfl, s9⟩⟩
  rintro σ H9 ⟨rfl, s9⟩
  have g9 := g8.same s9
  -- the way
  have hP9 := g9.hh _ _ hP
  refine ⟨_, rfl, G5, wa, worksOf ls, rfl, g9.gh, hwa, gd.wf, hne, hP9, fun wq way ar3 m3 H10 eN hA3 hm3 hmax3 hW w10 => ?_⟩
  have sN : Same (noT G5) H10 := noT_same g9.gh eN
  have hlaN := law_noT hla5
  have ⟨usN, hpqN, hAlN⟩ := hlaN
  have eb : ar3 m3 = b := by
    have hun3 := hA3.uniq hA2 gd.wf
    obtain ⟨p3, hp3, rfl⟩ := List.mem_map.mp hm3
    obtain ⟨p2, hp2, rfl⟩ := hx2
    have h1 := hmax3 p2.name (List.mem_map.mpr ⟨p2, hp2, rfl⟩)
    have h2 := hle2 p3 hp3
    have h3 := hun3 p2 hp2
    have h4 := hun3 p3 hp3
    omega
  rw [eb] at hW
  refine ⟨fun σ H' => σ = [some (.ref a), some (.ref pq), some (.ref wa), some (.ref d), some (.int b), none, some (.ref wq), none, none, none] ∧ Same H10 H', ?_, ?_⟩
  · refine ⟨_, rfl, .ref wq, .ty "list", .type "list", .type "list", true, rfl, .ty _, .base (.lst w10), kitTy, true, rfl, iteF ?_⟩
    refine ⟨_, rfl, Nat.zero_le _, fun eq he => ?_⟩
    refine ⟨wq, eq, _, rfl, rfl, SqL.of (Same.new he _ _ w10), SqL.of upd_same, false, ?_, iteF ⟨rfl, Same.new he⟩⟩
    have : (way.map V.str).isEmpty = false := by
      cases e : way with
      | nil => exact absurd e hW.ne
      | cons x xs => rfl
    rw [this]
  rintro σ H11 ⟨rfl, s11⟩
  have w11 := s11 _ _ w10
  have sN11 := sN.trans s11
  -- the names
  refine ⟨fun σ H' => ∃ nq, σ = [some (.ref a), some (.ref pq), some (.ref wa), some (.ref d), some (.int b), none, some (.ref wq), some (.ref nq), none, none] ∧ Same H11 H' ∧ H' nq = some (.lst (ls.map fun p => V.str p.name)), ?_, ?_⟩
  · refine ⟨_, rfl, pq, rfl, ⟨_, SqL.of (sN11 _ _ hpqN)⟩, fun D hD => ?_⟩
    refine lc_list (K := K) (a := pq) (xs := usN) (fun i H' => Same H11 H' ∧ H' D = some (.lst ((ls.take i).map fun p => V.str p.name))) ⟨Same.new hD, upd_same⟩ (fun i H' _ h => SqL.of (h.1 _ _ (sN11 _ _ hpqN))) ?_ ?_
    · rintro i x H' hi' ⟨s12, d12⟩
      obtain ⟨l, hli, t, m, ws, rfl, hp⟩ := hAlN.get hi'
      have ht := s12 _ _ (sN11 _ _ hp.ob)
      refine ⟨rfl, iteT (B := True) ?_⟩
      refine ⟨_, rfl, t, _, _, _, rfl, rfl, SqT.of ht, at0 _ _, ?_⟩
      refine ⟨_, d12, ?_, fun b o e => by rw [upd_ne (ne_of_none e hD)]; exact s12 b o e, ?_⟩
      · rw [List.length_map, List.length_take]
        exact small1000 (by omega)
      · rw [upd_same, take_one hli, List.map_append] <;> rfl
    rintro H12 ⟨s12, d12⟩
    rw [hAlN.1, List.take_length] at d12
    exact ⟨D, rfl, s12, d12⟩
  rintro σ H12 ⟨nq, rfl, s12, n12⟩
  have w12 := s12 _ _ w11
  have sN12 := sN11.trans s12
  have flatN : (ls.map fun p => V.str p.name).all flatV = true := by
    rw [List.all_eq_true]
    intro x hx
    obtain ⟨p, _, rfl⟩ := List.mem_map.mp hx
    rfl
  have find : ∀ x ∈ way, ∃ (j : Nat) (l : Lp), ls[j]? = some l ∧ l.name = x := fun x hx => by
    obtain ⟨p, hp, rfl⟩ := List.mem_map.mp (hW.sub x hx)
    obtain ⟨k, l, e, rfl⟩ := works_mem hp
    exact ⟨k, l, e, rfl⟩
  have nameN : ∀ {j : Nat} {l : Lp}, ls[j]? = some l → (ls.map fun p : Lp => V.str p.name)[j]? = some (.str l.name) := fun {j l} e => by rw [List.getElem?_map, e] <;> rfl
  have first : ∀ {j : Nat} {l : Lp}, ls[j]? = some l → ∀ k z, k < j → (ls.map fun p : Lp => V.str p.name)[k]? = some z → eqV z (.str l.name) = false := fun {j l} e k z hk hz => by
    rw [List.getElem?_map] at hz
    cases e2 : ls[k]? with
    | none => rw [e2] at hz; cases hz
    | some r =>
      rw [e2] at hz
      cases hz
      show eqV (.str r.name) (.str l.name) = false
      rw [eqV_str]
      refine decide_eq_false fun z => ?_
      have := hb.inj (lt_of_get e2) (lt_of_get e) (by rw [nameAt_of e2, nameAt_of e]; exact z)
      omega
  have eqS : ∀ x : Str, eqV (.str x) (.str x) = true := fun x => by rw [eqV_str]; exact decide_eq_true rfl
  have few := hW.few
  refine ⟨_, rfl, wq, _, rfl, .inl (SqL.of w12), (way.length : Int), by rw [List.length_map] <;> rfl, by omega, by omega, ?_⟩
  have hnt : ((way.length : Nat) : Int).toNat = way.length := rfl
  rw [hnt]
  refine for_range (lo := 0) (n := way.length) (fun k σ H' => ∃ v5 v9, σ = [some (.ref a), some (.ref pq), some (.ref wa), some (.ref d), some (.int b), v5, some (.ref wq), some (.ref nq), some (.int ((way.take k).map (tmOf (worksOf ls))).sum), v9] ∧ Same H12 H') ⟨none, none, rfl, Same.refl _⟩ ?_ ?_
  · rintro k σ H13 hk ⟨v5, v9, rfl, s13⟩
    have ek : (0 : Int) + (k : Int) = (k : Int) := by omega
    rw [ek]
    have ex := List.getElem?_eq_getElem hk
    generalize way[k] = x at ex
    obtain ⟨j, l, ej, rfl⟩ := find x (List.mem_of_getElem? ex)
    obtain ⟨pv, hpv, t, m, ws, rfl, hp⟩ := hAlN.get' ej
    have w13 := s13 _ _ w12
    have n13 := s13 _ _ n12
    have p13 := s13 _ _ (sN12 _ _ hpqN)
    have ht := s13 _ _ (sN12 _ _ hp.ob)
    have hm13 := s13 _ _ (sN12 _ _ hp.ls)
    have wat : atI (way.map V.str) (k : Int) = some (.str l.name) := atI_nat (by rw [List.getElem?_map, ex] <;> rfl)
    refine ⟨_, rfl, _, rfl, wq, _, _, .str l.name, rfl, rfl, SqL.of w13, wat, _, rfl, nq, _, rfl, .inl (SqL.of n13), rfl, flatN, false, ?_, iteF ?_⟩
    · show V.bl (!inV (V.str l.name) (ls.map fun p => V.str p.name)) = V.bl false
      rw [inV_names (List.mem_of_getElem? ej)] <;> rfl
    refine ⟨_, rfl, _, rfl, .inl ⟨rfl, _, SqL.of n13⟩, _, rfl, _, rfl, wq, _, _, .str l.name, rfl, rfl, SqL.of w13, wat, nq, _, _, j, _, rfl, rfl, SqL.of n13, rfl, flatN, nameN ej, eqS _, first ej, pq, _, _, .ref t, rfl, rfl, SqL.of p13, atI_nat hpv, ?_⟩
    refine ⟨_, rfl, _, rfl, t, _, _, _, rfl, rfl, SqT.of ht, at2 _ _ _ _, _, _, rfl, rfl, ?_⟩
    have et : tmOf (worksOf ls) l.name = l.time := tmOf_at (p := pdOf ls l) gd.wf.nd (List.mem_map.mpr ⟨l, List.mem_of_getElem? ej, rfl⟩)
    have fin : ∀ H', Same H13 H' → ∃ v5 v9, [some (.ref a), some (.ref pq), some (.ref wa), some (.ref d), some (.int b), some (V.ref t), some (.ref wq), some (.ref nq), some (.int (((way.take k).map (tmOf (worksOf ls))).sum + l.time)), some (.int (k : Int))] = [some (.ref a), some (.ref pq), some (.ref wa), some (.ref d), some (.int b), v5, some (.ref wq), some (.ref nq), some (.int ((way.take (k + 1)).map (tmOf (worksOf ls))).sum), v9] ∧ Same H12 H' := fun H' s => by
      exact ⟨some (.ref t), some (.int (k : Int)), by rw [sum_take ex, et], s13.trans s⟩
    refine ⟨_, rfl, _, _, rfl, rfl, _, rfl, ?_⟩
    by_cases hk0 : k = 0
    · rw [decide_eq_false (show ¬ (0 : Int) < (k : Int) by omega)]
      exact iteF (iteF (fin _ (Same.refl _)))
    · rw [decide_eq_true (show (0 : Int) < (k : Int) by omega)]
      refine iteT ?_
      have ey := List.getElem?_eq_getElem (show k - 1 < way.length by omega)
      generalize way[k - 1] = y at ey
      obtain ⟨j2, l2, ej2, rfl⟩ := find y (List.mem_of_getElem? ey)
      have wat2 : atI (way.map V.str) ((k : Int) - 1) = some (.str l2.name) := by
        rw [show (k : Int) - 1 = ((k - 1 : Nat) : Int) by omega]
        exact atI_nat (by rw [List.getElem?_map, ey] <;> rfl)
      have hin : (j2, (0 : Int)) ∈ l.feeds := by
        obtain ⟨p, hp2, e1, e2⟩ := hW.chain (k - 1) l2.name l.name ey (by rw [show k - 1 + 1 = k by omega]; exact ex)
        obtain ⟨k3, l3, e3, rfl⟩ := works_mem hp2
        have e1 : l3.name = l.name := e1
        have h3 := hb.inj (lt_of_get e3) (lt_of_get ej) (by rw [nameAt_of e3, nameAt_of ej]; exact e1)
        subst h3
        rw [ej] at e3
        cases e3
        obtain ⟨g, hg, e4⟩ := List.mem_map.mp e2
        obtain ⟨r, hr1, _⟩ := hb.fd l (List.mem_of_getElem? ej) g hg
        have e5 : nameAt ls g.1 = l2.name := congrArg Prod.fst e4
        have e6 : g.2 = 0 := congrArg Prod.snd e4
        have h4 := hb.inj (lt_of_get hr1) (lt_of_get ej2) (by rw [e5, nameAt_of ej2])
        rw [← h4, ← e6]
        exact hg
      refine ⟨_, rfl, .inl ⟨rfl, _, SqL.of n13⟩, _, rfl, _, rfl, _, _, rfl, rfl, wq, _, _, .str l2.name, rfl, rfl, SqL.of w13, wat2, nq, _, _, j2, _, rfl, rfl, SqL.of n13, rfl, flatN, nameN ej2, eqS _, first ej2, (by show 2 ≤ sizeLine; decide), fun u hu => ?_⟩
      have s14 : Same H13 (upd H13 u (.tup [.int (j2 : Int), .int 0])) := Same.new hu
      refine ⟨_, rfl, t, _, _, .ref m, rfl, rfl, SqT.of (s14 _ _ ht), atI_nat (j := 3) rfl, pairD (j2, 0), l.feeds.map pairD, .tup (SqT.of upd_same) (.cons (.int _) (.cons (.int _) .nil)), .lst (SqL.of (s14 _ _ hm13)) (dpPairs ((sN12.trans s13).trans s14) hp.fs), shapePair _, shapePairs _, false, ?_, iteF (fin _ s14)⟩
      have hany : ((l.feeds.map pairD).any fun z => PyData.eqv z (pairD (j2, 0))) = true := List.any_eq_true.mpr ⟨pairD (j2, 0), List.mem_map.mpr ⟨_, hin, rfl⟩, SeqAt.eqv_refl _ (SeqAt.canLay_of_shaped (shapePair _))⟩
      rw [hany] <;> rfl
  · rintro σ H13 ⟨v5, v9, rfl, s13⟩
    refine ⟨_, rfl, _, rfl, rfl, ?_⟩
    rw [List.take_length, hW.sum, decide_eq_true rfl]
    exact q _
end
end SW


/-! ### the end -/
namespace SW
open PySem PySem.Spec PyProof.Rows L2 He LamX
theorem facts {P : Program} {w : World} {K : PySem.W.Frag} {h : Heap} {mg : Str → Option Value} {f : Addr} (X : K.In h) (G : h.Ns mainGlobals mg) (hfa : mg ("law" : Str) = some (.ref f)) (c : SaysD fa fn K) (x : exB K = true) :
    ∃ fd : FuncData, (∀ (s : Shared) (v : Value), BindsTo s fd ⟨[v], []⟩ [("_law_script", v)]) ∧ ∀ base : Heap, K.In base → base.Ns mainGlobals mg → TabB base mg (cT K lonD).1 (cT K lonD).2 → FnOk P w K mg base CX0 lawLevel f fd ["_law_script"] (spLaw K) := by
  have T : Txt K mg := ⟨c, x, h, X, G⟩
  obtain ⟨fd, F⟩ := T.F_law
  have e := hfa.symm.trans T.g_law
  cases e
  have b := FunD.bindsA (ps := ["_law_script"]) F fun _ _ _ _ _ _ us hl => match us, hl with | [_], _ => rfl
  exact ⟨fd, fun s v => b s [v] rfl, fun base _ _ TB => (ok_law T TB).at F⟩
end SW
open PySem PySem.W PySem.Calls PyProof.Rows
theorem PySem.Challenge.cw_storeway_k05_the_beat_holds : PySem.Challenge.rw_storeway_k05_the_beat.Holds := by
  w_on; o_law
  refine HandSHeadRun.head_any (r := OpenLaw.row PySem.Challenge.rw_storeway_k05_the_beat) (q := view (OpenLaw.row PySem.Challenge.rw_storeway_k05_the_beat).prog [43]) (H := SW.hk) (ob := SW.ob) (M := 8000) (loose := SW.names) (d := HandSHeadRun.topDef (OpenLaw.row PySem.Challenge.rw_storeway_k05_the_beat).prog 43) (kwd := []) SW.ob_eq
    (by kernel_rfl) (fun s => by kernel_rfl) SW.run (by kernel_rfl) (by kernel_rfl) (by kernel_rfl) (by rfl) (by first | assumption | decide +kernel) (by decide +kernel) ⟨rfl, rfl, rfl, rfl, rfl, by decide +kernel⟩ ?hw ?hc
  case hw => w_witness2
  case hc =>
    refine LamX.walk_ofTsE (l := PySem.Challenge.rw_storeway_k05_the_beat) (n := 63) (k := SW.lawLevel) (x := "_law_script") (CX := fun _ => L2.CX0) rfl (by decide) (by kernel_rfl) ⟨rfl, by decide, by decide⟩ ?F (fun _ _ _ _ _ z => z)
    intro w mg fa h Y G hmg0
    obtain ⟨K, KX, c, x, tb⟩ := Y
    have hmg : mg ("law" : PySem.Str) = some (.ref fa) := by
      have e : (HandSHeadRun.topDef (OpenLaw.row PySem.Challenge.rw_storeway_k05_the_beat).prog 43).name = ("law" : PySem.Str) := by kernel_rfl
      rw [← e]
      exact hmg0
    obtain ⟨fd, hb, hF⟩ := SW.facts (P := (PySem.Challenge.rw_storeway_k05_the_beat).prog) (w := w) KX G hmg c x
    have m0 : SW.lonD ∈ SW.tf := List.mem_singleton.mpr rfl
    have only : ∀ p ∈ [He.cT K SW.lonD], p = He.cT K SW.lonD := fun p hp => List.mem_singleton.mp hp
    exact ⟨K, KX, fd, [He.cT K SW.lonD], SW.spLaw K, fun p hp => (by rw [only p hp]; exact tb.empty _ m0), fun p hp => (by rw [only p hp]; exact tb.out _ m0), fun p hp => (by rw [only p hp]; exact PySem.W.codeHd_of_K KX (tb.hd _ m0)), hb,
      fun H a ns hl _ hP hS => ⟨a, ns, rfl, hP _ (List.mem_singleton.mpr rfl), hS, hl, fun _ => rfl⟩, fun base hK hN hTB => hF base hK hN (hTB _ (List.mem_singleton.mpr rfl))⟩

