import PyProof.Rows.All
import Wide.All
import OpenK.AllK
import Wide.FinOn
import KE.KStateDown
import Lean
import HandS.ForMost
import HandS.ForExc
import HandS.Steps
import HandS.Evl
import HandS.Ends
import HandS.More
import HandS.Words
import HandS.WordsExc
import HandS.Defaults
import HandS.StrMore
import HandS.Wide
import HandS.IsInst
import HandS.Flow
import HandS.Deep
import HandS.Conv
import HandS.Head0
import HandS.Head1
import HandS.Head2
import HandS.HeadEnd
import HandS.HeadHook1
import HandS.HeadHook2
import HandS.HeadHook3
import HandS.HeadHook4
import PySem.Challenge.RW_storeway_k01_what_parts_make
set_option Elab.async false
set_option linter.all false
set_option maxRecDepth 100000
set_option maxHeartbeats 4000000
/-! ### what all laws share: nothing of one program -/
namespace SW
open PySem PySem.Spec PyProof.Rows L2 He

/-- one of many readings -/
theorem pe_ex {ι : Type} {X : Cx} {e : Expr} {t : ι → TE} (h : ∀ i, PE X e (t i)) : PE X e (fun σ H Q => ∃ i, t i σ H Q) := ⟨fun pins s σ H Q I ⟨i, q⟩ => (h i).run pins s σ H Q I q⟩
theorem pe_or2 {X : Cx} {e : Expr} {t u : TE} (h : PE X e t) (h' : PE X e u) : PE X e (fun σ H Q => t σ H Q ∨ u σ H Q) := ⟨fun pins s σ H Q I z => z.elim (fun q => h.run pins s σ H Q I q) (fun q => h'.run pins s σ H Q I q)⟩

/-- a def that lets no exception out, with no defaults -/
structure Ok (P : Program) (w : World) (K : PySem.W.Frag) (mg : Str → Option Value) (base : Heap) (k : Nat) (f : Addr) (ps : List Str) (sp : Sp) : Prop where
  ex : ∃ fd, (∃ (oc : Value) (od : Option Addr) (osl : Array (Option Value)), K.lookup f = some ⟨oc, od, .func fd, osl⟩) ∧ FnOk P w K mg base CX0 k f fd ps sp ∧ Binds K fd ps []
  kp : PySem.W.keepIn K (.ref f) = true

section
variable {P : Program} {w : World} {K : PySem.W.Frag} {mg : Str → Option Value} {base : Heap} {k : Nat} {f : Addr} {ps N : List Str} {sp sp' : Sp} {x qual : Str} {params : Arguments} {body : List Stmt} {scope : Scope}
theorem mkOk (F : ∃ fd, FunD K x qual params body scope [] [] f fd) (S : FnScope N ps scope)
    (hb : ∀ (kV doc pm : Value) (an : Option Addr) (cdv ct : Value) (us : List Value), us.length = ps.length → bindArgs (PySem.W.fnOf x qual params body scope .none kV doc pm an cdv ct) ⟨us, []⟩ = pure (ps.zip us))
    (len : ∀ vs H Q E, sp vs H Q E → vs.length = ps.length)
    (hbody : ∀ (cdv : Value) (A : Around) (outer : List Env) (s : Shared) (H : Hp) (vs : List V) (Q : VK) (E : XK), Room k (A.deeper (envOfC qual scope s.heap.objs.size f cdv)) → sp vs H Q E →
      ∃ t, PSs (cxOf CX0 P w K mg base N qual scope f cdv A outer s H E).nox body t ∧ t { nx := fun _ H' => Q .non H', rt := Q } (start N vs) H) : Ok P w K mg base (k + 1) f ps sp := by
  obtain ⟨fd, F⟩ := F
  refine ⟨⟨fd, (by obtain ⟨oc, od, _, _, _, _, _, _, _, osl, _, lk, _⟩ := F.ex; exact ⟨oc, od, osl, lk⟩), F.ok S len fun cdv A outer s H vs Q E hr h => ?_, F.bindsN hb⟩, F.kp⟩
  obtain ⟨t, ht, q⟩ := hbody cdv A outer s H vs Q E hr h
  exact ⟨t, ht.nox, q⟩
theorem Ok.mono (G : Ok P w K mg base k f ps sp) {j : Nat} (h : k ≤ j) : Ok P w K mg base j f ps sp := by
  obtain ⟨⟨fd, l, F, b⟩, kp⟩ := G
  exact ⟨⟨fd, l, F.mono h, b⟩, kp⟩
theorem Ok.imp (G : Ok P w K mg base k f ps sp) (h : ∀ vs H Q E, sp' vs H Q E → sp vs H Q E) : Ok P w K mg base k f ps sp' := by
  obtain ⟨⟨fd, l, F, b⟩, kp⟩ := G
  exact ⟨⟨fd, l, F.imp h, b⟩, kp⟩
theorem Ok.at (G : Ok P w K mg base k f ps sp) {x qual : Str} {params : Arguments} {body : List Stmt} {scope : Scope} {fd : FuncData} (F : FunD K x qual params body scope [] [] f fd) : FnOk P w K mg base CX0 k f fd ps sp := by
  obtain ⟨⟨fd', ⟨oc, od, osl, l⟩, F', b⟩, kp⟩ := G
  obtain ⟨oc', od', _, _, _, _, _, _, _, osl', _, lk, _⟩ := F.ex
  rw [lk] at l
  cases l
  exact F'
end

section
variable {X : Cx} {k : Nat} {f C : Addr} {ps : List Str} {sp : Sp} {x m : Str} {p pos apos : Pos} {e o : Expr} {es : List Expr} {ta : TE} {t : TA}
theorem pe_callO (G : Ok X.prog X.w X.K X.mg X.base k f ps sp) (hr : Room k X.A) (hm : X.mg x = some (.ref f)) (ha : PA X (e :: es) t) (hg : Gl X x := by rfl)
    (hdb : (x == ("__debug__" : Str)) = false := by decide) (he : starEach (e :: es) X.env = (false, eval e X.env) :: starEach es X.env := by rfl) (hpl : (backTo pos (starEach es X.env)).any (·.1) = false := by rfl) :
    PE X (.Call (.Name x p) (e :: es) [] pos) (tCall sp [] E0 t) := by
  obtain ⟨⟨fd, _, F, b⟩, kp⟩ := G
  exact pe_call F hr hg hm kp b .nil pass0 ha hdb he hpl
theorem pe_call0O (G : Ok X.prog X.w X.K X.mg X.base k f ps sp) (hr : Room k X.A) (hm : X.mg x = some (.ref f)) (hg : Gl X x := by rfl) (hdb : (x == ("__debug__" : Str)) = false := by decide) : PE X (.Call (.Name x p) [] [] pos) (tCall sp [] E0 tNil) := by
  obtain ⟨⟨fd, _, F, b⟩, kp⟩ := G
  exact pe_call0 F hr hg hm kp b .nil pass0 hdb
theorem pe_makeO (M : Mk X.K C f) (G : Ok X.prog X.w X.K X.mg X.base k f ps sp) (hr : Room (k + 1) X.A) (hm : X.mg x = some (.ref C)) (ha : PA X (e :: es) t) (hg : Gl X x := by rfl)
    (hdb : (x == ("__debug__" : Str)) = false := by decide) (he : starEach (e :: es) X.env = (false, eval e X.env) :: starEach es X.env := by rfl) (hpl : (backTo pos (starEach es X.env)).any (·.1) = false := by rfl) :
    PE X (.Call (.Name x p) (e :: es) [] pos) (tMake C sp [] E0 t) := by
  obtain ⟨⟨fd, _, F, b⟩, kp⟩ := G
  exact pe_make M F hr hg hm b .nil pass0 ha hdb he hpl
end
theorem Ok.use {P : Program} {w : World} {K : PySem.W.Frag} {mg : Str → Option Value} {base : Heap} {k : Nat} {f : Addr} {ps : List Str} {sp : Sp} {R : Prop} (G : Ok P w K mg base k f ps sp)
    (h : ∀ fd, FnOk P w K mg base CX0 k f fd ps sp → Binds K fd ps [] → R) : R := by
  obtain ⟨⟨fd, _, F, b⟩, _⟩ := G
  exact h fd F b

/-! ### C() of a class without an own __init__ -/
structure MkO (K : PySem.W.Frag) (C : Addr) : Prop where
  makes : PySem.W.makesIn K C = true
  init : PySem.W.findIn K (.ref C) "__init__" = some (some (.builtin "object.__init__"))
  kp : PySem.W.keepIn K (.ref C) = true
def tMakeO (C : Addr) : TE := fun _ H Q => ∀ x dx, H x = none → H dx = none → dx ≠ x → Q (.ref x) (upd (upd H dx (.own x)) x (.ins C dx []))
section
variable {X : Cx} {C : Addr}
theorem run_makeO {pins : List (Addr × Obj)} {σ : L2.St} {H : Hp} {s : Shared} {Q : VK} (M : MkO X.K C) (I : Inv X pins σ H s)
    (h : ∀ x dx, H x = none → H dx = none → dx ≠ x → Q (.ref x) (upd (upd H dx (.own x)) x (.ins C dx []))) :
    wpAny (model X.prog X.w) X.A (call (.ref C) []) (EP X pins σ Q) X.xe s := by
  have hq := h (s.heap.objs.size + 1) s.heap.objs.size (I.hok.fresh (Nat.le_succ _)) (I.hok.fresh (Nat.le_refl _)) (Nat.ne_of_lt (Nat.lt_succ_self _))
  have I2 := Inv.made (C := C) I
  have Y := PySem.W.makes_of (M := model X.prog X.w) I.kIn M.makes
  refine wpAny_call (make_map0 I.kIn M.makes M.init (fun self => PySem.W.Looks.of_pure (PySem.W.oi_bind self)) ?_)
  have hx : ((s.heap.push PySem.W.emptyDict).push (PySem.W.instObj C s.heap.objs.size)).get? (s.heap.objs.size + 1) = some (PySem.W.instObj C s.heap.objs.size) := by heap_get
  have t1 : PySem.W.Looks (model X.prog X.w) ((s.heap.push PySem.W.emptyDict).push (PySem.W.instObj C s.heap.objs.size)) (typeOf (.ref (s.heap.objs.size + 1))) (.ref C) := (PySem.W.Looks.ld hx).andThen .now
  have t2 : PySem.W.Looks (model X.prog X.w) ((s.heap.push PySem.W.emptyDict).push (PySem.W.instObj C s.heap.objs.size)) (isInstance (.ref (s.heap.objs.size + 1)) (.type "object")) true :=
    t1.andThen (Y.top.keeps fun b o e => Heap.get?_push_of_some _ (Heap.get?_push_of_some _ e))
  refine codeAny_call_builtin PySem.W.oi_plain PySem.W.entry_oi (@PySem.W.check_slot (model X.prog X.w) _ _ _ "object.__init__" "object" "__init__" (.ref (s.heap.objs.size + 1)) [] [] _ PySem.W.oi_kind PySem.W.oi_split t2 (PySem.W.oi_args (.ref (s.heap.objs.size + 1))) ?_)
  rw [PySem.W.oi_run]
  exact wpAny_pure (And.intro rfl ⟨V.ref (s.heap.objs.size + 1), _, I2, rfl, hq⟩)
theorem pe_makeO0 {x : Str} {p pos : Pos} (M : MkO X.K C) (hm : X.mg x = some (.ref C)) (hg : Gl X x := by rfl) (hdb : (x == ("__debug__" : Str)) = false := by decide) :
    PE X (.Call (.Name x p) [] [] pos) (tMakeO C) := by
  refine ⟨fun pins s σ H Q I h => ?_⟩
  refine wpAny_Call_Name_kw (ld_glob I hg hm ?_ hdb)
  exact PySem.W.callWith_K0 I.kIn M.kp (run_makeO M I h)
end

/-! ### further facts of the top -/
def moB (x : Str) (K : PySem.W.Frag) : Bool := PySem.W.makesIn K (ga K x) && (eqO (PySem.W.findIn K (.ref (ga K x)) "__init__") (some (some (.builtin "object.__init__"))) && PySem.W.keepIn K (.ref (ga K x)))
theorem moB_ok {x : Str} {K : PySem.W.Frag} (h : moB x K = true) : MkO K (ga K x) := by
  obtain ⟨h1, h2⟩ := ba h
  obtain ⟨h2, h3⟩ := ba h2
  exact ⟨h1, eqO_ok h2, h3⟩
structure IsC (K : PySem.W.Frag) (C D : Addr) (b : Bool) : Prop where
  ha : PySem.W.findIn K (.ref C) "__class__" = some (some (.builtin "object.__class__"))
  hn : PySem.W.specialIn K (.builtin "object.__class__") "__get__" = some (some (.builtin "getset_descriptor.__get__"))
  ht : PySem.W.takesIn K (.builtin "object.__class__") = some true
  hm : PySem.W.mroIn K C (.type "object") = some true
  k : PySem.W.kitOne K (.ref C) (.ref D) = some b
theorem IsC.ty {K : PySem.W.Frag} {C D a dx : Addr} {b : Bool} {H : Hp} {fs : List (Str × V)} (h : IsC K C D b) (cl : Cls K C) (e : H a = some (.ins C dx fs)) : TyX K H (.ref a) (.ref C) :=
  .base (.ins e cl h.ha h.hn h.ht h.hm)
def isB (c d : Str) (b : Bool) (K : PySem.W.Frag) : Bool := eqO (PySem.W.findIn K (.ref (ga K c)) "__class__") (some (some (.builtin "object.__class__"))) &&
  (eqO (PySem.W.specialIn K (.builtin "object.__class__") "__get__") (some (some (.builtin "getset_descriptor.__get__"))) && (decide (PySem.W.takesIn K (.builtin "object.__class__") = some true) &&
  (decide (PySem.W.mroIn K (ga K c) (.type "object") = some true) && decide (PySem.W.kitOne K (.ref (ga K c)) (.ref (ga K d)) = some b))))
theorem isB_ok {c d : Str} {b : Bool} {K : PySem.W.Frag} (h : isB c d b K = true) : IsC K (ga K c) (ga K d) b := by
  obtain ⟨h1, h⟩ := ba h
  obtain ⟨h2, h⟩ := ba h
  obtain ⟨h3, h⟩ := ba h
  obtain ⟨h4, h5⟩ := ba h
  exact ⟨eqO_ok h1, eqO_ok h2, of_decide_eq_true h3, of_decide_eq_true h4, of_decide_eq_true h5⟩
theorem exs_at {K : PySem.W.Frag} {l : List (PySem.W.Frag → Bool)} (h : (l.all fun f => f K) = true) (i : Nat) {f : PySem.W.Frag → Bool} (e : l[i]? = some f) : f K = true :=
  List.all_eq_true.mp h f (List.mem_of_getElem? e)

/-! ### the head's facts over all that the top has made -/
def KR (n : Nat) (g : Addr → Option Obj) : PySem.W.Frag := frT g (List.range n)
def obsR (n : Nat) (fa : List Fa) (fn : List DefD) (ex : PySem.W.Frag → Bool) (g : Addr → Option Obj) : AlD × Bool := (obsD fa fn (KR n g), ex (KR n g))
def hookR (n : Nat) (fa : List Fa) (fn : List DefD) (ex : PySem.W.Frag → Bool) : PySem.W.Hook where
  α := AlD × Bool
  obs := fun s => obsR n fa fn ex s.heap.get?
  val := fun _ => (valD fn, true)
  says := fun _ h => ∃ K : PySem.W.Frag, K.In h ∧ SaysD fa fn K ∧ ex K = true
  of := fun _ _ e => ⟨_, frT_in, congrArg (fun z : AlD × Bool => z.1) e, congrArg (fun z : AlD × Bool => z.2) e⟩
  keeps := fun _ _ _ ⟨K, hK, c, e⟩ k => ⟨K, PySem.W.Frag.In.keeps hK k, c, e⟩
theorem obsR_eq {n : Nat} {fa : List Fa} {fn : List DefD} {ex : PySem.W.Frag → Bool} (s : PySem.W.SharedT) : obsR n fa fn ex (HandSHeadRun.getT s) = (hookR n fa fn ex).obs s.abs := by
  have e : HandSHeadRun.getT s = s.abs.heap.get? := funext (HandSHeadRun.getT_eq s)
  rw [e] <;> rfl
theorem run_join {r : PySem.W.OpenRow} {q : Program} {H : PySem.W.Hook} {ob : PySem.W.SharedT → H.α} {M : Nat} {loose : List PySem.Str} {w : World}
    (h1 : ∀ os : OsState, (HandSHeadRun.endF (HandSHeadRun.stepQ (HandSHeadRun.denQ HandSHeadRun.tabQ) r.prog w) M r.prog w os).map (fun s => (HandSHeadRun.looksF r.prog (PySem.W.boot_heap w.params) s.abs, HandSHeadRun.seenQ q loose (importedModules r.prog.main.body) (fun s => PySem.W.xlAt q [] s && PySem.W.recOk r.toRowW.records s) s.abs)) = some (true, PySem.W.openGood q loose))
    (h2 : ∀ os : OsState, (HandSHeadRun.endF (HandSHeadRun.stepQ (HandSHeadRun.denQ HandSHeadRun.tabQ) r.prog w) M r.prog w os).map ob = some (H.val w)) : HandSHeadRun.RunEq r q H ob M loose w := by
  intro os
  have a := h1 os
  have b := h2 os
  cases e : HandSHeadRun.endF (HandSHeadRun.stepQ (HandSHeadRun.denQ HandSHeadRun.tabQ) r.prog w) M r.prog w os with
  | none =>
    rw [e] at b
    cases b
  | some s =>
    rw [e] at a b
    have a1 := Option.some.inj a
    have b1 : ob s = H.val w := Option.some.inj b
    have a2 := congrArg (fun z => z.1) a1
    have a3 := congrArg (fun z => z.2) a1
    show some (_, _, _) = some (_, _, _)
    exact congrArg some (Prod.ext a2 (Prod.ext a3 b1))

/-! ### rules whose reading names K itself (a comprehension's block has its own context) -/
section
variable {X : Cx} {K : PySem.W.Frag}
theorem ixL (h : X.K = K := by rfl) : IxR X (rIxL K) := by subst h; exact ix_list
theorem ixT (h : X.K = K := by rfl) : IxR X (rIxT K) := by subst h; exact ix_tup
theorem slL (h : X.K = K := by rfl) : SlR X (rSlL K) := by subst h; exact sl_list
theorem lenQ (h : X.K = K := by rfl) : CallR X (.builtin "len") (fun xs H Q => ∃ p ys, xs = [.ref p] ∧ (SqL K H p ys ∨ SqT K H p ys) ∧ Q (.int ys.length) H) := by subst h; exact call_len_seq
theorem isiK (h : X.K = K := by rfl) : CallR X (.builtin "isinstance") (rIsi K) := by subst h; exact call_isi
theorem listOf (h : X.K = K := by rfl) : CallR X (.type "list") (fun xs H Q => ∃ p ys, xs = [.ref p] ∧ (SqL K H p ys ∨ SqT K H p ys) ∧ ∀ l, H l = none → Q (.ref l) (upd H l (.lst ys))) := by subst h; exact call_list_of
theorem inQ (h : X.K = K := by rfl) : OpR X (compareOp .In) (rIn K false) := by subst h; exact op_in_seq
theorem notInQ (h : X.K = K := by rfl) : OpR X (compareOp .NotIn) (rIn K true) := by subst h; exact op_notIn_seq
theorem eqDK (hu : X.A.units + 64 < cLine) (h : X.K = K := by rfl) : OpR X (compareOp .Eq) (rEqD K) := by subst h; exact op_eqD hu
theorem neDK (hu : X.A.units + 64 < cLine) (h : X.K = K := by rfl) : OpR X (compareOp .NotEq) (rNeD K) := by subst h; exact op_neD hu
theorem indexK (h : X.K = K := by rfl) : MtR X "list.index" (rIndex K) := by subst h; exact mt_index
theorem sumK (hc : X.calm = true) (h : X.K = K := by rfl) : CallR X (.builtin "sum") (rSum K) := by subst h; exact cr_sum hc
theorem maxK (hc : X.calm = true) (h : X.K = K := by rfl) : CallR X (.builtin "max") (rMax K) := by subst h; exact cr_max hc
theorem minK (hc : X.calm = true) (h : X.K = K := by rfl) : CallR X (.builtin "min") (rMin K) := by subst h; exact cr_min hc
theorem pe_fldK {e : Expr} {ta : TE} {f : Str} {pos : Pos} (he : PE X e ta) (hb : attributeBase e f X.env (eval e X.env) = eval e X.env) (h : X.K = K := by rfl) : PE X (.Attribute e f pos) (tFld K ta f) := by subst h; exact pe_fld he hb
theorem piL {tg l : Expr} {tl : TE} (hl : PE X l tl) (h : X.K = K := by rfl) : PI X tg l (iList K tl) := by subst h; exact pi_list hl
theorem piT {tg l : Expr} {tl : TE} (hl : PE X l tl) (h : X.K = K := by rfl) : PI X tg l (iTup K tl) := by subst h; exact pi_tup hl
end
end SW

namespace SW
open PySem PySem.Spec PyProof.Rows L2 He
def top (i : Nat) : Stmt := PySem.Challenge.pw_storeway_k01_what_parts_make.main.body.getD i (.Pass ⟨0, 0, 0, 0⟩)
abbrev s_Kind_lines : Stmt := inClass (top 1) 0
abbrev s_Kind_joined : Stmt := inClass (top 1) 1
abbrev s_Kind_word : Stmt := inClass (top 1) 2
abbrev s_Kind_made : Stmt := inClass (top 1) 3
abbrev s_Source_lines : Stmt := inClass (top 2) 0
abbrev s_Source_word : Stmt := inClass (top 2) 1
abbrev s_Sink_lines : Stmt := inClass (top 3) 0
abbrev s_Sink_joined : Stmt := inClass (top 3) 1
abbrev s_Sink_word : Stmt := inClass (top 3) 2
abbrev s_Both_joined : Stmt := inClass (top 4) 0
abbrev s_Both_word : Stmt := inClass (top 4) 1
abbrev s_Either_joined : Stmt := inClass (top 5) 0
abbrev s_Either_word : Stmt := inClass (top 5) 1
abbrev s_Odd_joined : Stmt := inClass (top 6) 0
abbrev s_Odd_word : Stmt := inClass (top 6) 1
abbrev s_Plus_joined : Stmt := inClass (top 7) 0
abbrev s_Plus_word : Stmt := inClass (top 7) 1
abbrev s_Pick_lines : Stmt := inClass (top 8) 0
abbrev s_Pick_joined : Stmt := inClass (top 8) 1
abbrev s_Pick_word : Stmt := inClass (top 8) 2
abbrev s_Up_init : Stmt := inClass (top 9) 0
abbrev s_Up_lines : Stmt := inClass (top 9) 1
abbrev s_Up_joined : Stmt := inClass (top 9) 2
abbrev s_Up_word : Stmt := inClass (top 9) 3
abbrev s_Down_init : Stmt := inClass (top 10) 0
abbrev s_Down_lines : Stmt := inClass (top 10) 1
abbrev s_Down_joined : Stmt := inClass (top 10) 2
abbrev s_Down_word : Stmt := inClass (top 10) 3
abbrev s_number_in : Stmt := top 11
abbrev s_kind_by : Stmt := top 12
abbrev s_law_draw : Stmt := top 14
abbrev s_law_made : Stmt := top 15
abbrev s_law_kind : Stmt := top 16
abbrev s_law_asked : Stmt := top 17
abbrev s_law : Stmt := top 18
theorem sc_Kind_lines : FnScope ["self"] ["self"] (defScope s_Kind_lines) := ⟨rfl, rfl, rfl, by decide +kernel, rfl, by decide +kernel, by decide +kernel⟩
theorem sc_Kind_joined : FnScope ["self", "numbers"] ["self", "numbers"] (defScope s_Kind_joined) := ⟨rfl, rfl, rfl, by decide +kernel, rfl, by decide +kernel, by decide +kernel⟩
theorem sc_Kind_word : FnScope ["self"] ["self"] (defScope s_Kind_word) := ⟨rfl, rfl, rfl, by decide +kernel, rfl, by decide +kernel, by decide +kernel⟩
theorem sc_Kind_made : FnScope ["self", "numbers", "width"] ["self", "numbers", "width"] (defScope s_Kind_made) := ⟨rfl, rfl, rfl, by decide +kernel, rfl, by decide +kernel, by decide +kernel⟩
theorem sc_Source_lines : FnScope ["self"] ["self"] (defScope s_Source_lines) := ⟨rfl, rfl, rfl, by decide +kernel, rfl, by decide +kernel, by decide +kernel⟩
theorem sc_Source_word : FnScope ["self"] ["self"] (defScope s_Source_word) := ⟨rfl, rfl, rfl, by decide +kernel, rfl, by decide +kernel, by decide +kernel⟩
theorem sc_Sink_lines : FnScope ["self"] ["self"] (defScope s_Sink_lines) := ⟨rfl, rfl, rfl, by decide +kernel, rfl, by decide +kernel, by decide +kernel⟩
theorem sc_Sink_joined : FnScope ["self", "numbers"] ["self", "numbers"] (defScope s_Sink_joined) := ⟨rfl, rfl, rfl, by decide +kernel, rfl, by decide +kernel, by decide +kernel⟩
theorem sc_Sink_word : FnScope ["self"] ["self"] (defScope s_Sink_word) := ⟨rfl, rfl, rfl, by decide +kernel, rfl, by decide +kernel, by decide +kernel⟩
theorem sc_Both_joined : FnScope ["self", "numbers"] ["self", "numbers"] (defScope s_Both_joined) := ⟨rfl, rfl, rfl, by decide +kernel, rfl, by decide +kernel, by decide +kernel⟩
theorem sc_Both_word : FnScope ["self"] ["self"] (defScope s_Both_word) := ⟨rfl, rfl, rfl, by decide +kernel, rfl, by decide +kernel, by decide +kernel⟩
theorem sc_Either_joined : FnScope ["self", "numbers"] ["self", "numbers"] (defScope s_Either_joined) := ⟨rfl, rfl, rfl, by decide +kernel, rfl, by decide +kernel, by decide +kernel⟩
theorem sc_Either_word : FnScope ["self"] ["self"] (defScope s_Either_word) := ⟨rfl, rfl, rfl, by decide +kernel, rfl, by decide +kernel, by decide +kernel⟩
theorem sc_Odd_joined : FnScope ["self", "numbers"] ["self", "numbers"] (defScope s_Odd_joined) := ⟨rfl, rfl, rfl, by decide +kernel, rfl, by decide +kernel, by decide +kernel⟩
theorem sc_Odd_word : FnScope ["self"] ["self"] (defScope s_Odd_word) := ⟨rfl, rfl, rfl, by decide +kernel, rfl, by decide +kernel, by decide +kernel⟩
theorem sc_Plus_joined : FnScope ["self", "numbers"] ["self", "numbers"] (defScope s_Plus_joined) := ⟨rfl, rfl, rfl, by decide +kernel, rfl, by decide +kernel, by decide +kernel⟩
theorem sc_Plus_word : FnScope ["self"] ["self"] (defScope s_Plus_word) := ⟨rfl, rfl, rfl, by decide +kernel, rfl, by decide +kernel, by decide +kernel⟩
theorem sc_Pick_lines : FnScope ["self"] ["self"] (defScope s_Pick_lines) := ⟨rfl, rfl, rfl, by decide +kernel, rfl, by decide +kernel, by decide +kernel⟩
theorem sc_Pick_joined : FnScope ["self", "numbers"] ["self", "numbers"] (defScope s_Pick_joined) := ⟨rfl, rfl, rfl, by decide +kernel, rfl, by decide +kernel, by decide +kernel⟩
theorem sc_Pick_word : FnScope ["self"] ["self"] (defScope s_Pick_word) := ⟨rfl, rfl, rfl, by decide +kernel, rfl, by decide +kernel, by decide +kernel⟩
theorem sc_Up_init : FnScope ["self", "count"] ["self", "count"] (defScope s_Up_init) := ⟨rfl, rfl, rfl, by decide +kernel, rfl, by decide +kernel, by decide +kernel⟩
theorem sc_Up_lines : FnScope ["self"] ["self"] (defScope s_Up_lines) := ⟨rfl, rfl, rfl, by decide +kernel, rfl, by decide +kernel, by decide +kernel⟩
theorem sc_Up_joined : FnScope ["self", "numbers"] ["self", "numbers"] (defScope s_Up_joined) := ⟨rfl, rfl, rfl, by decide +kernel, rfl, by decide +kernel, by decide +kernel⟩
theorem sc_Up_word : FnScope ["self"] ["self"] (defScope s_Up_word) := ⟨rfl, rfl, rfl, by decide +kernel, rfl, by decide +kernel, by decide +kernel⟩
theorem sc_Down_init : FnScope ["self", "count"] ["self", "count"] (defScope s_Down_init) := ⟨rfl, rfl, rfl, by decide +kernel, rfl, by decide +kernel, by decide +kernel⟩
theorem sc_Down_lines : FnScope ["self"] ["self"] (defScope s_Down_lines) := ⟨rfl, rfl, rfl, by decide +kernel, rfl, by decide +kernel, by decide +kernel⟩
theorem sc_Down_joined : FnScope ["self", "numbers"] ["self", "numbers"] (defScope s_Down_joined) := ⟨rfl, rfl, rfl, by decide +kernel, rfl, by decide +kernel, by decide +kernel⟩
theorem sc_Down_word : FnScope ["self"] ["self"] (defScope s_Down_word) := ⟨rfl, rfl, rfl, by decide +kernel, rfl, by decide +kernel, by decide +kernel⟩
theorem sc_number_in : FnScope ["figures", "most"] ["figures", "most"] (defScope s_number_in) := ⟨rfl, rfl, rfl, by decide +kernel, rfl, by decide +kernel, by decide +kernel⟩
theorem sc_kind_by : FnScope ["word", "kind", "head", "mark", "figures", "count"] ["word"] (defScope s_kind_by) := ⟨rfl, rfl, rfl, by decide +kernel, rfl, by decide +kernel, by decide +kernel⟩
theorem sc_law_draw : FnScope ["_law_cell", "_law_k", "_law_many", "_law_primes"] ["_law_cell", "_law_k", "_law_many"] (defScope s_law_draw) := ⟨rfl, rfl, rfl, by decide +kernel, rfl, by decide +kernel, by decide +kernel⟩
theorem sc_law_made : FnScope ["_law_which", "_law_count", "_law_width", "_law_numbers", "_law_top", "_law_k", "_law_total", "_law_bit", "_law_ones", "_law_times"] ["_law_which", "_law_count", "_law_width", "_law_numbers"] (defScope s_law_made) := ⟨rfl, rfl, rfl, by decide +kernel, rfl, by decide +kernel, by decide +kernel⟩
theorem sc_law_kind : FnScope ["_law_which", "_law_count"] ["_law_which", "_law_count"] (defScope s_law_kind) := ⟨rfl, rfl, rfl, by decide +kernel, rfl, by decide +kernel, by decide +kernel⟩
theorem sc_law_asked : FnScope ["_law_kind_here", "_law_which", "_law_count", "_law_width", "_law_numbers", "_law_words", "_law_lines", "_law_handed", "_law_made_here"] ["_law_kind_here", "_law_which", "_law_count", "_law_width", "_law_numbers"] (defScope s_law_asked) := ⟨rfl, rfl, rfl, by decide +kernel, rfl, by decide +kernel, by decide +kernel⟩
theorem sc_law : FnScope ["_law_script", "_law_wrong", "_law_word", "_law_source", "_law_at", "_law_cell", "_law_which", "_law_count", "_law_width", "_law_numbers", "_law_k", "_law_kind_here"] ["_law_script"] (defScope s_law) := ⟨rfl, rfl, rfl, by decide +kernel, rfl, by decide +kernel, by decide +kernel⟩
def d_Kind_lines : He.DefD := ⟨("Kind", some "lines"), "lines", "Kind.lines", defArgs s_Kind_lines, defBody s_Kind_lines, defScope s_Kind_lines, [], []⟩
def d_Kind_joined : He.DefD := ⟨("Kind", some "joined"), "joined", "Kind.joined", defArgs s_Kind_joined, defBody s_Kind_joined, defScope s_Kind_joined, [], []⟩
def d_Kind_word : He.DefD := ⟨("Kind", some "word"), "word", "Kind.word", defArgs s_Kind_word, defBody s_Kind_word, defScope s_Kind_word, [], []⟩
def d_Kind_made : He.DefD := ⟨("Kind", some "made"), "made", "Kind.made", defArgs s_Kind_made, defBody s_Kind_made, defScope s_Kind_made, [], []⟩
def d_Source_lines : He.DefD := ⟨("Source", some "lines"), "lines", "Source.lines", defArgs s_Source_lines, defBody s_Source_lines, defScope s_Source_lines, [], []⟩
def d_Source_word : He.DefD := ⟨("Source", some "word"), "word", "Source.word", defArgs s_Source_word, defBody s_Source_word, defScope s_Source_word, [], []⟩
def d_Sink_lines : He.DefD := ⟨("Sink", some "lines"), "lines", "Sink.lines", defArgs s_Sink_lines, defBody s_Sink_lines, defScope s_Sink_lines, [], []⟩
def d_Sink_joined : He.DefD := ⟨("Sink", some "joined"), "joined", "Sink.joined", defArgs s_Sink_joined, defBody s_Sink_joined, defScope s_Sink_joined, [], []⟩
def d_Sink_word : He.DefD := ⟨("Sink", some "word"), "word", "Sink.word", defArgs s_Sink_word, defBody s_Sink_word, defScope s_Sink_word, [], []⟩
def d_Both_joined : He.DefD := ⟨("Both", some "joined"), "joined", "Both.joined", defArgs s_Both_joined, defBody s_Both_joined, defScope s_Both_joined, [], []⟩
def d_Both_word : He.DefD := ⟨("Both", some "word"), "word", "Both.word", defArgs s_Both_word, defBody s_Both_word, defScope s_Both_word, [], []⟩
def d_Either_joined : He.DefD := ⟨("Either", some "joined"), "joined", "Either.joined", defArgs s_Either_joined, defBody s_Either_joined, defScope s_Either_joined, [], []⟩
def d_Either_word : He.DefD := ⟨("Either", some "word"), "word", "Either.word", defArgs s_Either_word, defBody s_Either_word, defScope s_Either_word, [], []⟩
def d_Odd_joined : He.DefD := ⟨("Odd", some "joined"), "joined", "Odd.joined", defArgs s_Odd_joined, defBody s_Odd_joined, defScope s_Odd_joined, [], []⟩
def d_Odd_word : He.DefD := ⟨("Odd", some "word"), "word", "Odd.word", defArgs s_Odd_word, defBody s_Odd_word, defScope s_Odd_word, [], []⟩
def d_Plus_joined : He.DefD := ⟨("Plus", some "joined"), "joined", "Plus.joined", defArgs s_Plus_joined, defBody s_Plus_joined, defScope s_Plus_joined, [], []⟩
def d_Plus_word : He.DefD := ⟨("Plus", some "word"), "word", "Plus.word", defArgs s_Plus_word, defBody s_Plus_word, defScope s_Plus_word, [], []⟩
def d_Pick_lines : He.DefD := ⟨("Pick", some "lines"), "lines", "Pick.lines", defArgs s_Pick_lines, defBody s_Pick_lines, defScope s_Pick_lines, [], []⟩
def d_Pick_joined : He.DefD := ⟨("Pick", some "joined"), "joined", "Pick.joined", defArgs s_Pick_joined, defBody s_Pick_joined, defScope s_Pick_joined, [], []⟩
def d_Pick_word : He.DefD := ⟨("Pick", some "word"), "word", "Pick.word", defArgs s_Pick_word, defBody s_Pick_word, defScope s_Pick_word, [], []⟩
def d_Up_init : He.DefD := ⟨("Up", some "__init__"), "__init__", "Up.__init__", defArgs s_Up_init, defBody s_Up_init, defScope s_Up_init, [], []⟩
def d_Up_lines : He.DefD := ⟨("Up", some "lines"), "lines", "Up.lines", defArgs s_Up_lines, defBody s_Up_lines, defScope s_Up_lines, [], []⟩
def d_Up_joined : He.DefD := ⟨("Up", some "joined"), "joined", "Up.joined", defArgs s_Up_joined, defBody s_Up_joined, defScope s_Up_joined, [], []⟩
def d_Up_word : He.DefD := ⟨("Up", some "word"), "word", "Up.word", defArgs s_Up_word, defBody s_Up_word, defScope s_Up_word, [], []⟩
def d_Down_init : He.DefD := ⟨("Down", some "__init__"), "__init__", "Down.__init__", defArgs s_Down_init, defBody s_Down_init, defScope s_Down_init, [], []⟩
def d_Down_lines : He.DefD := ⟨("Down", some "lines"), "lines", "Down.lines", defArgs s_Down_lines, defBody s_Down_lines, defScope s_Down_lines, [], []⟩
def d_Down_joined : He.DefD := ⟨("Down", some "joined"), "joined", "Down.joined", defArgs s_Down_joined, defBody s_Down_joined, defScope s_Down_joined, [], []⟩
def d_Down_word : He.DefD := ⟨("Down", some "word"), "word", "Down.word", defArgs s_Down_word, defBody s_Down_word, defScope s_Down_word, [], []⟩
def d_number_in : He.DefD := ⟨("number_in", none), "number_in", "number_in", defArgs s_number_in, defBody s_number_in, defScope s_number_in, [], []⟩
def d_kind_by : He.DefD := ⟨("kind_by", none), "kind_by", "kind_by", defArgs s_kind_by, defBody s_kind_by, defScope s_kind_by, [], []⟩
def d_law_draw : He.DefD := ⟨("_law_draw", none), "_law_draw", "_law_draw", defArgs s_law_draw, defBody s_law_draw, defScope s_law_draw, [], []⟩
def d_law_made : He.DefD := ⟨("_law_made", none), "_law_made", "_law_made", defArgs s_law_made, defBody s_law_made, defScope s_law_made, [], []⟩
def d_law_kind : He.DefD := ⟨("_law_kind", none), "_law_kind", "_law_kind", defArgs s_law_kind, defBody s_law_kind, defScope s_law_kind, [], []⟩
def d_law_asked : He.DefD := ⟨("_law_asked", none), "_law_asked", "_law_asked", defArgs s_law_asked, defBody s_law_asked, defScope s_law_asked, [], []⟩
def d_law : He.DefD := ⟨("law", none), "law", "law", defArgs s_law, defBody s_law, defScope s_law, [], []⟩
def d_Source_joined : He.DefD := ⟨("Source", some "joined"), "joined", "Kind.joined", defArgs s_Kind_joined, defBody s_Kind_joined, defScope s_Kind_joined, [], []⟩
def d_Source_made : He.DefD := ⟨("Source", some "made"), "made", "Kind.made", defArgs s_Kind_made, defBody s_Kind_made, defScope s_Kind_made, [], []⟩
def d_Sink_made : He.DefD := ⟨("Sink", some "made"), "made", "Kind.made", defArgs s_Kind_made, defBody s_Kind_made, defScope s_Kind_made, [], []⟩
def d_Both_lines : He.DefD := ⟨("Both", some "lines"), "lines", "Kind.lines", defArgs s_Kind_lines, defBody s_Kind_lines, defScope s_Kind_lines, [], []⟩
def d_Both_made : He.DefD := ⟨("Both", some "made"), "made", "Kind.made", defArgs s_Kind_made, defBody s_Kind_made, defScope s_Kind_made, [], []⟩
def d_Either_lines : He.DefD := ⟨("Either", some "lines"), "lines", "Kind.lines", defArgs s_Kind_lines, defBody s_Kind_lines, defScope s_Kind_lines, [], []⟩
def d_Either_made : He.DefD := ⟨("Either", some "made"), "made", "Kind.made", defArgs s_Kind_made, defBody s_Kind_made, defScope s_Kind_made, [], []⟩
def d_Odd_lines : He.DefD := ⟨("Odd", some "lines"), "lines", "Kind.lines", defArgs s_Kind_lines, defBody s_Kind_lines, defScope s_Kind_lines, [], []⟩
def d_Odd_made : He.DefD := ⟨("Odd", some "made"), "made", "Kind.made", defArgs s_Kind_made, defBody s_Kind_made, defScope s_Kind_made, [], []⟩
def d_Plus_lines : He.DefD := ⟨("Plus", some "lines"), "lines", "Kind.lines", defArgs s_Kind_lines, defBody s_Kind_lines, defScope s_Kind_lines, [], []⟩
def d_Plus_made : He.DefD := ⟨("Plus", some "made"), "made", "Kind.made", defArgs s_Kind_made, defBody s_Kind_made, defScope s_Kind_made, [], []⟩
def d_Pick_made : He.DefD := ⟨("Pick", some "made"), "made", "Kind.made", defArgs s_Kind_made, defBody s_Kind_made, defScope s_Kind_made, [], []⟩
def d_Up_made : He.DefD := ⟨("Up", some "made"), "made", "Kind.made", defArgs s_Kind_made, defBody s_Kind_made, defScope s_Kind_made, [], []⟩
def d_Down_made : He.DefD := ⟨("Down", some "made"), "made", "Kind.made", defArgs s_Kind_made, defBody s_Kind_made, defScope s_Kind_made, [], []⟩
def fn : List He.DefD := [d_Kind_lines, d_Kind_joined, d_Kind_word, d_Kind_made, d_Source_lines, d_Source_word, d_Sink_lines, d_Sink_joined, d_Sink_word, d_Both_joined, d_Both_word, d_Either_joined, d_Either_word, d_Odd_joined, d_Odd_word, d_Plus_joined, d_Plus_word, d_Pick_lines, d_Pick_joined, d_Pick_word, d_Up_init, d_Up_lines, d_Up_joined, d_Up_word, d_Down_init, d_Down_lines, d_Down_joined, d_Down_word, d_number_in, d_kind_by, d_law_draw, d_law_made, d_law_kind, d_law_asked, d_law, d_Source_joined, d_Source_made, d_Sink_made, d_Both_lines, d_Both_made, d_Either_lines, d_Either_made, d_Odd_lines, d_Odd_made, d_Plus_lines, d_Plus_made, d_Pick_made, d_Up_made, d_Down_made]
def fa : List He.Fa := [.glo "Kind", .glo "Source", .glo "Sink", .glo "Both", .glo "Either", .glo "Odd", .glo "Plus", .glo "Pick", .glo "Up", .glo "Down", .glo "number_in", .glo "kind_by", .glo "_law_draw", .glo "_law_made", .glo "_law_kind", .glo "_law_asked", .glo "law", .free "str", .free "int", .free "len", .free "range", .free "isinstance", .free "bool", .free "min", .cls "Kind", .meth "Kind" "lines", .meth "Kind" "joined", .meth "Kind" "word", .meth "Kind" "made", .cls "Source", .meth "Source" "lines", .meth "Source" "word", .meth "Source" "joined", .meth "Source" "made", .cls "Sink", .meth "Sink" "lines", .meth "Sink" "joined", .meth "Sink" "word", .meth "Sink" "made", .cls "Both", .meth "Both" "joined", .meth "Both" "word", .meth "Both" "lines", .meth "Both" "made", .cls "Either", .meth "Either" "joined", .meth "Either" "word", .meth "Either" "lines", .meth "Either" "made", .cls "Odd", .meth "Odd" "joined", .meth "Odd" "word", .meth "Odd" "lines", .meth "Odd" "made", .cls "Plus", .meth "Plus" "joined", .meth "Plus" "word", .meth "Plus" "lines", .meth "Plus" "made", .cls "Pick", .meth "Pick" "lines", .meth "Pick" "joined", .meth "Pick" "word", .meth "Pick" "made", .cls "Up", .noat "Up" "count", .mkr "Up", .meth "Up" "lines", .meth "Up" "joined", .meth "Up" "word", .meth "Up" "made", .cls "Down", .noat "Down" "count", .mkr "Down", .meth "Down" "lines", .meth "Down" "joined", .meth "Down" "word", .meth "Down" "made"]
def exL : List (PySem.W.Frag → Bool) := [moB "Kind", moB "Source", moB "Sink", moB "Both", moB "Either", moB "Odd", moB "Plus", moB "Pick", isB "Source" "Kind" true, isB "Source" "Source" true, isB "Sink" "Kind" true, isB "Both" "Kind" true, isB "Either" "Kind" true, isB "Odd" "Kind" true, isB "Plus" "Kind" true, isB "Pick" "Kind" true, isB "Up" "Kind" true, isB "Down" "Kind" true]
def exB (K : PySem.W.Frag) : Bool := exL.all fun f => f K
abbrev R : PySem.W.OpenRow := PySem.W.OpenLaw.row PySem.Challenge.rw_storeway_k01_what_parts_make
abbrev hk : PySem.W.Hook := hookR 1400 fa fn exB
def ob (s : PySem.W.SharedT) : He.AlD × Bool := obsR 1400 fa fn exB (HandSHeadRun.getT s)
theorem ob_eq (s : PySem.W.SharedT) : ob s = hk.obs s.abs := obsR_eq s
def names0 : List PySem.Str := ["Kind", "Source", "Sink", "Both", "Either", "Odd", "Plus", "Pick", "Up", "Down", "number_in", "kind_by", "_law_draw", "_law_made", "_law_kind", "_law_asked"]
def names : List PySem.Str := names0
structure Txt (K : PySem.W.Frag) (mg : Str → Option Value) : Prop where
  c : He.SaysD fa fn K
  ex : exB K = true
  H : ∃ h : Heap, K.In h ∧ h.Ns mainGlobals mg
section
variable {K : PySem.W.Frag} {mg : Str → Option Value}
theorem Txt.g_Kind (T : Txt K mg) : mg "Kind" = some (.ref (ga K "Kind")) := by
  obtain ⟨h, X, G⟩ := T.H
  exact He.glo_ok X G (T.c.fact 0 (f := (.glo "Kind")) rfl)
theorem Txt.g_Source (T : Txt K mg) : mg "Source" = some (.ref (ga K "Source")) := by
  obtain ⟨h, X, G⟩ := T.H
  exact He.glo_ok X G (T.c.fact 1 (f := (.glo "Source")) rfl)
theorem Txt.g_Sink (T : Txt K mg) : mg "Sink" = some (.ref (ga K "Sink")) := by
  obtain ⟨h, X, G⟩ := T.H
  exact He.glo_ok X G (T.c.fact 2 (f := (.glo "Sink")) rfl)
theorem Txt.g_Both (T : Txt K mg) : mg "Both" = some (.ref (ga K "Both")) := by
  obtain ⟨h, X, G⟩ := T.H
  exact He.glo_ok X G (T.c.fact 3 (f := (.glo "Both")) rfl)
theorem Txt.g_Either (T : Txt K mg) : mg "Either" = some (.ref (ga K "Either")) := by
  obtain ⟨h, X, G⟩ := T.H
  exact He.glo_ok X G (T.c.fact 4 (f := (.glo "Either")) rfl)
theorem Txt.g_Odd (T : Txt K mg) : mg "Odd" = some (.ref (ga K "Odd")) := by
  obtain ⟨h, X, G⟩ := T.H
  exact He.glo_ok X G (T.c.fact 5 (f := (.glo "Odd")) rfl)
theorem Txt.g_Plus (T : Txt K mg) : mg "Plus" = some (.ref (ga K "Plus")) := by
  obtain ⟨h, X, G⟩ := T.H
  exact He.glo_ok X G (T.c.fact 6 (f := (.glo "Plus")) rfl)
theorem Txt.g_Pick (T : Txt K mg) : mg "Pick" = some (.ref (ga K "Pick")) := by
  obtain ⟨h, X, G⟩ := T.H
  exact He.glo_ok X G (T.c.fact 7 (f := (.glo "Pick")) rfl)
theorem Txt.g_Up (T : Txt K mg) : mg "Up" = some (.ref (ga K "Up")) := by
  obtain ⟨h, X, G⟩ := T.H
  exact He.glo_ok X G (T.c.fact 8 (f := (.glo "Up")) rfl)
theorem Txt.g_Down (T : Txt K mg) : mg "Down" = some (.ref (ga K "Down")) := by
  obtain ⟨h, X, G⟩ := T.H
  exact He.glo_ok X G (T.c.fact 9 (f := (.glo "Down")) rfl)
theorem Txt.g_number_in (T : Txt K mg) : mg "number_in" = some (.ref (ga K "number_in")) := by
  obtain ⟨h, X, G⟩ := T.H
  exact He.glo_ok X G (T.c.fact 10 (f := (.glo "number_in")) rfl)
theorem Txt.g_kind_by (T : Txt K mg) : mg "kind_by" = some (.ref (ga K "kind_by")) := by
  obtain ⟨h, X, G⟩ := T.H
  exact He.glo_ok X G (T.c.fact 11 (f := (.glo "kind_by")) rfl)
theorem Txt.g_law_draw (T : Txt K mg) : mg "_law_draw" = some (.ref (ga K "_law_draw")) := by
  obtain ⟨h, X, G⟩ := T.H
  exact He.glo_ok X G (T.c.fact 12 (f := (.glo "_law_draw")) rfl)
theorem Txt.g_law_made (T : Txt K mg) : mg "_law_made" = some (.ref (ga K "_law_made")) := by
  obtain ⟨h, X, G⟩ := T.H
  exact He.glo_ok X G (T.c.fact 13 (f := (.glo "_law_made")) rfl)
theorem Txt.g_law_kind (T : Txt K mg) : mg "_law_kind" = some (.ref (ga K "_law_kind")) := by
  obtain ⟨h, X, G⟩ := T.H
  exact He.glo_ok X G (T.c.fact 14 (f := (.glo "_law_kind")) rfl)
theorem Txt.g_law_asked (T : Txt K mg) : mg "_law_asked" = some (.ref (ga K "_law_asked")) := by
  obtain ⟨h, X, G⟩ := T.H
  exact He.glo_ok X G (T.c.fact 15 (f := (.glo "_law_asked")) rfl)
theorem Txt.g_law (T : Txt K mg) : mg "law" = some (.ref (ga K "law")) := by
  obtain ⟨h, X, G⟩ := T.H
  exact He.glo_ok X G (T.c.fact 16 (f := (.glo "law")) rfl)
theorem Txt.f_str (T : Txt K mg) : mg "str" = none := by
  obtain ⟨h, X, G⟩ := T.H
  exact He.free_ok X G (T.c.fact 17 (f := (.free "str")) rfl)
theorem Txt.f_int (T : Txt K mg) : mg "int" = none := by
  obtain ⟨h, X, G⟩ := T.H
  exact He.free_ok X G (T.c.fact 18 (f := (.free "int")) rfl)
theorem Txt.f_len (T : Txt K mg) : mg "len" = none := by
  obtain ⟨h, X, G⟩ := T.H
  exact He.free_ok X G (T.c.fact 19 (f := (.free "len")) rfl)
theorem Txt.f_range (T : Txt K mg) : mg "range" = none := by
  obtain ⟨h, X, G⟩ := T.H
  exact He.free_ok X G (T.c.fact 20 (f := (.free "range")) rfl)
theorem Txt.f_isinstance (T : Txt K mg) : mg "isinstance" = none := by
  obtain ⟨h, X, G⟩ := T.H
  exact He.free_ok X G (T.c.fact 21 (f := (.free "isinstance")) rfl)
theorem Txt.f_bool (T : Txt K mg) : mg "bool" = none := by
  obtain ⟨h, X, G⟩ := T.H
  exact He.free_ok X G (T.c.fact 22 (f := (.free "bool")) rfl)
theorem Txt.f_min (T : Txt K mg) : mg "min" = none := by
  obtain ⟨h, X, G⟩ := T.H
  exact He.free_ok X G (T.c.fact 23 (f := (.free "min")) rfl)
theorem Txt.c_Kind (T : Txt K mg) : Cls K (ga K "Kind") := He.cls_ok (T.c.fact 24 (f := (.cls "Kind")) rfl)
theorem Txt.m_Kind_lines (T : Txt K mg) : Meth K (ga K "Kind") "lines" (ma K (ga K "Kind") "lines") := He.meth_ok (T.c.fact 25 (f := (.meth "Kind" "lines")) rfl)
theorem Txt.m_Kind_joined (T : Txt K mg) : Meth K (ga K "Kind") "joined" (ma K (ga K "Kind") "joined") := He.meth_ok (T.c.fact 26 (f := (.meth "Kind" "joined")) rfl)
theorem Txt.m_Kind_word (T : Txt K mg) : Meth K (ga K "Kind") "word" (ma K (ga K "Kind") "word") := He.meth_ok (T.c.fact 27 (f := (.meth "Kind" "word")) rfl)
theorem Txt.m_Kind_made (T : Txt K mg) : Meth K (ga K "Kind") "made" (ma K (ga K "Kind") "made") := He.meth_ok (T.c.fact 28 (f := (.meth "Kind" "made")) rfl)
theorem Txt.c_Source (T : Txt K mg) : Cls K (ga K "Source") := He.cls_ok (T.c.fact 29 (f := (.cls "Source")) rfl)
theorem Txt.m_Source_lines (T : Txt K mg) : Meth K (ga K "Source") "lines" (ma K (ga K "Source") "lines") := He.meth_ok (T.c.fact 30 (f := (.meth "Source" "lines")) rfl)
theorem Txt.m_Source_word (T : Txt K mg) : Meth K (ga K "Source") "word" (ma K (ga K "Source") "word") := He.meth_ok (T.c.fact 31 (f := (.meth "Source" "word")) rfl)
theorem Txt.m_Source_joined (T : Txt K mg) : Meth K (ga K "Source") "joined" (ma K (ga K "Source") "joined") := He.meth_ok (T.c.fact 32 (f := (.meth "Source" "joined")) rfl)
theorem Txt.m_Source_made (T : Txt K mg) : Meth K (ga K "Source") "made" (ma K (ga K "Source") "made") := He.meth_ok (T.c.fact 33 (f := (.meth "Source" "made")) rfl)
theorem Txt.c_Sink (T : Txt K mg) : Cls K (ga K "Sink") := He.cls_ok (T.c.fact 34 (f := (.cls "Sink")) rfl)
theorem Txt.m_Sink_lines (T : Txt K mg) : Meth K (ga K "Sink") "lines" (ma K (ga K "Sink") "lines") := He.meth_ok (T.c.fact 35 (f := (.meth "Sink" "lines")) rfl)
theorem Txt.m_Sink_joined (T : Txt K mg) : Meth K (ga K "Sink") "joined" (ma K (ga K "Sink") "joined") := He.meth_ok (T.c.fact 36 (f := (.meth "Sink" "joined")) rfl)
theorem Txt.m_Sink_word (T : Txt K mg) : Meth K (ga K "Sink") "word" (ma K (ga K "Sink") "word") := He.meth_ok (T.c.fact 37 (f := (.meth "Sink" "word")) rfl)
theorem Txt.m_Sink_made (T : Txt K mg) : Meth K (ga K "Sink") "made" (ma K (ga K "Sink") "made") := He.meth_ok (T.c.fact 38 (f := (.meth "Sink" "made")) rfl)
theorem Txt.c_Both (T : Txt K mg) : Cls K (ga K "Both") := He.cls_ok (T.c.fact 39 (f := (.cls "Both")) rfl)
theorem Txt.m_Both_joined (T : Txt K mg) : Meth K (ga K "Both") "joined" (ma K (ga K "Both") "joined") := He.meth_ok (T.c.fact 40 (f := (.meth "Both" "joined")) rfl)
theorem Txt.m_Both_word (T : Txt K mg) : Meth K (ga K "Both") "word" (ma K (ga K "Both") "word") := He.meth_ok (T.c.fact 41 (f := (.meth "Both" "word")) rfl)
theorem Txt.m_Both_lines (T : Txt K mg) : Meth K (ga K "Both") "lines" (ma K (ga K "Both") "lines") := He.meth_ok (T.c.fact 42 (f := (.meth "Both" "lines")) rfl)
theorem Txt.m_Both_made (T : Txt K mg) : Meth K (ga K "Both") "made" (ma K (ga K "Both") "made") := He.meth_ok (T.c.fact 43 (f := (.meth "Both" "made")) rfl)
theorem Txt.c_Either (T : Txt K mg) : Cls K (ga K "Either") := He.cls_ok (T.c.fact 44 (f := (.cls "Either")) rfl)
theorem Txt.m_Either_joined (T : Txt K mg) : Meth K (ga K "Either") "joined" (ma K (ga K "Either") "joined") := He.meth_ok (T.c.fact 45 (f := (.meth "Either" "joined")) rfl)
theorem Txt.m_Either_word (T : Txt K mg) : Meth K (ga K "Either") "word" (ma K (ga K "Either") "word") := He.meth_ok (T.c.fact 46 (f := (.meth "Either" "word")) rfl)
theorem Txt.m_Either_lines (T : Txt K mg) : Meth K (ga K "Either") "lines" (ma K (ga K "Either") "lines") := He.meth_ok (T.c.fact 47 (f := (.meth "Either" "lines")) rfl)
theorem Txt.m_Either_made (T : Txt K mg) : Meth K (ga K "Either") "made" (ma K (ga K "Either") "made") := He.meth_ok (T.c.fact 48 (f := (.meth "Either" "made")) rfl)
theorem Txt.c_Odd (T : Txt K mg) : Cls K (ga K "Odd") := He.cls_ok (T.c.fact 49 (f := (.cls "Odd")) rfl)
theorem Txt.m_Odd_joined (T : Txt K mg) : Meth K (ga K "Odd") "joined" (ma K (ga K "Odd") "joined") := He.meth_ok (T.c.fact 50 (f := (.meth "Odd" "joined")) rfl)
theorem Txt.m_Odd_word (T : Txt K mg) : Meth K (ga K "Odd") "word" (ma K (ga K "Odd") "word") := He.meth_ok (T.c.fact 51 (f := (.meth "Odd" "word")) rfl)
theorem Txt.m_Odd_lines (T : Txt K mg) : Meth K (ga K "Odd") "lines" (ma K (ga K "Odd") "lines") := He.meth_ok (T.c.fact 52 (f := (.meth "Odd" "lines")) rfl)
theorem Txt.m_Odd_made (T : Txt K mg) : Meth K (ga K "Odd") "made" (ma K (ga K "Odd") "made") := He.meth_ok (T.c.fact 53 (f := (.meth "Odd" "made")) rfl)
theorem Txt.c_Plus (T : Txt K mg) : Cls K (ga K "Plus") := He.cls_ok (T.c.fact 54 (f := (.cls "Plus")) rfl)
theorem Txt.m_Plus_joined (T : Txt K mg) : Meth K (ga K "Plus") "joined" (ma K (ga K "Plus") "joined") := He.meth_ok (T.c.fact 55 (f := (.meth "Plus" "joined")) rfl)
theorem Txt.m_Plus_word (T : Txt K mg) : Meth K (ga K "Plus") "word" (ma K (ga K "Plus") "word") := He.meth_ok (T.c.fact 56 (f := (.meth "Plus" "word")) rfl)
theorem Txt.m_Plus_lines (T : Txt K mg) : Meth K (ga K "Plus") "lines" (ma K (ga K "Plus") "lines") := He.meth_ok (T.c.fact 57 (f := (.meth "Plus" "lines")) rfl)
theorem Txt.m_Plus_made (T : Txt K mg) : Meth K (ga K "Plus") "made" (ma K (ga K "Plus") "made") := He.meth_ok (T.c.fact 58 (f := (.meth "Plus" "made")) rfl)
theorem Txt.c_Pick (T : Txt K mg) : Cls K (ga K "Pick") := He.cls_ok (T.c.fact 59 (f := (.cls "Pick")) rfl)
theorem Txt.m_Pick_lines (T : Txt K mg) : Meth K (ga K "Pick") "lines" (ma K (ga K "Pick") "lines") := He.meth_ok (T.c.fact 60 (f := (.meth "Pick" "lines")) rfl)
theorem Txt.m_Pick_joined (T : Txt K mg) : Meth K (ga K "Pick") "joined" (ma K (ga K "Pick") "joined") := He.meth_ok (T.c.fact 61 (f := (.meth "Pick" "joined")) rfl)
theorem Txt.m_Pick_word (T : Txt K mg) : Meth K (ga K "Pick") "word" (ma K (ga K "Pick") "word") := He.meth_ok (T.c.fact 62 (f := (.meth "Pick" "word")) rfl)
theorem Txt.m_Pick_made (T : Txt K mg) : Meth K (ga K "Pick") "made" (ma K (ga K "Pick") "made") := He.meth_ok (T.c.fact 63 (f := (.meth "Pick" "made")) rfl)
theorem Txt.c_Up (T : Txt K mg) : Cls K (ga K "Up") := He.cls_ok (T.c.fact 64 (f := (.cls "Up")) rfl)
theorem Txt.n_Up_count (T : Txt K mg) : NoAttr K (ga K "Up") "count" := He.noat_ok (T.c.fact 65 (f := (.noat "Up" "count")) rfl)
theorem Txt.mk_Up (T : Txt K mg) : Mk K (ga K "Up") (ma K (ga K "Up") "__init__") := He.mkr_ok (T.c.fact 66 (f := (.mkr "Up")) rfl)
theorem Txt.m_Up_lines (T : Txt K mg) : Meth K (ga K "Up") "lines" (ma K (ga K "Up") "lines") := He.meth_ok (T.c.fact 67 (f := (.meth "Up" "lines")) rfl)
theorem Txt.m_Up_joined (T : Txt K mg) : Meth K (ga K "Up") "joined" (ma K (ga K "Up") "joined") := He.meth_ok (T.c.fact 68 (f := (.meth "Up" "joined")) rfl)
theorem Txt.m_Up_word (T : Txt K mg) : Meth K (ga K "Up") "word" (ma K (ga K "Up") "word") := He.meth_ok (T.c.fact 69 (f := (.meth "Up" "word")) rfl)
theorem Txt.m_Up_made (T : Txt K mg) : Meth K (ga K "Up") "made" (ma K (ga K "Up") "made") := He.meth_ok (T.c.fact 70 (f := (.meth "Up" "made")) rfl)
theorem Txt.c_Down (T : Txt K mg) : Cls K (ga K "Down") := He.cls_ok (T.c.fact 71 (f := (.cls "Down")) rfl)
theorem Txt.n_Down_count (T : Txt K mg) : NoAttr K (ga K "Down") "count" := He.noat_ok (T.c.fact 72 (f := (.noat "Down" "count")) rfl)
theorem Txt.mk_Down (T : Txt K mg) : Mk K (ga K "Down") (ma K (ga K "Down") "__init__") := He.mkr_ok (T.c.fact 73 (f := (.mkr "Down")) rfl)
theorem Txt.m_Down_lines (T : Txt K mg) : Meth K (ga K "Down") "lines" (ma K (ga K "Down") "lines") := He.meth_ok (T.c.fact 74 (f := (.meth "Down" "lines")) rfl)
theorem Txt.m_Down_joined (T : Txt K mg) : Meth K (ga K "Down") "joined" (ma K (ga K "Down") "joined") := He.meth_ok (T.c.fact 75 (f := (.meth "Down" "joined")) rfl)
theorem Txt.m_Down_word (T : Txt K mg) : Meth K (ga K "Down") "word" (ma K (ga K "Down") "word") := He.meth_ok (T.c.fact 76 (f := (.meth "Down" "word")) rfl)
theorem Txt.m_Down_made (T : Txt K mg) : Meth K (ga K "Down") "made" (ma K (ga K "Down") "made") := He.meth_ok (T.c.fact 77 (f := (.meth "Down" "made")) rfl)
theorem Txt.mo_Kind (T : Txt K mg) : MkO K (ga K "Kind") := moB_ok (exs_at T.ex 0 (f := (moB "Kind")) rfl)
theorem Txt.mo_Source (T : Txt K mg) : MkO K (ga K "Source") := moB_ok (exs_at T.ex 1 (f := (moB "Source")) rfl)
theorem Txt.mo_Sink (T : Txt K mg) : MkO K (ga K "Sink") := moB_ok (exs_at T.ex 2 (f := (moB "Sink")) rfl)
theorem Txt.mo_Both (T : Txt K mg) : MkO K (ga K "Both") := moB_ok (exs_at T.ex 3 (f := (moB "Both")) rfl)
theorem Txt.mo_Either (T : Txt K mg) : MkO K (ga K "Either") := moB_ok (exs_at T.ex 4 (f := (moB "Either")) rfl)
theorem Txt.mo_Odd (T : Txt K mg) : MkO K (ga K "Odd") := moB_ok (exs_at T.ex 5 (f := (moB "Odd")) rfl)
theorem Txt.mo_Plus (T : Txt K mg) : MkO K (ga K "Plus") := moB_ok (exs_at T.ex 6 (f := (moB "Plus")) rfl)
theorem Txt.mo_Pick (T : Txt K mg) : MkO K (ga K "Pick") := moB_ok (exs_at T.ex 7 (f := (moB "Pick")) rfl)
theorem Txt.is_Source_Kind (T : Txt K mg) : IsC K (ga K "Source") (ga K "Kind") true := isB_ok (exs_at T.ex 8 (f := (isB "Source" "Kind" true)) rfl)
theorem Txt.is_Source_Source (T : Txt K mg) : IsC K (ga K "Source") (ga K "Source") true := isB_ok (exs_at T.ex 9 (f := (isB "Source" "Source" true)) rfl)
theorem Txt.is_Sink_Kind (T : Txt K mg) : IsC K (ga K "Sink") (ga K "Kind") true := isB_ok (exs_at T.ex 10 (f := (isB "Sink" "Kind" true)) rfl)
theorem Txt.is_Both_Kind (T : Txt K mg) : IsC K (ga K "Both") (ga K "Kind") true := isB_ok (exs_at T.ex 11 (f := (isB "Both" "Kind" true)) rfl)
theorem Txt.is_Either_Kind (T : Txt K mg) : IsC K (ga K "Either") (ga K "Kind") true := isB_ok (exs_at T.ex 12 (f := (isB "Either" "Kind" true)) rfl)
theorem Txt.is_Odd_Kind (T : Txt K mg) : IsC K (ga K "Odd") (ga K "Kind") true := isB_ok (exs_at T.ex 13 (f := (isB "Odd" "Kind" true)) rfl)
theorem Txt.is_Plus_Kind (T : Txt K mg) : IsC K (ga K "Plus") (ga K "Kind") true := isB_ok (exs_at T.ex 14 (f := (isB "Plus" "Kind" true)) rfl)
theorem Txt.is_Pick_Kind (T : Txt K mg) : IsC K (ga K "Pick") (ga K "Kind") true := isB_ok (exs_at T.ex 15 (f := (isB "Pick" "Kind" true)) rfl)
theorem Txt.is_Up_Kind (T : Txt K mg) : IsC K (ga K "Up") (ga K "Kind") true := isB_ok (exs_at T.ex 16 (f := (isB "Up" "Kind" true)) rfl)
theorem Txt.is_Down_Kind (T : Txt K mg) : IsC K (ga K "Down") (ga K "Kind") true := isB_ok (exs_at T.ex 17 (f := (isB "Down" "Kind" true)) rfl)
theorem Txt.F_Kind_lines (T : Txt K mg) : ∃ fd, FunD K "lines" "Kind.lines" (defArgs s_Kind_lines) (defBody s_Kind_lines) (defScope s_Kind_lines) [] [] (fAd K ("Kind", some "lines")) fd := T.c.def_ 0 (d := d_Kind_lines) rfl
theorem Txt.F_Kind_joined (T : Txt K mg) : ∃ fd, FunD K "joined" "Kind.joined" (defArgs s_Kind_joined) (defBody s_Kind_joined) (defScope s_Kind_joined) [] [] (fAd K ("Kind", some "joined")) fd := T.c.def_ 1 (d := d_Kind_joined) rfl
theorem Txt.F_Kind_word (T : Txt K mg) : ∃ fd, FunD K "word" "Kind.word" (defArgs s_Kind_word) (defBody s_Kind_word) (defScope s_Kind_word) [] [] (fAd K ("Kind", some "word")) fd := T.c.def_ 2 (d := d_Kind_word) rfl
theorem Txt.F_Kind_made (T : Txt K mg) : ∃ fd, FunD K "made" "Kind.made" (defArgs s_Kind_made) (defBody s_Kind_made) (defScope s_Kind_made) [] [] (fAd K ("Kind", some "made")) fd := T.c.def_ 3 (d := d_Kind_made) rfl
theorem Txt.F_Source_lines (T : Txt K mg) : ∃ fd, FunD K "lines" "Source.lines" (defArgs s_Source_lines) (defBody s_Source_lines) (defScope s_Source_lines) [] [] (fAd K ("Source", some "lines")) fd := T.c.def_ 4 (d := d_Source_lines) rfl
theorem Txt.F_Source_word (T : Txt K mg) : ∃ fd, FunD K "word" "Source.word" (defArgs s_Source_word) (defBody s_Source_word) (defScope s_Source_word) [] [] (fAd K ("Source", some "word")) fd := T.c.def_ 5 (d := d_Source_word) rfl
theorem Txt.F_Sink_lines (T : Txt K mg) : ∃ fd, FunD K "lines" "Sink.lines" (defArgs s_Sink_lines) (defBody s_Sink_lines) (defScope s_Sink_lines) [] [] (fAd K ("Sink", some "lines")) fd := T.c.def_ 6 (d := d_Sink_lines) rfl
theorem Txt.F_Sink_joined (T : Txt K mg) : ∃ fd, FunD K "joined" "Sink.joined" (defArgs s_Sink_joined) (defBody s_Sink_joined) (defScope s_Sink_joined) [] [] (fAd K ("Sink", some "joined")) fd := T.c.def_ 7 (d := d_Sink_joined) rfl
theorem Txt.F_Sink_word (T : Txt K mg) : ∃ fd, FunD K "word" "Sink.word" (defArgs s_Sink_word) (defBody s_Sink_word) (defScope s_Sink_word) [] [] (fAd K ("Sink", some "word")) fd := T.c.def_ 8 (d := d_Sink_word) rfl
theorem Txt.F_Both_joined (T : Txt K mg) : ∃ fd, FunD K "joined" "Both.joined" (defArgs s_Both_joined) (defBody s_Both_joined) (defScope s_Both_joined) [] [] (fAd K ("Both", some "joined")) fd := T.c.def_ 9 (d := d_Both_joined) rfl
theorem Txt.F_Both_word (T : Txt K mg) : ∃ fd, FunD K "word" "Both.word" (defArgs s_Both_word) (defBody s_Both_word) (defScope s_Both_word) [] [] (fAd K ("Both", some "word")) fd := T.c.def_ 10 (d := d_Both_word) rfl
theorem Txt.F_Either_joined (T : Txt K mg) : ∃ fd, FunD K "joined" "Either.joined" (defArgs s_Either_joined) (defBody s_Either_joined) (defScope s_Either_joined) [] [] (fAd K ("Either", some "joined")) fd := T.c.def_ 11 (d := d_Either_joined) rfl
theorem Txt.F_Either_word (T : Txt K mg) : ∃ fd, FunD K "word" "Either.word" (defArgs s_Either_word) (defBody s_Either_word) (defScope s_Either_word) [] [] (fAd K ("Either", some "word")) fd := T.c.def_ 12 (d := d_Either_word) rfl
theorem Txt.F_Odd_joined (T : Txt K mg) : ∃ fd, FunD K "joined" "Odd.joined" (defArgs s_Odd_joined) (defBody s_Odd_joined) (defScope s_Odd_joined) [] [] (fAd K ("Odd", some "joined")) fd := T.c.def_ 13 (d := d_Odd_joined) rfl
theorem Txt.F_Odd_word (T : Txt K mg) : ∃ fd, FunD K "word" "Odd.word" (defArgs s_Odd_word) (defBody s_Odd_word) (defScope s_Odd_word) [] [] (fAd K ("Odd", some "word")) fd := T.c.def_ 14 (d := d_Odd_word) rfl
theorem Txt.F_Plus_joined (T : Txt K mg) : ∃ fd, FunD K "joined" "Plus.joined" (defArgs s_Plus_joined) (defBody s_Plus_joined) (defScope s_Plus_joined) [] [] (fAd K ("Plus", some "joined")) fd := T.c.def_ 15 (d := d_Plus_joined) rfl
theorem Txt.F_Plus_word (T : Txt K mg) : ∃ fd, FunD K "word" "Plus.word" (defArgs s_Plus_word) (defBody s_Plus_word) (defScope s_Plus_word) [] [] (fAd K ("Plus", some "word")) fd := T.c.def_ 16 (d := d_Plus_word) rfl
theorem Txt.F_Pick_lines (T : Txt K mg) : ∃ fd, FunD K "lines" "Pick.lines" (defArgs s_Pick_lines) (defBody s_Pick_lines) (defScope s_Pick_lines) [] [] (fAd K ("Pick", some "lines")) fd := T.c.def_ 17 (d := d_Pick_lines) rfl
theorem Txt.F_Pick_joined (T : Txt K mg) : ∃ fd, FunD K "joined" "Pick.joined" (defArgs s_Pick_joined) (defBody s_Pick_joined) (defScope s_Pick_joined) [] [] (fAd K ("Pick", some "joined")) fd := T.c.def_ 18 (d := d_Pick_joined) rfl
theorem Txt.F_Pick_word (T : Txt K mg) : ∃ fd, FunD K "word" "Pick.word" (defArgs s_Pick_word) (defBody s_Pick_word) (defScope s_Pick_word) [] [] (fAd K ("Pick", some "word")) fd := T.c.def_ 19 (d := d_Pick_word) rfl
theorem Txt.F_Up_init (T : Txt K mg) : ∃ fd, FunD K "__init__" "Up.__init__" (defArgs s_Up_init) (defBody s_Up_init) (defScope s_Up_init) [] [] (fAd K ("Up", some "__init__")) fd := T.c.def_ 20 (d := d_Up_init) rfl
theorem Txt.F_Up_lines (T : Txt K mg) : ∃ fd, FunD K "lines" "Up.lines" (defArgs s_Up_lines) (defBody s_Up_lines) (defScope s_Up_lines) [] [] (fAd K ("Up", some "lines")) fd := T.c.def_ 21 (d := d_Up_lines) rfl
theorem Txt.F_Up_joined (T : Txt K mg) : ∃ fd, FunD K "joined" "Up.joined" (defArgs s_Up_joined) (defBody s_Up_joined) (defScope s_Up_joined) [] [] (fAd K ("Up", some "joined")) fd := T.c.def_ 22 (d := d_Up_joined) rfl
theorem Txt.F_Up_word (T : Txt K mg) : ∃ fd, FunD K "word" "Up.word" (defArgs s_Up_word) (defBody s_Up_word) (defScope s_Up_word) [] [] (fAd K ("Up", some "word")) fd := T.c.def_ 23 (d := d_Up_word) rfl
theorem Txt.F_Down_init (T : Txt K mg) : ∃ fd, FunD K "__init__" "Down.__init__" (defArgs s_Down_init) (defBody s_Down_init) (defScope s_Down_init) [] [] (fAd K ("Down", some "__init__")) fd := T.c.def_ 24 (d := d_Down_init) rfl
theorem Txt.F_Down_lines (T : Txt K mg) : ∃ fd, FunD K "lines" "Down.lines" (defArgs s_Down_lines) (defBody s_Down_lines) (defScope s_Down_lines) [] [] (fAd K ("Down", some "lines")) fd := T.c.def_ 25 (d := d_Down_lines) rfl
theorem Txt.F_Down_joined (T : Txt K mg) : ∃ fd, FunD K "joined" "Down.joined" (defArgs s_Down_joined) (defBody s_Down_joined) (defScope s_Down_joined) [] [] (fAd K ("Down", some "joined")) fd := T.c.def_ 26 (d := d_Down_joined) rfl
theorem Txt.F_Down_word (T : Txt K mg) : ∃ fd, FunD K "word" "Down.word" (defArgs s_Down_word) (defBody s_Down_word) (defScope s_Down_word) [] [] (fAd K ("Down", some "word")) fd := T.c.def_ 27 (d := d_Down_word) rfl
theorem Txt.F_number_in (T : Txt K mg) : ∃ fd, FunD K "number_in" "number_in" (defArgs s_number_in) (defBody s_number_in) (defScope s_number_in) [] [] (fAd K ("number_in", none)) fd := T.c.def_ 28 (d := d_number_in) rfl
theorem Txt.F_kind_by (T : Txt K mg) : ∃ fd, FunD K "kind_by" "kind_by" (defArgs s_kind_by) (defBody s_kind_by) (defScope s_kind_by) [] [] (fAd K ("kind_by", none)) fd := T.c.def_ 29 (d := d_kind_by) rfl
theorem Txt.F_law_draw (T : Txt K mg) : ∃ fd, FunD K "_law_draw" "_law_draw" (defArgs s_law_draw) (defBody s_law_draw) (defScope s_law_draw) [] [] (fAd K ("_law_draw", none)) fd := T.c.def_ 30 (d := d_law_draw) rfl
theorem Txt.F_law_made (T : Txt K mg) : ∃ fd, FunD K "_law_made" "_law_made" (defArgs s_law_made) (defBody s_law_made) (defScope s_law_made) [] [] (fAd K ("_law_made", none)) fd := T.c.def_ 31 (d := d_law_made) rfl
theorem Txt.F_law_kind (T : Txt K mg) : ∃ fd, FunD K "_law_kind" "_law_kind" (defArgs s_law_kind) (defBody s_law_kind) (defScope s_law_kind) [] [] (fAd K ("_law_kind", none)) fd := T.c.def_ 32 (d := d_law_kind) rfl
theorem Txt.F_law_asked (T : Txt K mg) : ∃ fd, FunD K "_law_asked" "_law_asked" (defArgs s_law_asked) (defBody s_law_asked) (defScope s_law_asked) [] [] (fAd K ("_law_asked", none)) fd := T.c.def_ 33 (d := d_law_asked) rfl
theorem Txt.F_law (T : Txt K mg) : ∃ fd, FunD K "law" "law" (defArgs s_law) (defBody s_law) (defScope s_law) [] [] (fAd K ("law", none)) fd := T.c.def_ 34 (d := d_law) rfl
theorem Txt.F_Source_joined (T : Txt K mg) : ∃ fd, FunD K "joined" "Kind.joined" (defArgs s_Kind_joined) (defBody s_Kind_joined) (defScope s_Kind_joined) [] [] (fAd K ("Source", some "joined")) fd := T.c.def_ 35 (d := d_Source_joined) rfl
theorem Txt.F_Source_made (T : Txt K mg) : ∃ fd, FunD K "made" "Kind.made" (defArgs s_Kind_made) (defBody s_Kind_made) (defScope s_Kind_made) [] [] (fAd K ("Source", some "made")) fd := T.c.def_ 36 (d := d_Source_made) rfl
theorem Txt.F_Sink_made (T : Txt K mg) : ∃ fd, FunD K "made" "Kind.made" (defArgs s_Kind_made) (defBody s_Kind_made) (defScope s_Kind_made) [] [] (fAd K ("Sink", some "made")) fd := T.c.def_ 37 (d := d_Sink_made) rfl
theorem Txt.F_Both_lines (T : Txt K mg) : ∃ fd, FunD K "lines" "Kind.lines" (defArgs s_Kind_lines) (defBody s_Kind_lines) (defScope s_Kind_lines) [] [] (fAd K ("Both", some "lines")) fd := T.c.def_ 38 (d := d_Both_lines) rfl
theorem Txt.F_Both_made (T : Txt K mg) : ∃ fd, FunD K "made" "Kind.made" (defArgs s_Kind_made) (defBody s_Kind_made) (defScope s_Kind_made) [] [] (fAd K ("Both", some "made")) fd := T.c.def_ 39 (d := d_Both_made) rfl
theorem Txt.F_Either_lines (T : Txt K mg) : ∃ fd, FunD K "lines" "Kind.lines" (defArgs s_Kind_lines) (defBody s_Kind_lines) (defScope s_Kind_lines) [] [] (fAd K ("Either", some "lines")) fd := T.c.def_ 40 (d := d_Either_lines) rfl
theorem Txt.F_Either_made (T : Txt K mg) : ∃ fd, FunD K "made" "Kind.made" (defArgs s_Kind_made) (defBody s_Kind_made) (defScope s_Kind_made) [] [] (fAd K ("Either", some "made")) fd := T.c.def_ 41 (d := d_Either_made) rfl
theorem Txt.F_Odd_lines (T : Txt K mg) : ∃ fd, FunD K "lines" "Kind.lines" (defArgs s_Kind_lines) (defBody s_Kind_lines) (defScope s_Kind_lines) [] [] (fAd K ("Odd", some "lines")) fd := T.c.def_ 42 (d := d_Odd_lines) rfl
theorem Txt.F_Odd_made (T : Txt K mg) : ∃ fd, FunD K "made" "Kind.made" (defArgs s_Kind_made) (defBody s_Kind_made) (defScope s_Kind_made) [] [] (fAd K ("Odd", some "made")) fd := T.c.def_ 43 (d := d_Odd_made) rfl
theorem Txt.F_Plus_lines (T : Txt K mg) : ∃ fd, FunD K "lines" "Kind.lines" (defArgs s_Kind_lines) (defBody s_Kind_lines) (defScope s_Kind_lines) [] [] (fAd K ("Plus", some "lines")) fd := T.c.def_ 44 (d := d_Plus_lines) rfl
theorem Txt.F_Plus_made (T : Txt K mg) : ∃ fd, FunD K "made" "Kind.made" (defArgs s_Kind_made) (defBody s_Kind_made) (defScope s_Kind_made) [] [] (fAd K ("Plus", some "made")) fd := T.c.def_ 45 (d := d_Plus_made) rfl
theorem Txt.F_Pick_made (T : Txt K mg) : ∃ fd, FunD K "made" "Kind.made" (defArgs s_Kind_made) (defBody s_Kind_made) (defScope s_Kind_made) [] [] (fAd K ("Pick", some "made")) fd := T.c.def_ 46 (d := d_Pick_made) rfl
theorem Txt.F_Up_made (T : Txt K mg) : ∃ fd, FunD K "made" "Kind.made" (defArgs s_Kind_made) (defBody s_Kind_made) (defScope s_Kind_made) [] [] (fAd K ("Up", some "made")) fd := T.c.def_ 47 (d := d_Up_made) rfl
theorem Txt.F_Down_made (T : Txt K mg) : ∃ fd, FunD K "made" "Kind.made" (defArgs s_Kind_made) (defBody s_Kind_made) (defScope s_Kind_made) [] [] (fAd K ("Down", some "made")) fd := T.c.def_ 48 (d := d_Down_made) rfl
end
end SW
namespace SW
open PySem PySem.Spec PyProof.Rows L2 He
theorem run1 (w : World) (os : OsState) : (HandSHeadRun.endF (HandSHeadRun.stepQ (HandSHeadRun.denQ HandSHeadRun.tabQ) R.prog w) 8000 R.prog w os).map (fun s => (HandSHeadRun.looksF R.prog (PySem.W.boot_heap w.params) s.abs, HandSHeadRun.seenQ (PySem.W.view R.prog [18]) names (importedModules R.prog.main.body) (fun s => PySem.W.xlAt (PySem.W.view R.prog [18]) [] s && PySem.W.recOk R.toRowW.records s) s.abs)) = some (true, PySem.W.openGood (PySem.W.view R.prog [18]) names) := by
  kernel_rfl
theorem run2 (w : World) (os : OsState) : (HandSHeadRun.endF (HandSHeadRun.stepQ (HandSHeadRun.denQ HandSHeadRun.tabQ) R.prog w) 8000 R.prog w os).map ob = some (hk.val w) := by
  kernel_rfl
theorem run (w : World) : HandSHeadRun.RunEq R (PySem.W.view R.prog [18]) hk ob 8000 names w := run_join (run1 w) (run2 w)
end SW
/-! ### texts as lists of signs -/
namespace SW
open PySem PySem.Spec PyProof.Rows L2 He TL
theorem strip_tl (x y : Str) : Txt.stripChars x y = Txt.stripBy y.cps.contains true true x := rfl
theorem takeWhile_len {p : Nat → Bool} : ∀ {l : List Nat}, (l.takeWhile p).length = l.length → ∀ c ∈ l, p c = true
  | [], _, c, h => by cases h
  | a :: r, e, c, h => by
    cases q : p a with
    | false =>
      rw [List.takeWhile_cons, q] at e
      simp at e
    | true =>
      rw [List.takeWhile_cons, q] at e
      simp only [if_true, List.length_cons, Nat.add_right_cancel_iff] at e
      rcases List.mem_cons.mp h with rfl | h
      · exact q
      · exact takeWhile_len e c h
theorem takeWhile_all {p : Nat → Bool} : ∀ {l : List Nat}, (∀ c ∈ l, p c = true) → l.takeWhile p = l
  | [], _ => rfl
  | a :: r, h => by
    rw [List.takeWhile_cons, h a (List.mem_cons_self ..)]
    simp only [if_true]
    rw [takeWhile_all fun c hc => h c (List.mem_cons_of_mem _ hc)]
theorem drop_take_head {p : Nat → Bool} : ∀ (l : List Nat) {c : Nat} {r : List Nat}, l.drop (l.takeWhile p).length = c :: r → p c = false
  | [], c, r, h => by simp at h
  | a :: l, c, r, h => by
    cases q : p a with
    | false =>
      rw [List.takeWhile_cons, q] at h
      simp at h
      rw [← h.1]
      exact q
    | true =>
      rw [List.takeWhile_cons, q] at h
      simp only [if_true, List.length_cons, List.drop_succ_cons] at h
      exact drop_take_head l h
theorem strip_nil (x y : Str) : tl (Txt.stripChars x y) = [] ↔ ∀ c ∈ tl x, c ∈ tl y := by
  have hg : ∀ c, y.cps.contains c = true ↔ c ∈ tl y := fun c => by simp [tl]
  rw [strip_tl, PySem.W.stripBy_eq]
  show tl (Builtin.Str.strSub x _ _) = [] ↔ _
  rw [tl_strSub]
  show (((tl x).drop ((tl x).takeWhile y.cps.contains).length).take (x.length - (((tl x).drop ((tl x).takeWhile y.cps.contains).length).reverse.takeWhile y.cps.contains).length - ((tl x).takeWhile y.cps.contains).length)) = [] ↔ _
  constructor
  · intro h
    cases e : (tl x).drop ((tl x).takeWhile y.cps.contains).length with
    | nil =>
      have hl : ((tl x).takeWhile y.cps.contains).length = (tl x).length := by
        have h1 := List.drop_eq_nil_iff.mp e
        have h2 := (List.takeWhile_sublist (l := tl x) y.cps.contains).length_le
        omega
      exact fun c hc => (hg c).mp (takeWhile_len hl c hc)
    | cons c r =>
      exfalso
      have hc := drop_take_head (tl x) e
      have hl : (tl x).length = ((tl x).takeWhile y.cps.contains).length + (r.length + 1) := by
        have := congrArg List.length e
        rw [List.length_drop, List.length_cons] at this
        omega
      rw [e] at h
      have hr : ((c :: r).reverse.takeWhile y.cps.contains).length < r.length + 1 := by
        refine Nat.lt_of_le_of_ne ?_ fun z => ?_
        · have := (List.takeWhile_sublist (l := (c :: r).reverse) y.cps.contains).length_le
          simpa using this
        · have := takeWhile_len (l := (c :: r).reverse) (p := y.cps.contains) (by simpa using z) c (by simp)
          rw [hc] at this
          cases this
      rw [len_tl, hl] at h
      have h3 := congrArg List.length h
      rw [List.length_take, List.length_cons, List.length_nil] at h3
      omega
  · intro h
    have e : (tl x).takeWhile y.cps.contains = tl x := takeWhile_all fun c hc => (hg c).mpr (h c hc)
    rw [e, List.drop_length, List.take_nil]
theorem tl_nil {x : Str} : tl x = [] ↔ x = Str.empty := ⟨fun h => ext_tl (by rw [h]; rfl), fun h => by rw [h]; rfl⟩
theorem starts1 (x y : Str) (c : Nat) (hy : tl y = [c]) : Txt.startswith x y = ((tl x).head? == some c) := by
  have hl : y.length = 1 := by rw [len_tl, hy]; rfl
  show (decide (0 + y.length ≤ x.length) && Builtin.Str.subAt x y 0) = _
  rw [StrLaws.subAt_eq, hl]
  show (decide (0 + 1 ≤ x.length) && ((tl x).drop 0).take 1 == tl y) = _
  rw [hy, len_tl]
  cases e : tl x with
  | nil => rfl
  | cons a r =>
    simp only [List.length_cons, List.drop_zero, List.head?_cons]
    rw [show decide (0 + 1 ≤ r.length + 1) = true from decide_eq_true (by omega)]
    rw [Bool.eq_iff_iff]
    simp
/-- how numbers stand in a text: figures, no nought ahead of others, at most four, at most so great -/
def isDig (c : Nat) : Bool := decide (48 ≤ c) && decide (c ≤ 57)
theorem isDig_iff (c : Nat) : isDig c = true ↔ 48 ≤ c ∧ c ≤ 57 := by simp [isDig]
def figs : Str := "0123456789"
theorem tl_figs : tl figs = [48, 49, 50, 51, 52, 53, 54, 55, 56, 57] := by decide +kernel
theorem mem_figs (c : Nat) : c ∈ tl figs ↔ isDig c = true := by
  rw [tl_figs, isDig_iff]
  simp only [List.mem_cons, List.not_mem_nil, or_false]
  omega
/-- the number that the signs tell, -1 where none -/
def numIn (cs : List Nat) (most : Int) : Int :=
  if cs = [] ∨ 4 < cs.length ∨ cs.all isDig = false then -1
  else if (cs.head? = some 48 ∧ 1 < cs.length) ∨ most < (NumText.digitsVal cs : Int) then -1
  else (NumText.digitsVal cs : Int)
theorem numIn_ge (cs : List Nat) (most : Int) : -1 ≤ numIn cs most := by
  unfold numIn
  split
  · omega
  · split <;> omega
theorem numIn_le (cs : List Nat) {most : Int} (h : -1 ≤ most) : numIn cs most ≤ most := by
  unfold numIn
  split
  · omega
  · split
    · omega
    · rename_i h2
      omega
/-- what is written is read: the figures of n, for n at most so great and below 10000 -/
theorem numL_head {n : Nat} (h : 10 ≤ n) : (numL n).head? ≠ some 48 := by
  induction n using Nat.strongRecOn with
  | ind n ih =>
    rw [numL_step h]
    by_cases h2 : n / 10 < 10
    · rw [numL_lt h2]
      simp
      omega
    · have := ih (n / 10) (by omega) (by omega)
      intro e
      cases q : numL (n / 10) with
      | nil => exact numL_ne _ q
      | cons a r =>
        rw [q] at e this
        exact this e
theorem numIn_num {n : Nat} {most : Int} (h : (n : Int) ≤ most) (h4 : n < 10000) : numIn (numL n) most = (n : Int) := by
  have h1 : numL n ≠ [] := numL_ne n
  have h2 : (numL n).length ≤ 4 := numL_len (by decide) (by omega)
  have h3 : (numL n).all isDig = true := by
    rw [List.all_eq_true]
    exact fun c hc => (isDig_iff c).mpr (numL_digits n c hc)
  unfold numIn
  have hn : ¬ (numL n = [] ∨ 4 < (numL n).length ∨ (numL n).all isDig = false) := by
    rintro (e | e | e)
    · exact h1 e
    · omega
    · rw [h3] at e
      cases e
  rw [if_neg hn, numL_val]
  rw [if_neg]
  rintro (⟨e, e2⟩ | e)
  · by_cases h10 : 10 ≤ n
    · exact numL_head h10 e
    · rw [numL_lt (by omega)] at e2
      simp at e2
  · omega

theorem takeWhile_ne {c : Nat} : ∀ {l : List Nat}, c ∉ l → l.takeWhile (· != c) = l ∧ l.dropWhile (· != c) = []
  | [], _ => ⟨rfl, rfl⟩
  | a :: r, h => by
    have h1 : a ≠ c := fun e => h (by rw [e]; exact List.mem_cons_self ..)
    have h2 := takeWhile_ne (l := r) fun m => h (List.mem_cons_of_mem _ m)
    have h3 : (a != c) = true := bne_iff_ne.mpr h1
    rw [List.takeWhile_cons, List.dropWhile_cons, h3]
    simp only [if_true]
    exact ⟨by rw [h2.1], h2.2⟩
theorem takeWhile_split {c : Nat} : ∀ {l : List Nat}, c ∈ l → l = l.takeWhile (· != c) ++ c :: (l.dropWhile (· != c)).tail ∧ c ∉ l.takeWhile (· != c)
  | [], h => by cases h
  | a :: r, h => by
    by_cases e : a = c
    · subst e
      rw [List.takeWhile_cons, List.dropWhile_cons]
      simp
    · have h3 : (a != c) = true := bne_iff_ne.mpr e
      have h2 := takeWhile_split (l := r) ((List.mem_cons.mp h).resolve_left fun z => e z.symm)
      rw [List.takeWhile_cons, List.dropWhile_cons, h3]
      simp only [if_true, List.cons_append]
      refine ⟨congrArg _ h2.1, fun m => ?_⟩
      rcases List.mem_cons.mp m with z | z
      · exact e z.symm
      · exact h2.2 z
/-- a text parted by one sign -/
theorem part1 (z y : Str) (c : Nat) (hy : tl y = [c]) : tl (Txt.partition z y).1 = (tl z).takeWhile (· != c) ∧ (tl (Txt.partition z y).2.1 = [] ↔ c ∉ tl z) ∧ tl (Txt.partition z y).2.2 = ((tl z).dropWhile (· != c)).tail := by
  by_cases h : c ∈ tl z
  · obtain ⟨e, hn⟩ := takeWhile_split h
    have ez : z = (⟨((tl z).takeWhile (· != c)).toArray⟩ : Str) ++ y ++ (⟨((tl z).dropWhile (· != c)).tail.toArray⟩ : Str) := ext_tl (by
      rw [tl_append, tl_append, hy, tl_mk, tl_mk, List.append_assoc]
      exact e)
    have p := partition_app (y := y) (s := c) (S := []) hy (a := ⟨((tl z).takeWhile (· != c)).toArray⟩) (b := ⟨((tl z).dropWhile (· != c)).tail.toArray⟩) hn
    rw [← ez] at p
    rw [p]
    refine ⟨rfl, ⟨fun q => ?_, fun q => absurd h q⟩, rfl⟩
    rw [hy] at q
    cases q
  · have p := partition_none (y := y) (s := c) (S := []) hy (a := z) h
    obtain ⟨h1, h2⟩ := takeWhile_ne h
    rw [p, h1, h2]
    exact ⟨rfl, ⟨fun _ => h, fun _ => rfl⟩, rfl⟩
theorem part1_len (z y : Str) (c : Nat) (hy : tl y = [c]) : (Txt.partition z y).1.length ≤ z.length ∧ (Txt.partition z y).2.2.length ≤ z.length := by
  obtain ⟨h1, _, h2⟩ := part1 z y c hy
  rw [len_tl, len_tl, len_tl, h1, h2, List.length_tail]
  have := (List.takeWhile_sublist (l := tl z) (· != c)).length_le
  have := (List.dropWhile_sublist (l := tl z) (· != c)).length_le
  exact ⟨by omega, by omega⟩
end SW

/-! ### kinds of parts -/
namespace SW
open PySem PySem.Spec PyProof.Rows L2 He
inductive Kc where
  | src | snk | both | either | odd | plus | pick | up | down
  deriving DecidableEq
def Kc.nm : Kc → Str
  | .src => "Source" | .snk => "Sink" | .both => "Both" | .either => "Either" | .odd => "Odd" | .plus => "Plus" | .pick => "Pick" | .up => "Up" | .down => "Down"
structure Kd where
  c : Kc
  n : Int
  deriving DecidableEq
def Kc.cnt : Kc → Bool
  | .up => true | .down => true | _ => false
def Kd.flds (k : Kd) : List (Str × V) := match k.c with
  | .up => [("count", .int k.n)] | .down => [("count", .int k.n)] | _ => []
def KindAt (K : PySem.W.Frag) (H : Hp) (a : Addr) (k : Kd) : Prop := ∃ dx, H a = some (.ins (ga K k.c.nm) dx k.flds)
def Kc.lines : Kc → Nat
  | .src => 0 | .snk => 1 | .pick => 3 | .up => 1 | .down => 1 | _ => 2
def Kd.word (k : Kd) : Str := match k.c with
  | .src => "in" | .snk => "out" | .both => "and" | .either => "or" | .odd => "odd" | .plus => "plus" | .pick => "pick" | .up => ("up:" : Str) ++ (toString k.n : Str) | .down => ("down:" : Str) ++ (toString k.n : Str)
def Kd.ok (k : Kd) : Prop := k.c.cnt = true → 1 ≤ k.n ∧ k.n ≤ 63
def Kd.joined (k : Kd) (ns : List Int) : Int := match k.c, ns with
  | .snk, x :: _ => x
  | .both, x :: y :: _ => Builtin.bitAnd x y
  | .either, x :: y :: _ => Builtin.bitOr x y
  | .odd, x :: y :: _ => Builtin.bitXor x y
  | .plus, x :: y :: _ => x + y
  | .pick, x :: y :: z :: _ => if x = 0 then z else y
  | .up, x :: _ => x * 2 ^ k.n.toNat
  | .down, x :: _ => x / 2 ^ k.n.toNat
  | _, _ => 0
def Kd.made (k : Kd) (ns : List Int) (w : Int) : Int := Builtin.bitAnd (k.joined ns) (1 * 2 ^ w.toNat - 1)
def spLines (K : PySem.W.Frag) (c : Kc) : Sp := fun vs H Q _ => ∃ (a : Addr) (k : Kd), vs = [.ref a] ∧ KindAt K H a k ∧ k.c = c ∧ Q (.int (c.lines : Int)) H
def spWord (K : PySem.W.Frag) (c : Kc) : Sp := fun vs H Q _ => ∃ (a : Addr) (k : Kd), vs = [.ref a] ∧ KindAt K H a k ∧ k.c = c ∧ k.ok ∧ Q (.str k.word) H
def spJoined (K : PySem.W.Frag) (c : Kc) : Sp := fun vs H Q _ => ∃ (a : Addr) (k : Kd) (l : Addr) (ns : List Int), vs = [.ref a, .ref l] ∧ KindAt K H a k ∧ k.c = c ∧ k.ok ∧ SqL K H l (ns.map V.int) ∧ c.lines ≤ ns.length ∧ (∀ n ∈ ns, 0 ≤ n ∧ n < 2 ^ 64) ∧ Q (.int (k.joined ns)) H
def spMade (K : PySem.W.Frag) (c : Kc) : Sp := fun vs H Q _ => ∃ (a : Addr) (k : Kd) (l : Addr) (ns : List Int) (w : Int), vs = [.ref a, .ref l, .int w] ∧ KindAt K H a k ∧ k.c = c ∧ k.ok ∧ SqL K H l (ns.map V.int) ∧ c.lines ≤ ns.length ∧ (∀ n ∈ ns, 0 ≤ n ∧ n < 2 ^ 64) ∧ 0 ≤ w ∧ w ≤ 64 ∧ Q (.int (k.made ns w)) H
def spInitC (C : Addr) : Sp := fun vs H Q _ => ∃ (x dx : Addr) (n : Int), vs = [.ref x, .int n] ∧ H x = some (.ins C dx []) ∧ Q .non (upd H x (.ins C dx [("count", .int n)]))
theorem at0 {α : Type} (x : α) (r : List α) : atI (x :: r) 0 = some x := atI_nat (j := 0) rfl
theorem at1 {α : Type} (x y : α) (r : List α) : atI (x :: y :: r) 1 = some y := atI_nat (j := 1) rfl
theorem at2 {α : Type} (x y z : α) (r : List α) : atI (x :: y :: z :: r) 2 = some z := atI_nat (j := 2) rfl
theorem dgt (n : Int) (h : n.natAbs < 2 ^ 100) : n.natAbs.log2 < 1920 := by
  by_cases e : n.natAbs = 0
  · rw [e]
    decide
  · exact Nat.lt_trans ((Nat.log2_lt e).mpr h) (by decide)
theorem cons1 {α : Type} : ∀ {l : List α}, 1 ≤ l.length → ∃ x r, l = x :: r
  | [], h => by simp at h
  | x :: r, _ => ⟨x, r, rfl⟩
theorem cons2 {α : Type} {l : List α} (h : 2 ≤ l.length) : ∃ x y r, l = x :: y :: r := by
  obtain ⟨x, l, rfl⟩ := cons1 (Nat.le_trans (by decide) h)
  obtain ⟨y, r, rfl⟩ := cons1 (l := l) (Nat.le_of_succ_le_succ h)
  exact ⟨x, y, r, rfl⟩
theorem cons3 {α : Type} {l : List α} (h : 3 ≤ l.length) : ∃ x y z r, l = x :: y :: z :: r := by
  obtain ⟨x, l, rfl⟩ := cons1 (Nat.le_trans (by decide) h)
  obtain ⟨y, z, r, rfl⟩ := cons2 (l := l) (Nat.le_of_succ_le_succ h)
  exact ⟨x, y, z, r, rfl⟩
theorem num_len {n : Int} (h0 : 0 ≤ n) (h : n < 10000) : (Str.ofString (toString n)).length ≤ 4 := by
  obtain ⟨m, rfl⟩ := Int.eq_ofNat_of_zero_le h0
  rw [TL.len_tl, TL.tl_num]
  exact TL.numL_len (by decide) (by omega)
theorem up_len : ("up:" : Str).length = 3 := by decide +kernel
theorem down_len : ("down:" : Str).length = 5 := by decide +kernel
theorem Txt.ck {K : PySem.W.Frag} {mg : Str → Option Value} (T : Txt K mg) : ∀ c : Kc, Cls K (ga K c.nm)
  | .src => T.c_Source | .snk => T.c_Sink | .both => T.c_Both | .either => T.c_Either | .odd => T.c_Odd | .plus => T.c_Plus | .pick => T.c_Pick | .up => T.c_Up | .down => T.c_Down
theorem Txt.mk_lines_ {K : PySem.W.Frag} {mg : Str → Option Value} (T : Txt K mg) : ∀ c : Kc, Meth K (ga K c.nm) "lines" (ma K (ga K c.nm) "lines")
  | .src => T.m_Source_lines | .snk => T.m_Sink_lines | .both => T.m_Both_lines | .either => T.m_Either_lines | .odd => T.m_Odd_lines | .plus => T.m_Plus_lines | .pick => T.m_Pick_lines | .up => T.m_Up_lines | .down => T.m_Down_lines
theorem Txt.mk_word_ {K : PySem.W.Frag} {mg : Str → Option Value} (T : Txt K mg) : ∀ c : Kc, Meth K (ga K c.nm) "word" (ma K (ga K c.nm) "word")
  | .src => T.m_Source_word | .snk => T.m_Sink_word | .both => T.m_Both_word | .either => T.m_Either_word | .odd => T.m_Odd_word | .plus => T.m_Plus_word | .pick => T.m_Pick_word | .up => T.m_Up_word | .down => T.m_Down_word
theorem Txt.mk_joined_ {K : PySem.W.Frag} {mg : Str → Option Value} (T : Txt K mg) : ∀ c : Kc, Meth K (ga K c.nm) "joined" (ma K (ga K c.nm) "joined")
  | .src => T.m_Source_joined | .snk => T.m_Sink_joined | .both => T.m_Both_joined | .either => T.m_Either_joined | .odd => T.m_Odd_joined | .plus => T.m_Plus_joined | .pick => T.m_Pick_joined | .up => T.m_Up_joined | .down => T.m_Down_joined
theorem Txt.mk_made_ {K : PySem.W.Frag} {mg : Str → Option Value} (T : Txt K mg) : ∀ c : Kc, Meth K (ga K c.nm) "made" (ma K (ga K c.nm) "made")
  | .src => T.m_Source_made | .snk => T.m_Sink_made | .both => T.m_Both_made | .either => T.m_Either_made | .odd => T.m_Odd_made | .plus => T.m_Plus_made | .pick => T.m_Pick_made | .up => T.m_Up_made | .down => T.m_Down_made
theorem flds_no (k : Kd) {m : Str} (h : m ≠ "count") : k.flds.lookup m = none := by
  obtain ⟨c, n⟩ := k
  cases c <;> first | rfl | (show List.lookup m [(("count" : Str), V.int n)] = none; rw [List.lookup_cons, beq_eq_false_iff_ne.mpr h]; rfl)
section
variable {P : Program} {w : World} {K : PySem.W.Frag} {mg : Str → Option Value} {base : Heap}
theorem ok_Source_lines (T : Txt K mg) : Ok P w K mg base 1 (ma K (ga K "Source") "lines") ["self"] (spLines K .src) := by
  refine mkOk T.F_Source_lines sc_Source_lines (fun _ _ _ _ _ _ us hl => match us, hl with | [_], _ => rfl) (by rintro vs H Q E ⟨_, _, rfl, _⟩; rfl) (fun cdv A outer s H vs Q E hr h => ?_)
  obtain ⟨a, k, rfl, ha, hc, q⟩ := h
  exact ⟨_, (pss_one (ps_ret pe_int)), q⟩
theorem ok_Source_word (T : Txt K mg) : Ok P w K mg base 1 (ma K (ga K "Source") "word") ["self"] (spWord K .src) := by
  refine mkOk T.F_Source_word sc_Source_word (fun _ _ _ _ _ _ us hl => match us, hl with | [_], _ => rfl) (by rintro vs H Q E ⟨_, _, rfl, _⟩; rfl) (fun cdv A outer s H vs Q E hr h => ?_)
  obtain ⟨a, ⟨c, n⟩, rfl, ⟨dx, ha⟩, hc, hk, q⟩ := h
  cases (show c = .src from hc)
  exact ⟨_, (pss_one (ps_ret pe_str)), q⟩
theorem ok_Sink_lines (T : Txt K mg) : Ok P w K mg base 1 (ma K (ga K "Sink") "lines") ["self"] (spLines K .snk) := by
  refine mkOk T.F_Sink_lines sc_Sink_lines (fun _ _ _ _ _ _ us hl => match us, hl with | [_], _ => rfl) (by rintro vs H Q E ⟨_, _, rfl, _⟩; rfl) (fun cdv A outer s H vs Q E hr h => ?_)
  obtain ⟨a, k, rfl, ha, hc, q⟩ := h
  exact ⟨_, (pss_one (ps_ret pe_int)), q⟩
theorem ok_Sink_word (T : Txt K mg) : Ok P w K mg base 1 (ma K (ga K "Sink") "word") ["self"] (spWord K .snk) := by
  refine mkOk T.F_Sink_word sc_Sink_word (fun _ _ _ _ _ _ us hl => match us, hl with | [_], _ => rfl) (by rintro vs H Q E ⟨_, _, rfl, _⟩; rfl) (fun cdv A outer s H vs Q E hr h => ?_)
  obtain ⟨a, ⟨c, n⟩, rfl, ⟨dx, ha⟩, hc, hk, q⟩ := h
  cases (show c = .snk from hc)
  exact ⟨_, (pss_one (ps_ret pe_str)), q⟩
theorem ok_Both_lines (T : Txt K mg) : Ok P w K mg base 1 (ma K (ga K "Both") "lines") ["self"] (spLines K .both) := by
  refine mkOk T.F_Both_lines sc_Kind_lines (fun _ _ _ _ _ _ us hl => match us, hl with | [_], _ => rfl) (by rintro vs H Q E ⟨_, _, rfl, _⟩; rfl) (fun cdv A outer s H vs Q E hr h => ?_)
  obtain ⟨a, k, rfl, ha, hc, q⟩ := h
  exact ⟨_, (pss_one (ps_ret pe_int)), q⟩
theorem ok_Both_word (T : Txt K mg) : Ok P w K mg base 1 (ma K (ga K "Both") "word") ["self"] (spWord K .both) := by
  refine mkOk T.F_Both_word sc_Both_word (fun _ _ _ _ _ _ us hl => match us, hl with | [_], _ => rfl) (by rintro vs H Q E ⟨_, _, rfl, _⟩; rfl) (fun cdv A outer s H vs Q E hr h => ?_)
  obtain ⟨a, ⟨c, n⟩, rfl, ⟨dx, ha⟩, hc, hk, q⟩ := h
  cases (show c = .both from hc)
  exact ⟨_, (pss_one (ps_ret pe_str)), q⟩
theorem ok_Either_lines (T : Txt K mg) : Ok P w K mg base 1 (ma K (ga K "Either") "lines") ["self"] (spLines K .either) := by
  refine mkOk T.F_Either_lines sc_Kind_lines (fun _ _ _ _ _ _ us hl => match us, hl with | [_], _ => rfl) (by rintro vs H Q E ⟨_, _, rfl, _⟩; rfl) (fun cdv A outer s H vs Q E hr h => ?_)
  obtain ⟨a, k, rfl, ha, hc, q⟩ := h
  exact ⟨_, (pss_one (ps_ret pe_int)), q⟩
theorem ok_Either_word (T : Txt K mg) : Ok P w K mg base 1 (ma K (ga K "Either") "word") ["self"] (spWord K .either) := by
  refine mkOk T.F_Either_word sc_Either_word (fun _ _ _ _ _ _ us hl => match us, hl with | [_], _ => rfl) (by rintro vs H Q E ⟨_, _, rfl, _⟩; rfl) (fun cdv A outer s H vs Q E hr h => ?_)
  obtain ⟨a, ⟨c, n⟩, rfl, ⟨dx, ha⟩, hc, hk, q⟩ := h
  cases (show c = .either from hc)
  exact ⟨_, (pss_one (ps_ret pe_str)), q⟩
theorem ok_Odd_lines (T : Txt K mg) : Ok P w K mg base 1 (ma K (ga K "Odd") "lines") ["self"] (spLines K .odd) := by
  refine mkOk T.F_Odd_lines sc_Kind_lines (fun _ _ _ _ _ _ us hl => match us, hl with | [_], _ => rfl) (by rintro vs H Q E ⟨_, _, rfl, _⟩; rfl) (fun cdv A outer s H vs Q E hr h => ?_)
  obtain ⟨a, k, rfl, ha, hc, q⟩ := h
  exact ⟨_, (pss_one (ps_ret pe_int)), q⟩
theorem ok_Odd_word (T : Txt K mg) : Ok P w K mg base 1 (ma K (ga K "Odd") "word") ["self"] (spWord K .odd) := by
  refine mkOk T.F_Odd_word sc_Odd_word (fun _ _ _ _ _ _ us hl => match us, hl with | [_], _ => rfl) (by rintro vs H Q E ⟨_, _, rfl, _⟩; rfl) (fun cdv A outer s H vs Q E hr h => ?_)
  obtain ⟨a, ⟨c, n⟩, rfl, ⟨dx, ha⟩, hc, hk, q⟩ := h
  cases (show c = .odd from hc)
  exact ⟨_, (pss_one (ps_ret pe_str)), q⟩
theorem ok_Plus_lines (T : Txt K mg) : Ok P w K mg base 1 (ma K (ga K "Plus") "lines") ["self"] (spLines K .plus) := by
  refine mkOk T.F_Plus_lines sc_Kind_lines (fun _ _ _ _ _ _ us hl => match us, hl with | [_], _ => rfl) (by rintro vs H Q E ⟨_, _, rfl, _⟩; rfl) (fun cdv A outer s H vs Q E hr h => ?_)
  obtain ⟨a, k, rfl, ha, hc, q⟩ := h
  exact ⟨_, (pss_one (ps_ret pe_int)), q⟩
theorem ok_Plus_word (T : Txt K mg) : Ok P w K mg base 1 (ma K (ga K "Plus") "word") ["self"] (spWord K .plus) := by
  refine mkOk T.F_Plus_word sc_Plus_word (fun _ _ _ _ _ _ us hl => match us, hl with | [_], _ => rfl) (by rintro vs H Q E ⟨_, _, rfl, _⟩; rfl) (fun cdv A outer s H vs Q E hr h => ?_)
  obtain ⟨a, ⟨c, n⟩, rfl, ⟨dx, ha⟩, hc, hk, q⟩ := h
  cases (show c = .plus from hc)
  exact ⟨_, (pss_one (ps_ret pe_str)), q⟩
theorem ok_Pick_lines (T : Txt K mg) : Ok P w K mg base 1 (ma K (ga K "Pick") "lines") ["self"] (spLines K .pick) := by
  refine mkOk T.F_Pick_lines sc_Pick_lines (fun _ _ _ _ _ _ us hl => match us, hl with | [_], _ => rfl) (by rintro vs H Q E ⟨_, _, rfl, _⟩; rfl) (fun cdv A outer s H vs Q E hr h => ?_)
  obtain ⟨a, k, rfl, ha, hc, q⟩ := h
  exact ⟨_, (pss_one (ps_ret pe_int)), q⟩
theorem ok_Pick_word (T : Txt K mg) : Ok P w K mg base 1 (ma K (ga K "Pick") "word") ["self"] (spWord K .pick) := by
  refine mkOk T.F_Pick_word sc_Pick_word (fun _ _ _ _ _ _ us hl => match us, hl with | [_], _ => rfl) (by rintro vs H Q E ⟨_, _, rfl, _⟩; rfl) (fun cdv A outer s H vs Q E hr h => ?_)
  obtain ⟨a, ⟨c, n⟩, rfl, ⟨dx, ha⟩, hc, hk, q⟩ := h
  cases (show c = .pick from hc)
  exact ⟨_, (pss_one (ps_ret pe_str)), q⟩
theorem ok_Up_lines (T : Txt K mg) : Ok P w K mg base 1 (ma K (ga K "Up") "lines") ["self"] (spLines K .up) := by
  refine mkOk T.F_Up_lines sc_Up_lines (fun _ _ _ _ _ _ us hl => match us, hl with | [_], _ => rfl) (by rintro vs H Q E ⟨_, _, rfl, _⟩; rfl) (fun cdv A outer s H vs Q E hr h => ?_)
  obtain ⟨a, k, rfl, ha, hc, q⟩ := h
  exact ⟨_, (pss_one (ps_ret pe_int)), q⟩
theorem ok_Up_word (T : Txt K mg) : Ok P w K mg base 1 (ma K (ga K "Up") "word") ["self"] (spWord K .up) := by
  refine mkOk T.F_Up_word sc_Up_word (fun _ _ _ _ _ _ us hl => match us, hl with | [_], _ => rfl) (by rintro vs H Q E ⟨_, _, rfl, _⟩; rfl) (fun cdv A outer s H vs Q E hr h => ?_)
  obtain ⟨a, ⟨c, n⟩, rfl, ⟨dx, ha⟩, hc, hk, q⟩ := h
  cases (show c = .up from hc)
  have h63 : 1 ≤ n ∧ n ≤ 63 := hk rfl
  have hl := num_len (n := n) (by omega) (by omega)
  refine ⟨_, (pss_one (ps_ret (pe_op op_add_str pe_str (pe_callTy call_str_int (by rfl) T.f_str (by decide +kernel) (pa_cons (pe_fldK (K := K) (pv 0) rfl) pa_nil))))), ?_⟩
  refine ⟨_, rfl, a, _, dx, _, _, rfl, ha, T.c_Up, T.n_Up_count, rfl, _, rfl, dgt n (Nat.lt_of_lt_of_le (by omega : n.natAbs < 64) (by decide)), _, _, rfl, rfl, ?_, q⟩
  exact Nat.le_trans (show ("up:" : Str).length + (Str.ofString (toString n)).length ≤ 100 by rw [up_len]; omega) (by decide)
theorem ok_Down_lines (T : Txt K mg) : Ok P w K mg base 1 (ma K (ga K "Down") "lines") ["self"] (spLines K .down) := by
  refine mkOk T.F_Down_lines sc_Down_lines (fun _ _ _ _ _ _ us hl => match us, hl with | [_], _ => rfl) (by rintro vs H Q E ⟨_, _, rfl, _⟩; rfl) (fun cdv A outer s H vs Q E hr h => ?_)
  obtain ⟨a, k, rfl, ha, hc, q⟩ := h
  exact ⟨_, (pss_one (ps_ret pe_int)), q⟩
theorem ok_Down_word (T : Txt K mg) : Ok P w K mg base 1 (ma K (ga K "Down") "word") ["self"] (spWord K .down) := by
  refine mkOk T.F_Down_word sc_Down_word (fun _ _ _ _ _ _ us hl => match us, hl with | [_], _ => rfl) (by rintro vs H Q E ⟨_, _, rfl, _⟩; rfl) (fun cdv A outer s H vs Q E hr h => ?_)
  obtain ⟨a, ⟨c, n⟩, rfl, ⟨dx, ha⟩, hc, hk, q⟩ := h
  cases (show c = .down from hc)
  have h63 : 1 ≤ n ∧ n ≤ 63 := hk rfl
  have hl := num_len (n := n) (by omega) (by omega)
  refine ⟨_, (pss_one (ps_ret (pe_op op_add_str pe_str (pe_callTy call_str_int (by rfl) T.f_str (by decide +kernel) (pa_cons (pe_fldK (K := K) (pv 0) rfl) pa_nil))))), ?_⟩
  refine ⟨_, rfl, a, _, dx, _, _, rfl, ha, T.c_Down, T.n_Down_count, rfl, _, rfl, dgt n (Nat.lt_of_lt_of_le (by omega : n.natAbs < 64) (by decide)), _, _, rfl, rfl, ?_, q⟩
  exact Nat.le_trans (show ("down:" : Str).length + (Str.ofString (toString n)).length ≤ 100 by rw [down_len]; omega) (by decide)
theorem ok_Source_joined (T : Txt K mg) : Ok P w K mg base 1 (ma K (ga K "Source") "joined") ["self", "numbers"] (spJoined K .src) := by
  refine mkOk T.F_Source_joined sc_Kind_joined (fun _ _ _ _ _ _ us hl => match us, hl with | [_, _], _ => rfl) (by rintro vs H Q E ⟨_, _, _, _, rfl, _⟩; rfl) (fun cdv A outer s H vs Q E hr h => ?_)
  obtain ⟨a, ⟨c, n⟩, l, ns, rfl, ⟨dx, ha⟩, hc, hk, hl, hn, hb, q⟩ := h
  cases (show c = .src from hc)
  exact ⟨_, (pss_one (ps_ret pe_int)), q⟩
theorem ok_Sink_joined (T : Txt K mg) : Ok P w K mg base 1 (ma K (ga K "Sink") "joined") ["self", "numbers"] (spJoined K .snk) := by
  refine mkOk T.F_Sink_joined sc_Sink_joined (fun _ _ _ _ _ _ us hl => match us, hl with | [_, _], _ => rfl) (by rintro vs H Q E ⟨_, _, _, _, rfl, _⟩; rfl) (fun cdv A outer s H vs Q E hr h => ?_)
  obtain ⟨a, ⟨c, n⟩, l, ns, rfl, ⟨dx, ha⟩, hc, hk, hl, hn, hb, q⟩ := h
  cases (show c = .snk from hc)
  obtain ⟨x, r, rfl⟩ := cons1 (show 1 ≤ ns.length from hn)
  refine ⟨_, (pss_one (ps_ret (pe_ix (ixL (K := K)) (pv 1) pe_int (fun _ _ => rfl)))), ?_⟩
  exact ⟨_, rfl, _, _, _, _, rfl, rfl, hl, at0 _ _, q⟩
theorem ok_Both_joined (T : Txt K mg) : Ok P w K mg base 1 (ma K (ga K "Both") "joined") ["self", "numbers"] (spJoined K .both) := by
  refine mkOk T.F_Both_joined sc_Both_joined (fun _ _ _ _ _ _ us hl => match us, hl with | [_, _], _ => rfl) (by rintro vs H Q E ⟨_, _, _, _, rfl, _⟩; rfl) (fun cdv A outer s H vs Q E hr h => ?_)
  obtain ⟨a, ⟨c, n⟩, l, ns, rfl, ⟨dx, ha⟩, hc, hk, hl, hn, hb, q⟩ := h
  cases (show c = .both from hc)
  obtain ⟨x, y, r, rfl⟩ := cons2 (show 2 ≤ ns.length from hn)
  refine ⟨_, (pss_one (ps_ret (pe_op op_and (pe_ix (ixL (K := K)) (pv 1) pe_int (fun _ _ => rfl)) (pe_ix (ixL (K := K)) (pv 1) pe_int (fun _ _ => rfl))))), ?_⟩
  exact ⟨_, rfl, _, _, _, _, rfl, rfl, hl, at0 _ _, _, rfl, _, _, _, _, rfl, rfl, hl, at1 _ _ _, _, _, rfl, rfl, q⟩
theorem ok_Either_joined (T : Txt K mg) : Ok P w K mg base 1 (ma K (ga K "Either") "joined") ["self", "numbers"] (spJoined K .either) := by
  refine mkOk T.F_Either_joined sc_Either_joined (fun _ _ _ _ _ _ us hl => match us, hl with | [_, _], _ => rfl) (by rintro vs H Q E ⟨_, _, _, _, rfl, _⟩; rfl) (fun cdv A outer s H vs Q E hr h => ?_)
  obtain ⟨a, ⟨c, n⟩, l, ns, rfl, ⟨dx, ha⟩, hc, hk, hl, hn, hb, q⟩ := h
  cases (show c = .either from hc)
  obtain ⟨x, y, r, rfl⟩ := cons2 (show 2 ≤ ns.length from hn)
  refine ⟨_, (pss_one (ps_ret (pe_op op_or (pe_ix (ixL (K := K)) (pv 1) pe_int (fun _ _ => rfl)) (pe_ix (ixL (K := K)) (pv 1) pe_int (fun _ _ => rfl))))), ?_⟩
  exact ⟨_, rfl, _, _, _, _, rfl, rfl, hl, at0 _ _, _, rfl, _, _, _, _, rfl, rfl, hl, at1 _ _ _, _, _, rfl, rfl, q⟩
theorem ok_Odd_joined (T : Txt K mg) : Ok P w K mg base 1 (ma K (ga K "Odd") "joined") ["self", "numbers"] (spJoined K .odd) := by
  refine mkOk T.F_Odd_joined sc_Odd_joined (fun _ _ _ _ _ _ us hl => match us, hl with | [_, _], _ => rfl) (by rintro vs H Q E ⟨_, _, _, _, rfl, _⟩; rfl) (fun cdv A outer s H vs Q E hr h => ?_)
  obtain ⟨a, ⟨c, n⟩, l, ns, rfl, ⟨dx, ha⟩, hc, hk, hl, hn, hb, q⟩ := h
  cases (show c = .odd from hc)
  obtain ⟨x, y, r, rfl⟩ := cons2 (show 2 ≤ ns.length from hn)
  refine ⟨_, (pss_one (ps_ret (pe_op op_xor (pe_ix (ixL (K := K)) (pv 1) pe_int (fun _ _ => rfl)) (pe_ix (ixL (K := K)) (pv 1) pe_int (fun _ _ => rfl))))), ?_⟩
  exact ⟨_, rfl, _, _, _, _, rfl, rfl, hl, at0 _ _, _, rfl, _, _, _, _, rfl, rfl, hl, at1 _ _ _, _, _, rfl, rfl, q⟩
theorem ok_Plus_joined (T : Txt K mg) : Ok P w K mg base 1 (ma K (ga K "Plus") "joined") ["self", "numbers"] (spJoined K .plus) := by
  refine mkOk T.F_Plus_joined sc_Plus_joined (fun _ _ _ _ _ _ us hl => match us, hl with | [_, _], _ => rfl) (by rintro vs H Q E ⟨_, _, _, _, rfl, _⟩; rfl) (fun cdv A outer s H vs Q E hr h => ?_)
  obtain ⟨a, ⟨c, n⟩, l, ns, rfl, ⟨dx, ha⟩, hc, hk, hl, hn, hb, q⟩ := h
  cases (show c = .plus from hc)
  obtain ⟨x, y, r, rfl⟩ := cons2 (show 2 ≤ ns.length from hn)
  refine ⟨_, (pss_one (ps_ret (pe_op op_add (pe_ix (ixL (K := K)) (pv 1) pe_int (fun _ _ => rfl)) (pe_ix (ixL (K := K)) (pv 1) pe_int (fun _ _ => rfl))))), ?_⟩
  exact ⟨_, rfl, _, _, _, _, rfl, rfl, hl, at0 _ _, _, rfl, _, _, _, _, rfl, rfl, hl, at1 _ _ _, _, _, rfl, rfl, q⟩
theorem ok_Pick_joined (T : Txt K mg) : Ok P w K mg base 1 (ma K (ga K "Pick") "joined") ["self", "numbers"] (spJoined K .pick) := by
  refine mkOk T.F_Pick_joined sc_Pick_joined (fun _ _ _ _ _ _ us hl => match us, hl with | [_, _], _ => rfl) (by rintro vs H Q E ⟨_, _, _, _, rfl, _⟩; rfl) (fun cdv A outer s H vs Q E hr h => ?_)
  obtain ⟨a, ⟨c, n⟩, l, ns, rfl, ⟨dx, ha⟩, hc, hk, hl, hn, hb, q⟩ := h
  cases (show c = .pick from hc)
  obtain ⟨x, y, z, r, rfl⟩ := cons3 (show 3 ≤ ns.length from hn)
  refine ⟨_, (pss_cons (ps_if (pt_cmpR op_ne (pe_ix (ixL (K := K)) (pv 1) pe_int (fun _ _ => rfl)) pe_int (nomark _)) (pss_one (ps_ret (pe_ix (ixL (K := K)) (pv 1) pe_int (fun _ _ => rfl)))) pss_nil)
      (pss_one (ps_ret (pe_ix (ixL (K := K)) (pv 1) pe_int (fun _ _ => rfl))))), ?_⟩
  refine ⟨_, rfl, _, _, _, _, rfl, rfl, hl, at0 _ _, rfl, _, rfl, ?_⟩
  refine ite2 (fun h0 => ?_) (fun h0 => ?_)
  · have hx : ¬ x = 0 := fun e => by rw [e] at h0; exact absurd h0 (by decide)
    refine ⟨_, rfl, _, _, _, _, rfl, rfl, hl, at1 _ _ _, ?_⟩
    have e : Kd.joined ⟨.pick, n⟩ (x :: y :: z :: r) = y := if_neg hx
    rw [e] at q
    exact q
  · have hx : x = 0 := Classical.byContradiction fun e => h0 (by rw [decide_eq_false (fun q : V.int x = V.int 0 => e (V.int.inj q))]; rfl)
    refine ⟨_, rfl, _, _, _, _, rfl, rfl, hl, at2 _ _ _ _, ?_⟩
    have e : Kd.joined ⟨.pick, n⟩ (x :: y :: z :: r) = z := if_pos hx
    rw [e] at q
    exact q
theorem ok_Up_joined (T : Txt K mg) : Ok P w K mg base 1 (ma K (ga K "Up") "joined") ["self", "numbers"] (spJoined K .up) := by
  refine mkOk T.F_Up_joined sc_Up_joined (fun _ _ _ _ _ _ us hl => match us, hl with | [_, _], _ => rfl) (by rintro vs H Q E ⟨_, _, _, _, rfl, _⟩; rfl) (fun cdv A outer s H vs Q E hr h => ?_)
  obtain ⟨a, ⟨c, n⟩, l, ns, rfl, ⟨dx, ha⟩, hc, hk, hl, hn, hb, q⟩ := h
  cases (show c = .up from hc)
  obtain ⟨x, r, rfl⟩ := cons1 (show 1 ≤ ns.length from hn)
  refine ⟨_, (pss_one (ps_ret (pe_op op_shl (pe_ix (ixL (K := K)) (pv 1) pe_int (fun _ _ => rfl)) (pe_fldK (K := K) (pv 0) rfl)))), ?_⟩
  have h63 : 1 ≤ n ∧ n ≤ 63 := hk rfl
  have hx := hb x (List.mem_cons_self ..)
  exact ⟨_, rfl, _, _, _, _, rfl, rfl, hl, at0 _ _, _, rfl, a, _, dx, _, _, rfl, ha, T.c_Up, T.n_Up_count, rfl, _, _, rfl, rfl, (show 0 ≤ n ∧ n ≤ 1000000 ∧ x.natAbs < 2 ^ 64 from ⟨by omega, by omega, by omega⟩), q⟩
theorem ok_Down_joined (T : Txt K mg) : Ok P w K mg base 1 (ma K (ga K "Down") "joined") ["self", "numbers"] (spJoined K .down) := by
  refine mkOk T.F_Down_joined sc_Down_joined (fun _ _ _ _ _ _ us hl => match us, hl with | [_, _], _ => rfl) (by rintro vs H Q E ⟨_, _, _, _, rfl, _⟩; rfl) (fun cdv A outer s H vs Q E hr h => ?_)
  obtain ⟨a, ⟨c, n⟩, l, ns, rfl, ⟨dx, ha⟩, hc, hk, hl, hn, hb, q⟩ := h
  cases (show c = .down from hc)
  obtain ⟨x, r, rfl⟩ := cons1 (show 1 ≤ ns.length from hn)
  refine ⟨_, (pss_one (ps_ret (pe_op op_shr (pe_ix (ixL (K := K)) (pv 1) pe_int (fun _ _ => rfl)) (pe_fldK (K := K) (pv 0) rfl)))), ?_⟩
  have h63 : 1 ≤ n ∧ n ≤ 63 := hk rfl
  have hx := hb x (List.mem_cons_self ..)
  exact ⟨_, rfl, _, _, _, _, rfl, rfl, hl, at0 _ _, _, rfl, a, _, dx, _, _, rfl, ha, T.c_Down, T.n_Down_count, rfl, _, _, rfl, rfl, (show 0 ≤ n by omega), q⟩
theorem ok_kind_joined (T : Txt K mg) : ∀ c : Kc, Ok P w K mg base 1 (ma K (ga K c.nm) "joined") ["self", "numbers"] (spJoined K c)
  | .src => ok_Source_joined T | .snk => ok_Sink_joined T | .both => ok_Both_joined T | .either => ok_Either_joined T | .odd => ok_Odd_joined T | .plus => ok_Plus_joined T | .pick => ok_Pick_joined T | .up => ok_Up_joined T | .down => ok_Down_joined T
theorem ok_Source_made (T : Txt K mg) : Ok P w K mg base 2 (ma K (ga K "Source") "made") ["self", "numbers", "width"] (spMade K .src) := by
  have G_kind_joined := ok_kind_joined (P := P) (w := w) (base := base) T
  refine mkOk T.F_Source_made sc_Kind_made (fun _ _ _ _ _ _ us hl => match us, hl with | [_, _, _], _ => rfl) (by rintro vs H Q E ⟨_, _, _, _, _, rfl, _⟩; rfl) (fun cdv A outer s H vs Q E hr h => ?_)
  obtain ⟨a, ⟨c, n⟩, l, ns, wd, rfl, hk0, hc, hk, hl, hn, hb, w0, w1, q⟩ := h
  have ⟨dx, ha⟩ := hk0
  cases (show c = .src from hc)
  refine ⟨_, (pss_one (ps_ret (pe_op op_and (pe_ex fun c => (G_kind_joined c).use fun fd F b => pe_meth (pv 0) (T.ck c) (T.mk_joined_ c) F (hr.mono (by decide)) b .nil pass0 (pa_cons (pv 1) pa_nil)) (pe_op op_sub (pe_op op_shl pe_int (pv 2)) pe_int)))), ?_⟩
  refine ⟨.src, _, rfl, a, dx, _, rfl, ha, flds_no _ (by decide +kernel), _, rfl, a, _, l, ns, rfl, hk0, rfl, hk, hl, hn, hb, ?_⟩
  exact ⟨_, rfl, _, _, rfl, rfl, ⟨w0, by omega, by decide⟩, _, _, rfl, rfl, _, _, rfl, rfl, q⟩
theorem ok_Sink_made (T : Txt K mg) : Ok P w K mg base 2 (ma K (ga K "Sink") "made") ["self", "numbers", "width"] (spMade K .snk) := by
  have G_kind_joined := ok_kind_joined (P := P) (w := w) (base := base) T
  refine mkOk T.F_Sink_made sc_Kind_made (fun _ _ _ _ _ _ us hl => match us, hl with | [_, _, _], _ => rfl) (by rintro vs H Q E ⟨_, _, _, _, _, rfl, _⟩; rfl) (fun cdv A outer s H vs Q E hr h => ?_)
  obtain ⟨a, ⟨c, n⟩, l, ns, wd, rfl, hk0, hc, hk, hl, hn, hb, w0, w1, q⟩ := h
  have ⟨dx, ha⟩ := hk0
  cases (show c = .snk from hc)
  refine ⟨_, (pss_one (ps_ret (pe_op op_and (pe_ex fun c => (G_kind_joined c).use fun fd F b => pe_meth (pv 0) (T.ck c) (T.mk_joined_ c) F (hr.mono (by decide)) b .nil pass0 (pa_cons (pv 1) pa_nil)) (pe_op op_sub (pe_op op_shl pe_int (pv 2)) pe_int)))), ?_⟩
  refine ⟨.snk, _, rfl, a, dx, _, rfl, ha, flds_no _ (by decide +kernel), _, rfl, a, _, l, ns, rfl, hk0, rfl, hk, hl, hn, hb, ?_⟩
  exact ⟨_, rfl, _, _, rfl, rfl, ⟨w0, by omega, by decide⟩, _, _, rfl, rfl, _, _, rfl, rfl, q⟩
theorem ok_Both_made (T : Txt K mg) : Ok P w K mg base 2 (ma K (ga K "Both") "made") ["self", "numbers", "width"] (spMade K .both) := by
  have G_kind_joined := ok_kind_joined (P := P) (w := w) (base := base) T
  refine mkOk T.F_Both_made sc_Kind_made (fun _ _ _ _ _ _ us hl => match us, hl with | [_, _, _], _ => rfl) (by rintro vs H Q E ⟨_, _, _, _, _, rfl, _⟩; rfl) (fun cdv A outer s H vs Q E hr h => ?_)
  obtain ⟨a, ⟨c, n⟩, l, ns, wd, rfl, hk0, hc, hk, hl, hn, hb, w0, w1, q⟩ := h
  have ⟨dx, ha⟩ := hk0
  cases (show c = .both from hc)
  refine ⟨_, (pss_one (ps_ret (pe_op op_and (pe_ex fun c => (G_kind_joined c).use fun fd F b => pe_meth (pv 0) (T.ck c) (T.mk_joined_ c) F (hr.mono (by decide)) b .nil pass0 (pa_cons (pv 1) pa_nil)) (pe_op op_sub (pe_op op_shl pe_int (pv 2)) pe_int)))), ?_⟩
  refine ⟨.both, _, rfl, a, dx, _, rfl, ha, flds_no _ (by decide +kernel), _, rfl, a, _, l, ns, rfl, hk0, rfl, hk, hl, hn, hb, ?_⟩
  exact ⟨_, rfl, _, _, rfl, rfl, ⟨w0, by omega, by decide⟩, _, _, rfl, rfl, _, _, rfl, rfl, q⟩
theorem ok_Either_made (T : Txt K mg) : Ok P w K mg base 2 (ma K (ga K "Either") "made") ["self", "numbers", "width"] (spMade K .either) := by
  have G_kind_joined := ok_kind_joined (P := P) (w := w) (base := base) T
  refine mkOk T.F_Either_made sc_Kind_made (fun _ _ _ _ _ _ us hl => match us, hl with | [_, _, _], _ => rfl) (by rintro vs H Q E ⟨_, _, _, _, _, rfl, _⟩; rfl) (fun cdv A outer s H vs Q E hr h => ?_)
  obtain ⟨a, ⟨c, n⟩, l, ns, wd, rfl, hk0, hc, hk, hl, hn, hb, w0, w1, q⟩ := h
  have ⟨dx, ha⟩ := hk0
  cases (show c = .either from hc)
  refine ⟨_, (pss_one (ps_ret (pe_op op_and (pe_ex fun c => (G_kind_joined c).use fun fd F b => pe_meth (pv 0) (T.ck c) (T.mk_joined_ c) F (hr.mono (by decide)) b .nil pass0 (pa_cons (pv 1) pa_nil)) (pe_op op_sub (pe_op op_shl pe_int (pv 2)) pe_int)))), ?_⟩
  refine ⟨.either, _, rfl, a, dx, _, rfl, ha, flds_no _ (by decide +kernel), _, rfl, a, _, l, ns, rfl, hk0, rfl, hk, hl, hn, hb, ?_⟩
  exact ⟨_, rfl, _, _, rfl, rfl, ⟨w0, by omega, by decide⟩, _, _, rfl, rfl, _, _, rfl, rfl, q⟩
theorem ok_Odd_made (T : Txt K mg) : Ok P w K mg base 2 (ma K (ga K "Odd") "made") ["self", "numbers", "width"] (spMade K .odd) := by
  have G_kind_joined := ok_kind_joined (P := P) (w := w) (base := base) T
  refine mkOk T.F_Odd_made sc_Kind_made (fun _ _ _ _ _ _ us hl => match us, hl with | [_, _, _], _ => rfl) (by rintro vs H Q E ⟨_, _, _, _, _, rfl, _⟩; rfl) (fun cdv A outer s H vs Q E hr h => ?_)
  obtain ⟨a, ⟨c, n⟩, l, ns, wd, rfl, hk0, hc, hk, hl, hn, hb, w0, w1, q⟩ := h
  have ⟨dx, ha⟩ := hk0
  cases (show c = .odd from hc)
  refine ⟨_, (pss_one (ps_ret (pe_op op_and (pe_ex fun c => (G_kind_joined c).use fun fd F b => pe_meth (pv 0) (T.ck c) (T.mk_joined_ c) F (hr.mono (by decide)) b .nil pass0 (pa_cons (pv 1) pa_nil)) (pe_op op_sub (pe_op op_shl pe_int (pv 2)) pe_int)))), ?_⟩
  refine ⟨.odd, _, rfl, a, dx, _, rfl, ha, flds_no _ (by decide +kernel), _, rfl, a, _, l, ns, rfl, hk0, rfl, hk, hl, hn, hb, ?_⟩
  exact ⟨_, rfl, _, _, rfl, rfl, ⟨w0, by omega, by decide⟩, _, _, rfl, rfl, _, _, rfl, rfl, q⟩
theorem ok_Plus_made (T : Txt K mg) : Ok P w K mg base 2 (ma K (ga K "Plus") "made") ["self", "numbers", "width"] (spMade K .plus) := by
  have G_kind_joined := ok_kind_joined (P := P) (w := w) (base := base) T
  refine mkOk T.F_Plus_made sc_Kind_made (fun _ _ _ _ _ _ us hl => match us, hl with | [_, _, _], _ => rfl) (by rintro vs H Q E ⟨_, _, _, _, _, rfl, _⟩; rfl) (fun cdv A outer s H vs Q E hr h => ?_)
  obtain ⟨a, ⟨c, n⟩, l, ns, wd, rfl, hk0, hc, hk, hl, hn, hb, w0, w1, q⟩ := h
  have ⟨dx, ha⟩ := hk0
  cases (show c = .plus from hc)
  refine ⟨_, (pss_one (ps_ret (pe_op op_and (pe_ex fun c => (G_kind_joined c).use fun fd F b => pe_meth (pv 0) (T.ck c) (T.mk_joined_ c) F (hr.mono (by decide)) b .nil pass0 (pa_cons (pv 1) pa_nil)) (pe_op op_sub (pe_op op_shl pe_int (pv 2)) pe_int)))), ?_⟩
  refine ⟨.plus, _, rfl, a, dx, _, rfl, ha, flds_no _ (by decide +kernel), _, rfl, a, _, l, ns, rfl, hk0, rfl, hk, hl, hn, hb, ?_⟩
  exact ⟨_, rfl, _, _, rfl, rfl, ⟨w0, by omega, by decide⟩, _, _, rfl, rfl, _, _, rfl, rfl, q⟩
theorem ok_Pick_made (T : Txt K mg) : Ok P w K mg base 2 (ma K (ga K "Pick") "made") ["self", "numbers", "width"] (spMade K .pick) := by
  have G_kind_joined := ok_kind_joined (P := P) (w := w) (base := base) T
  refine mkOk T.F_Pick_made sc_Kind_made (fun _ _ _ _ _ _ us hl => match us, hl with | [_, _, _], _ => rfl) (by rintro vs H Q E ⟨_, _, _, _, _, rfl, _⟩; rfl) (fun cdv A outer s H vs Q E hr h => ?_)
  obtain ⟨a, ⟨c, n⟩, l, ns, wd, rfl, hk0, hc, hk, hl, hn, hb, w0, w1, q⟩ := h
  have ⟨dx, ha⟩ := hk0
  cases (show c = .pick from hc)
  refine ⟨_, (pss_one (ps_ret (pe_op op_and (pe_ex fun c => (G_kind_joined c).use fun fd F b => pe_meth (pv 0) (T.ck c) (T.mk_joined_ c) F (hr.mono (by decide)) b .nil pass0 (pa_cons (pv 1) pa_nil)) (pe_op op_sub (pe_op op_shl pe_int (pv 2)) pe_int)))), ?_⟩
  refine ⟨.pick, _, rfl, a, dx, _, rfl, ha, flds_no _ (by decide +kernel), _, rfl, a, _, l, ns, rfl, hk0, rfl, hk, hl, hn, hb, ?_⟩
  exact ⟨_, rfl, _, _, rfl, rfl, ⟨w0, by omega, by decide⟩, _, _, rfl, rfl, _, _, rfl, rfl, q⟩
theorem ok_Up_made (T : Txt K mg) : Ok P w K mg base 2 (ma K (ga K "Up") "made") ["self", "numbers", "width"] (spMade K .up) := by
  have G_kind_joined := ok_kind_joined (P := P) (w := w) (base := base) T
  refine mkOk T.F_Up_made sc_Kind_made (fun _ _ _ _ _ _ us hl => match us, hl with | [_, _, _], _ => rfl) (by rintro vs H Q E ⟨_, _, _, _, _, rfl, _⟩; rfl) (fun cdv A outer s H vs Q E hr h => ?_)
  obtain ⟨a, ⟨c, n⟩, l, ns, wd, rfl, hk0, hc, hk, hl, hn, hb, w0, w1, q⟩ := h
  have ⟨dx, ha⟩ := hk0
  cases (show c = .up from hc)
  refine ⟨_, (pss_one (ps_ret (pe_op op_and (pe_ex fun c => (G_kind_joined c).use fun fd F b => pe_meth (pv 0) (T.ck c) (T.mk_joined_ c) F (hr.mono (by decide)) b .nil pass0 (pa_cons (pv 1) pa_nil)) (pe_op op_sub (pe_op op_shl pe_int (pv 2)) pe_int)))), ?_⟩
  refine ⟨.up, _, rfl, a, dx, _, rfl, ha, flds_no _ (by decide +kernel), _, rfl, a, _, l, ns, rfl, hk0, rfl, hk, hl, hn, hb, ?_⟩
  exact ⟨_, rfl, _, _, rfl, rfl, ⟨w0, by omega, by decide⟩, _, _, rfl, rfl, _, _, rfl, rfl, q⟩
theorem ok_Down_made (T : Txt K mg) : Ok P w K mg base 2 (ma K (ga K "Down") "made") ["self", "numbers", "width"] (spMade K .down) := by
  have G_kind_joined := ok_kind_joined (P := P) (w := w) (base := base) T
  refine mkOk T.F_Down_made sc_Kind_made (fun _ _ _ _ _ _ us hl => match us, hl with | [_, _, _], _ => rfl) (by rintro vs H Q E ⟨_, _, _, _, _, rfl, _⟩; rfl) (fun cdv A outer s H vs Q E hr h => ?_)
  obtain ⟨a, ⟨c, n⟩, l, ns, wd, rfl, hk0, hc, hk, hl, hn, hb, w0, w1, q⟩ := h
  have ⟨dx, ha⟩ := hk0
  cases (show c = .down from hc)
  refine ⟨_, (pss_one (ps_ret (pe_op op_and (pe_ex fun c => (G_kind_joined c).use fun fd F b => pe_meth (pv 0) (T.ck c) (T.mk_joined_ c) F (hr.mono (by decide)) b .nil pass0 (pa_cons (pv 1) pa_nil)) (pe_op op_sub (pe_op op_shl pe_int (pv 2)) pe_int)))), ?_⟩
  refine ⟨.down, _, rfl, a, dx, _, rfl, ha, flds_no _ (by decide +kernel), _, rfl, a, _, l, ns, rfl, hk0, rfl, hk, hl, hn, hb, ?_⟩
  exact ⟨_, rfl, _, _, rfl, rfl, ⟨w0, by omega, by decide⟩, _, _, rfl, rfl, _, _, rfl, rfl, q⟩
theorem ok_kind_made (T : Txt K mg) : ∀ c : Kc, Ok P w K mg base 2 (ma K (ga K c.nm) "made") ["self", "numbers", "width"] (spMade K c)
  | .src => ok_Source_made T | .snk => ok_Sink_made T | .both => ok_Both_made T | .either => ok_Either_made T | .odd => ok_Odd_made T | .plus => ok_Plus_made T | .pick => ok_Pick_made T | .up => ok_Up_made T | .down => ok_Down_made T
theorem ok_kind_lines (T : Txt K mg) : ∀ c : Kc, Ok P w K mg base 1 (ma K (ga K c.nm) "lines") ["self"] (spLines K c)
  | .src => ok_Source_lines T | .snk => ok_Sink_lines T | .both => ok_Both_lines T | .either => ok_Either_lines T | .odd => ok_Odd_lines T | .plus => ok_Plus_lines T | .pick => ok_Pick_lines T | .up => ok_Up_lines T | .down => ok_Down_lines T
theorem ok_kind_word (T : Txt K mg) : ∀ c : Kc, Ok P w K mg base 1 (ma K (ga K c.nm) "word") ["self"] (spWord K c)
  | .src => ok_Source_word T | .snk => ok_Sink_word T | .both => ok_Both_word T | .either => ok_Either_word T | .odd => ok_Odd_word T | .plus => ok_Plus_word T | .pick => ok_Pick_word T | .up => ok_Up_word T | .down => ok_Down_word T
theorem ok_Up_init (T : Txt K mg) : Ok P w K mg base 1 (ma K (ga K "Up") "__init__") ["self", "count"] (spInitC (ga K "Up")) := by
  refine mkOk T.F_Up_init sc_Up_init (fun _ _ _ _ _ _ us hl => match us, hl with | [_, _], _ => rfl) (by rintro vs H Q E ⟨_, _, _, rfl, _⟩; rfl) (fun cdv A outer s H vs Q E hr h => ?_)
  obtain ⟨x, dx, n, rfl, hx, q⟩ := h
  refine ⟨_, (pss_one (ps_fld (pv 0) (pv 1) rfl)), ?_⟩
  exact ⟨_, rfl, _, rfl, x, _, dx, [], rfl, hx, T.c_Up, T.n_Up_count, (by show 0 < 1000; decide), q⟩
theorem ok_Down_init (T : Txt K mg) : Ok P w K mg base 1 (ma K (ga K "Down") "__init__") ["self", "count"] (spInitC (ga K "Down")) := by
  refine mkOk T.F_Down_init sc_Down_init (fun _ _ _ _ _ _ us hl => match us, hl with | [_, _], _ => rfl) (by rintro vs H Q E ⟨_, _, _, rfl, _⟩; rfl) (fun cdv A outer s H vs Q E hr h => ?_)
  obtain ⟨x, dx, n, rfl, hx, q⟩ := h
  refine ⟨_, (pss_one (ps_fld (pv 0) (pv 1) rfl)), ?_⟩
  exact ⟨_, rfl, _, rfl, x, _, dx, [], rfl, hx, T.c_Down, T.n_Down_count, (by show 0 < 1000; decide), q⟩
end
end SW

/-! ### numbers and kinds read from words -/
namespace SW
open PySem PySem.Spec PyProof.Rows L2 He TL
theorem dstr (a b : Str) : decide (V.str a = V.str b) = decide (tl a = tl b) := by
  by_cases h : tl a = tl b
  · rw [decide_eq_true h, decide_eq_true (by rw [ext_tl h])]
  · rw [decide_eq_false h, decide_eq_false (fun q => h (by rw [V.str.inj q]))]
theorem tl_emp : tl ("" : Str) = [] := by decide +kernel
theorem tl_0 : tl ("0" : Str) = [48] := by decide +kernel
theorem tl_colon : tl (":" : Str) = [58] := by decide +kernel
theorem line_le {n : Nat} (h : n ≤ 100000) : n ≤ sizeLine := Nat.le_trans h (by decide)
def spNumberIn : Sp := fun vs H Q _ => ∃ (f : Str) (m : Int), vs = [.str f, .int m] ∧ f.length ≤ 100000 ∧ Q (.int (numIn (tl f) m)) H
section
variable {P : Program} {w : World} {K : PySem.W.Frag} {mg : Str → Option Value} {base : Heap}
theorem ok_number_in (T : Txt K mg) : Ok P w K mg base 1 (ga K "number_in") ["figures", "most"] spNumberIn := by
  refine mkOk T.F_number_in sc_number_in (fun _ _ _ _ _ _ us hl => match us, hl with | [_, _], _ => rfl) (by rintro vs H Q E ⟨_, _, rfl, _⟩; rfl) (fun cdv A outer s H vs Q E hr h => ?_)
  obtain ⟨f, m, rfl, hf, q⟩ := h
  refine ⟨_, (pss_cons (ps_if (PW.pt (pw_or (pt_cmpR op_eq (pv 0) pe_str (nomark _)) (pw_or (pt_cmpR op_gt (pe_callB call_len_str (by rfl) T.f_len (by decide +kernel) (pa_cons (pv 0) pa_nil)) pe_int (nomark _)) (pw_or1 (pt_cmpR op_ne (pe_bm PySem.F.plainAttrs_str PySem.F.slot_str_strip PySem.F.type_str_strip mt_stripChars (pv 0) (pa_cons pe_str pa_nil)) pe_str (nomark _)))))) (pss_one (ps_ret (pe_un un_neg pe_int))) pss_nil)
      (pss_cons (ps_if (PW.pt (pw_or (PW.pt (pw_and (pt_val (pe_m1 PySem.F.slot_str_startswith PySem.F.type_str_startswith mt_startswith (pv 0) pe_str)) (pw_and1 (pt_cmpR op_gt (pe_callB call_len_str (by rfl) T.f_len (by decide +kernel) (pa_cons (pv 0) pa_nil)) pe_int (nomark _))))) (pw_or1 (pt_cmpR op_gt (pe_callTy call_int_str (by rfl) T.f_int (by decide +kernel) (pa_cons (pv 0) pa_nil)) (pv 1) (nomark _))))) (pss_one (ps_ret (pe_un un_neg pe_int))) pss_nil)
      (pss_one (ps_ret (pe_callTy call_int_str (by rfl) T.f_int (by decide +kernel) (pa_cons (pv 0) pa_nil)))))), ?_⟩
  have hl := len_tl f
  have hst : tl (Txt.stripChars f "0123456789") = [] ↔ (tl f).all isDig = true := by
    rw [strip_nil, List.all_eq_true]
    exact ⟨fun h c hc => (mem_figs c).mp (h c hc), fun h c hc => (mem_figs c).mpr (h c hc)⟩
  have neg : numIn (tl f) m = -1 → ∀ (σ : L2.St) (D : Ends), D.rt = Q → tRet (tUn (rU fun i => .int (-i)) (tC (.int 1))) D σ H := fun e σ D hD => by
    rw [e] at q
    exact ⟨_, rfl, hD ▸ q⟩
  refine ⟨_, rfl, rfl, _, rfl, ?_⟩
  rw [dstr, tl_emp]
  refine ite2 (fun h1 => iteT ?_) (fun h1 => ?_)
  · exact neg (if_pos (.inl (of_decide_eq_true h1))) _ _ rfl
  replace h1 : ¬ tl f = [] := fun z => h1 (decide_eq_true z)
  refine ⟨_, rfl, _, rfl, line_le hf, _, _, rfl, rfl, _, rfl, ?_⟩
  refine ite2 (fun h2 => iteT ?_) (fun h2 => ?_)
  · have := of_decide_eq_true h2
    exact neg (if_pos (.inr (.inl (by omega)))) _ _ rfl
  replace h2 : ¬ 4 < (tl f).length := fun z => h2 (decide_eq_true (by omega))
  refine ⟨_, rfl, rfl, _, _, rfl, rfl, line_le hf, rfl, _, rfl, ?_⟩
  rw [dstr, tl_emp]
  refine ite2 (fun h3 => ?_) (fun h3 => ?_)
  · refine neg (if_pos (.inr (.inr ?_))) _ _ rfl
    cases e : (tl f).all isDig with
    | false => rfl
    | true =>
      rw [decide_eq_true (hst.mpr e)] at h3
      cases h3
  have h3' : (tl f).all isDig = true := by
    refine hst.mp (Classical.byContradiction fun z => h3 ?_)
    rw [decide_eq_false z]
    rfl
  have hv : PySem.intText? f = some ((NumText.digitsVal (tl f) : Nat) : Int) := PySem.intText_digits (fun c hc => (isDig_iff c).mp (List.all_eq_true.mp h3' c hc)) h1 (by omega)
  have hno : ¬ (tl f = [] ∨ 4 < (tl f).length ∨ (tl f).all isDig = false) := by
    rintro (e | e | e)
    · exact h1 e
    · exact h2 e
    · rw [h3'] at e
      cases e
  have hnum : numIn (tl f) m = if ((tl f).head? = some 48 ∧ 1 < (tl f).length) ∨ m < (NumText.digitsVal (tl f) : Int) then -1 else (NumText.digitsVal (tl f) : Int) := if_neg hno
  refine ⟨_, rfl, ⟨_, rfl⟩, _, _, rfl, rfl, _, rfl, ?_⟩
  rw [starts1 f "0" 48 tl_0]
  have rest : ∀ D : Ends, D.rt = Q → ((tl f).head? = some 48 ∧ 1 < (tl f).length → False) → m < (NumText.digitsVal (tl f) : Int) ∨ Q (.int (NumText.digitsVal (tl f) : Int)) H := fun D hD hh => by
    by_cases hm : m < (NumText.digitsVal (tl f) : Int)
    · exact .inl hm
    · rw [hnum, if_neg (by rintro (z | z); exact hh z; exact hm z)] at q
      exact .inr q
  refine ite2 (fun h4 => ?_) (fun h4 => ?_)
  · have h4' : (tl f).head? = some 48 := eq_of_beq h4
    refine ⟨_, rfl, _, rfl, line_le hf, _, _, rfl, rfl, _, rfl, ?_⟩
    refine ite2 (fun h5 => iteT ?_) (fun h5 => ?_)
    · have := of_decide_eq_true h5
      exact neg (by rw [hnum]; exact if_pos (.inl ⟨h4', by omega⟩)) _ _ rfl
    · have h5' : ¬ 1 < (tl f).length := fun z => h5 (decide_eq_true (by omega))
      refine ⟨_, rfl, _, _, rfl, hv, by omega, _, rfl, _, _, rfl, rfl, _, rfl, ?_⟩
      refine ite2 (fun h6 => ?_) (fun h6 => ?_)
      · have := of_decide_eq_true h6
        exact neg (by rw [hnum]; exact if_pos (.inr this)) _ _ rfl
      · refine ⟨_, rfl, _, _, rfl, hv, by omega, ?_⟩
        have h6' : ¬ m < (NumText.digitsVal (tl f) : Int) := fun z => h6 (decide_eq_true z)
        rw [hnum, if_neg (by rintro (z | z); exact h5' z.2; exact h6' z)] at q
        exact q
  · have h4' : ¬ (tl f).head? = some 48 := fun z => h4 (beq_iff_eq.mpr z)
    refine iteF ?_
    refine ⟨_, rfl, _, _, rfl, hv, by omega, _, rfl, _, _, rfl, rfl, _, rfl, ?_⟩
    refine ite2 (fun h6 => ?_) (fun h6 => ?_)
    · have := of_decide_eq_true h6
      exact neg (by rw [hnum]; exact if_pos (.inr this)) _ _ rfl
    · refine ⟨_, rfl, _, _, rfl, hv, by omega, ?_⟩
      have h6' : ¬ m < (NumText.digitsVal (tl f) : Int) := fun z => h6 (decide_eq_true z)
      rw [hnum, if_neg (by rintro (z | z); exact h4' z.1; exact h6' z)] at q
      exact q
end
/-! ### a kind by its word -/
def plainKinds : List Kd := [⟨.src, 0⟩, ⟨.snk, 0⟩, ⟨.both, 0⟩, ⟨.either, 0⟩, ⟨.odd, 0⟩, ⟨.plus, 0⟩, ⟨.pick, 0⟩]
def countedKind (z : Str) : Option Kd :=
  if numIn (tl (Txt.partition z ":").2.2) 63 < 1 then none
  else if tl (Txt.partition z ":").1 = tl "up" then some ⟨.up, numIn (tl (Txt.partition z ":").2.2) 63⟩
  else if tl (Txt.partition z ":").1 = tl "down" then some ⟨.down, numIn (tl (Txt.partition z ":").2.2) 63⟩
  else none
def kindBy (z : Str) : Option Kd := match plainKinds.find? (fun k => decide (tl k.word = tl z)) with
  | some k => some k
  | none => countedKind z
/-- a kind, newly made, or None -/
def KRes (K : PySem.W.Frag) (H H' : Hp) (v : V) : Option Kd → Prop
  | none => v = .non
  | some k => ∃ a, v = .ref a ∧ H a = none ∧ KindAt K H' a k
def spKindBy (K : PySem.W.Frag) : Sp := fun vs H Q _ => ∃ z : Str, vs = [.str z] ∧ z.length ≤ 100000 ∧ ∀ v H', Same H H' → KRes K H H' v (kindBy z) → Q v H'
theorem new_obj {H : Hp} {x dx C : Addr} (n : H x = none) (m : H dx = none) : Same H (upd (upd H dx (.own x)) x (.ins C dx [])) ∧ (upd (upd H dx (.own x)) x (.ins C dx [])) x = some (.ins C dx []) :=
  ⟨fun b o e => by rw [upd_ne (ne_of_none e n), upd_ne (ne_of_none e m)]; exact e, upd_same⟩
theorem Same.new {H : Hp} {p : Addr} {o : HO} (h : H p = none) : Same H (upd H p o) := fun b u e => by rw [upd_ne (ne_of_none e h)]; exact e
theorem KindAt.mono {K : PySem.W.Frag} {H H' : Hp} {a : Addr} {k : Kd} (e : Same H H') (h : KindAt K H a k) : KindAt K H' a k := by
  obtain ⟨dx, h⟩ := h
  exact ⟨dx, e _ _ h⟩
theorem plain_ok {k : Kd} (h : k ∈ plainKinds) : k.ok := by
  simp only [plainKinds, List.mem_cons, List.not_mem_nil, or_false] at h
  rcases h with rfl | rfl | rfl | rfl | rfl | rfl | rfl <;> (intro z; cases z)
section
variable {P : Program} {w : World} {K : PySem.W.Frag} {mg : Str → Option Value} {base : Heap}
theorem ok_kind_by (T : Txt K mg) : Ok P w K mg base 3 (ga K "kind_by") ["word"] (spKindBy K) := by
  have G_number_in := ok_number_in (P := P) (w := w) (base := base) T
  have G_kind_word := ok_kind_word (P := P) (w := w) (base := base) T
  have G_Up_init := ok_Up_init (P := P) (w := w) (base := base) T
  have G_Down_init := ok_Down_init (P := P) (w := w) (base := base) T
  refine mkOk T.F_kind_by sc_kind_by (fun _ _ _ _ _ _ us hl => match us, hl with | [_], _ => rfl) (by rintro vs H Q E ⟨_, rfl, _⟩; rfl) (fun cdv A outer s H vs Q E hr h => ?_)
  obtain ⟨z, rfl, hz, q⟩ := h
  refine ⟨_, (pss_cons (ps_for PassesOwn.never rfl (piT (K := K) (pe_tup (pa_cons (pe_makeO0 T.mo_Source T.g_Source) (pa_cons (pe_makeO0 T.mo_Sink T.g_Sink) (pa_cons (pe_makeO0 T.mo_Both T.g_Both) (pa_cons (pe_makeO0 T.mo_Either T.g_Either) (pa_cons (pe_makeO0 T.mo_Odd T.g_Odd) (pa_cons (pe_makeO0 T.mo_Plus T.g_Plus) (pa_cons (pe_makeO0 T.mo_Pick T.g_Pick) pa_nil))))))))) (pg_name (i := 1) sc_kind_by.nd rfl (by first | exact Or.inl rfl | exact Or.inr rfl))
      (pss_one (ps_if (pt_cmpR op_eq (pe_ex fun c => (G_kind_word c).use fun fd F b => pe_meth0 (pv 1) (T.ck c) (T.mk_word_ c) F (hr.mono (by decide)) b .nil pass0) (pv 0) (nomark _)) (pss_one (ps_ret (pv 1))) pss_nil)))
      (pss_cons (ps_asg (pe_partition (pv 0) pe_str) (pg_tup rfl (pgs_cons (pg_name (i := 2) sc_kind_by.nd rfl (by first | exact Or.inl rfl | exact Or.inr rfl)) (pgs_cons (pg_name (i := 3) sc_kind_by.nd rfl (by first | exact Or.inl rfl | exact Or.inr rfl)) (pgs_cons (pg_name (i := 4) sc_kind_by.nd rfl (by first | exact Or.inl rfl | exact Or.inr rfl)) pgs_nil)))))
      (pss_cons (ps_set (i := 5) sc_kind_by.nd rfl (by first | exact Or.inl rfl | exact Or.inr rfl) (pe_callO G_number_in (hr.mono (by decide)) T.g_number_in (pa_cons (pv 4) (pa_cons pe_int pa_nil))))
      (pss_cons (ps_if (pt_cmpR op_lt (pv 5) pe_int (nomark _)) (pss_one (ps_ret pe_non)) pss_nil)
      (pss_cons (ps_if (pt_cmpR op_eq (pv 2) pe_str (nomark _)) (pss_one (ps_ret (pe_makeO T.mk_Up G_Up_init (hr.mono (by decide)) T.g_Up (pa_cons (pv 5) pa_nil)))) pss_nil)
      (pss_cons (ps_if (pt_cmpR op_eq (pv 2) pe_str (nomark _)) (pss_one (ps_ret (pe_makeO T.mk_Down G_Down_init (hr.mono (by decide)) T.g_Down (pa_cons (pv 5) pa_nil)))) pss_nil)
      (pss_one (ps_ret pe_non)))))))), ?_⟩
  intro x0 d0 n0 m0 e0
  obtain ⟨s0, k0⟩ := new_obj (C := ga K "Source") n0 m0
  revert s0 k0
  generalize upd (upd H d0 (HO.own x0)) x0 (HO.ins (ga K "Source") d0 []) = H1
  intro s0 k0
  have t1 : Same H H1 := s0
  intro x1 d1 n1 m1 e1
  obtain ⟨s1, k1⟩ := new_obj (C := ga K "Sink") n1 m1
  revert s1 k1
  generalize upd (upd H1 d1 (HO.own x1)) x1 (HO.ins (ga K "Sink") d1 []) = H2
  intro s1 k1
  have t2 : Same H H2 := Same.trans t1 s1
  intro x2 d2 n2 m2 e2
  obtain ⟨s2, k2⟩ := new_obj (C := ga K "Both") n2 m2
  revert s2 k2
  generalize upd (upd H2 d2 (HO.own x2)) x2 (HO.ins (ga K "Both") d2 []) = H3
  intro s2 k2
  have t3 : Same H H3 := Same.trans t2 s2
  intro x3 d3 n3 m3 e3
  obtain ⟨s3, k3⟩ := new_obj (C := ga K "Either") n3 m3
  revert s3 k3
  generalize upd (upd H3 d3 (HO.own x3)) x3 (HO.ins (ga K "Either") d3 []) = H4
  intro s3 k3
  have t4 : Same H H4 := Same.trans t3 s3
  intro x4 d4 n4 m4 e4
  obtain ⟨s4, k4⟩ := new_obj (C := ga K "Odd") n4 m4
  revert s4 k4
  generalize upd (upd H4 d4 (HO.own x4)) x4 (HO.ins (ga K "Odd") d4 []) = H5
  intro s4 k4
  have t5 : Same H H5 := Same.trans t4 s4
  intro x5 d5 n5 m5 e5
  obtain ⟨s5, k5⟩ := new_obj (C := ga K "Plus") n5 m5
  revert s5 k5
  generalize upd (upd H5 d5 (HO.own x5)) x5 (HO.ins (ga K "Plus") d5 []) = H6
  intro s5 k5
  have t6 : Same H H6 := Same.trans t5 s5
  intro x6 d6 n6 m6 e6
  obtain ⟨s6, k6⟩ := new_obj (C := ga K "Pick") n6 m6
  revert s6 k6
  generalize upd (upd H6 d6 (HO.own x6)) x6 (HO.ins (ga K "Pick") d6 []) = H7
  intro s6 k6
  have t7 : Same H H7 := Same.trans t6 s6
  refine ⟨(by show 7 ≤ sizeLine; decide), fun p hp => ⟨p, rfl, ⟨_, SqT.of upd_same⟩, ?_⟩⟩
  have s7 : Same H7 (upd H7 p (.tup [.ref x0, .ref x1, .ref x2, .ref x3, .ref x4, .ref x5, .ref x6])) := Same.new hp
  have hx : ∀ (i : Nat) (x : V), ([.ref x0, .ref x1, .ref x2, .ref x3, .ref x4, .ref x5, .ref x6] : List V)[i]? = some x → ∃ (a : Addr) (k : Kd), x = .ref a ∧ plainKinds[i]? = some k ∧ KindAt K (upd H7 p (.tup [.ref x0, .ref x1, .ref x2, .ref x3, .ref x4, .ref x5, .ref x6])) a k ∧ H a = none := by
    intro i x hi
    match i, hi with
    | 0, hi => cases hi; exact ⟨x0, _, rfl, rfl, ⟨d0, s7 _ _ (s6 _ _ (s5 _ _ (s4 _ _ (s3 _ _ (s2 _ _ (s1 _ _ k0))))))⟩, n0⟩
    | 1, hi => cases hi; exact ⟨x1, _, rfl, rfl, ⟨d1, s7 _ _ (s6 _ _ (s5 _ _ (s4 _ _ (s3 _ _ (s2 _ _ k1)))))⟩, t1.free n1⟩
    | 2, hi => cases hi; exact ⟨x2, _, rfl, rfl, ⟨d2, s7 _ _ (s6 _ _ (s5 _ _ (s4 _ _ (s3 _ _ k2))))⟩, t2.free n2⟩
    | 3, hi => cases hi; exact ⟨x3, _, rfl, rfl, ⟨d3, s7 _ _ (s6 _ _ (s5 _ _ (s4 _ _ k3)))⟩, t3.free n3⟩
    | 4, hi => cases hi; exact ⟨x4, _, rfl, rfl, ⟨d4, s7 _ _ (s6 _ _ (s5 _ _ k4))⟩, t4.free n4⟩
    | 5, hi => cases hi; exact ⟨x5, _, rfl, rfl, ⟨d5, s7 _ _ (s6 _ _ k5)⟩, t5.free n5⟩
    | 6, hi => cases hi; exact ⟨x6, _, rfl, rfl, ⟨d6, s7 _ _ k6⟩, t6.free n6⟩
    | i + 7, hi => simp at hi
  have t8 := Same.trans t7 s7
  have hxs : ([.ref x0, .ref x1, .ref x2, .ref x3, .ref x4, .ref x5, .ref x6] : List V).length = 7 := rfl
  have hsq : SqT K (upd H7 p (.tup [.ref x0, .ref x1, .ref x2, .ref x3, .ref x4, .ref x5, .ref x6])) p [.ref x0, .ref x1, .ref x2, .ref x3, .ref x4, .ref x5, .ref x6] := SqT.of upd_same
  revert hx t8 hxs hsq
  clear s7
  generalize upd H7 p (HO.tup [.ref x0, .ref x1, .ref x2, .ref x3, .ref x4, .ref x5, .ref x6]) = H8
  generalize ([.ref x0, .ref x1, .ref x2, .ref x3, .ref x4, .ref x5, .ref x6] : List V) = xs
  intro hx t8 hxs hsq
  refine for_tup (K := K) (a := p) (xs := xs) (fun i σ H' => ∃ v, σ = [some (.str z), v, none, none, none, none] ∧ H' = H8 ∧ (plainKinds.take i).find? (fun k => decide (tl k.word = tl z)) = none)
    ⟨none, rfl, rfl, rfl⟩ (fun i σ H' _ h => by obtain ⟨_, _, rfl, _⟩ := h; exact hsq) ?_ ?_
  · rintro i x σ H' hi ⟨v, rfl, rfl, hf⟩
    obtain ⟨a, k, rfl, hk, ⟨dx, ha⟩, hn⟩ := hx i x hi
    have hkm : k ∈ plainKinds := List.mem_of_getElem? hk
    refine ⟨k.c, _, rfl, a, dx, _, rfl, ha, flds_no _ (by decide +kernel), a, k, rfl, ⟨dx, ha⟩, rfl, plain_ok hkm, _, rfl, rfl, _, rfl, ?_⟩
    rw [dstr]
    have htk : plainKinds.take (i + 1) = plainKinds.take i ++ [k] := by
      rw [List.take_succ, hk] <;> rfl
    refine ite2 (fun h1 => ?_) (fun h1 => ?_)
    · refine ⟨_, rfl, ?_⟩
      have e : kindBy z = some k := by
        have e1 : plainKinds.find? (fun k => decide (tl k.word = tl z)) = some k := by
          rw [← List.take_append_drop (i + 1) plainKinds, htk, List.append_assoc, List.find?_append, hf]
          rw [Option.none_or, List.singleton_append, List.find?_cons, h1]
        unfold kindBy
        rw [e1]
      exact q _ _ t8 (by rw [e]; exact ⟨a, rfl, hn, dx, ha⟩)
    · refine ⟨_, rfl, rfl, ?_⟩
      rw [htk, List.find?_append, hf]
      rw [Option.none_or, List.find?_cons, Bool.eq_false_iff.mpr h1] <;> rfl
  · rintro σ H' ⟨v, rfl, rfl, hf⟩
    have e0 : kindBy z = countedKind z := by
      rw [hxs] at hf
      have e1 : plainKinds.find? (fun k => decide (tl k.word = tl z)) = none := hf
      unfold kindBy
      rw [e1]
    rw [e0] at q
    refine ⟨_, rfl, ⟨_, rfl⟩, _, _, rfl, rfl, rfl, line_le hz, fun t ht => ?_⟩
    have s8 := Same.trans t8 (Same.new (o := .tup [.str (Txt.partition z ":").1, .str (Txt.partition z ":").2.1, .str (Txt.partition z ":").2.2]) ht)
    refine ⟨t, _, rfl, SqT.of upd_same, rfl, _, _, rfl, _, _, rfl, _, _, rfl, rfl, ?_⟩
    refine ⟨_, rfl, _, _, rfl, Nat.le_trans (part1_len z ":" 58 tl_colon).2 hz, ?_⟩
    refine ⟨_, rfl, _, _, rfl, rfl, _, rfl, ?_⟩
    unfold countedKind at q
    refine ite2 (fun h1 => ?_) (fun h1 => ?_)
    · rw [if_pos (of_decide_eq_true h1)] at q
      exact q _ _ s8 rfl
    · rw [if_neg (fun z => h1 (decide_eq_true z))] at q
      refine ⟨_, rfl, rfl, _, rfl, ?_⟩
      rw [dstr]
      refine ite2 (fun h2 => ?_) (fun h2 => ?_)
      · rw [if_pos (of_decide_eq_true h2)] at q
        refine ⟨_, rfl, ?_⟩
        intro x dx nx mx ex
        refine ⟨x, dx, _, rfl, upd_same, rfl, ?_⟩
        refine q _ _ (fun b o e => ?_) ⟨x, rfl, s8.free nx, dx, upd_same⟩
        rw [upd_ne (ne_of_none (s8 _ _ e) nx), upd_ne (ne_of_none (s8 _ _ e) nx), upd_ne (ne_of_none (s8 _ _ e) mx)]
        exact s8 _ _ e
      · rw [if_neg (fun z => h2 (decide_eq_true z))] at q
        refine ⟨_, rfl, rfl, _, rfl, ?_⟩
        rw [dstr]
        refine ite2 (fun h3 => ?_) (fun h3 => ?_)
        · rw [if_pos (of_decide_eq_true h3)] at q
          refine ⟨_, rfl, ?_⟩
          intro x dx nx mx ex
          refine ⟨x, dx, _, rfl, upd_same, rfl, ?_⟩
          refine q _ _ (fun b o e => ?_) ⟨x, rfl, s8.free nx, dx, upd_same⟩
          rw [upd_ne (ne_of_none (s8 _ _ e) nx), upd_ne (ne_of_none (s8 _ _ e) nx), upd_ne (ne_of_none (s8 _ _ e) mx)]
          exact s8 _ _ e
        · rw [if_neg (fun z => h3 (decide_eq_true z))] at q
          exact q _ _ s8 rfl
end
end SW

/-! ### the law's draws -/
namespace SW
open PySem PySem.Spec PyProof.Rows L2 He TL
def primes : List Int := [1000003, 1000033, 1000037, 1000039, 1000081, 1000099, 1000117, 1000121, 1000133, 1000151, 1000159, 1000171, 1000183, 1000187, 1000193, 1000199]
def prime (k : Nat) : Int := primes.getD (k % 16) 1
def draw (c : Int) (k : Nat) (m : Int) : Int := (c * 48271 + (k : Int) * 69621) % prime k % m
theorem prime_pos (k : Nat) : 0 < prime k := by
  have h : k % 16 < 16 := Nat.mod_lt _ (by decide)
  unfold prime
  generalize k % 16 = i at h
  have : ∀ i < 16, 0 < primes.getD i 1 := by decide
  exact this i h
theorem draw_lo (c : Int) (k : Nat) {m : Int} (h : 0 < m) : 0 ≤ draw c k m := Int.emod_nonneg _ (by omega)
theorem draw_hi (c : Int) (k : Nat) {m : Int} (h : 0 < m) : draw c k m < m := Int.emod_lt_of_pos _ h
def spDraw : Sp := fun vs H Q _ => ∃ (c : Int) (k : Nat) (m : Int), vs = [.int c, .int (k : Int), .int m] ∧ k < 1000 ∧ 0 < m ∧ ∀ H', Same H H' → Q (.int (draw c k m)) H'
theorem at_prime (k : Nat) : atI (primes.map V.int) ((k : Int) % 16) = some (.int (prime k)) := by
  have h : k % 16 < 16 := Nat.mod_lt _ (by decide)
  have e : ((k : Int) % 16) = ((k % 16 : Nat) : Int) := by omega
  rw [e]
  refine atI_nat ?_
  unfold prime
  generalize k % 16 = i at h
  have : ∀ i < 16, (primes.map V.int)[i]? = some (.int (primes.getD i 1)) := by decide
  exact this i h
section
variable {P : Program} {w : World} {K : PySem.W.Frag} {mg : Str → Option Value} {base : Heap}
theorem ok_draw (T : Txt K mg) : Ok P w K mg base 1 (ga K "_law_draw") ["_law_cell", "_law_k", "_law_many"] spDraw := by
  refine mkOk T.F_law_draw sc_law_draw (fun _ _ _ _ _ _ us hl => match us, hl with | [_, _, _], _ => rfl) (by rintro vs H Q E ⟨_, _, _, rfl, _⟩; rfl) (fun cdv A outer s H vs Q E hr h => ?_)
  obtain ⟨c, k, m, rfl, hk, hm, q⟩ := h
  refine ⟨_, (pss_cons (ps_set (i := 3) sc_law_draw.nd rfl (by first | exact Or.inl rfl | exact Or.inr rfl) (pe_tup (pa_cons pe_int (pa_cons pe_int (pa_cons pe_int (pa_cons pe_int (pa_cons pe_int (pa_cons pe_int (pa_cons pe_int (pa_cons pe_int (pa_cons pe_int (pa_cons pe_int (pa_cons pe_int (pa_cons pe_int (pa_cons pe_int (pa_cons pe_int (pa_cons pe_int (pa_cons pe_int pa_nil))))))))))))))))))
      (pss_one (ps_ret (pe_op op_mod (pe_op op_mod (pe_op op_add (pe_op op_mul (pv 0) pe_int) (pe_op op_mul (pv 1) pe_int)) (pe_ix (ixT (K := K)) (pv 3) (pe_op op_mod (pv 1) pe_int) (fun _ _ => rfl))) (pv 2))))), ?_⟩
  refine ⟨(by show 16 ≤ sizeLine; decide), fun p hp => ?_⟩
  refine ⟨_, rfl, _, _, rfl, rfl, .inr ⟨by decide, by decide⟩, _, rfl, _, _, rfl, rfl, .inr ⟨by decide, by decide⟩, _, _, rfl, rfl, ?_⟩
  refine ⟨_, rfl, _, rfl, _, _, rfl, rfl, (show (0 : Int) < 16 by decide), p, primes.map V.int, _, _, rfl, rfl, SqT.of upd_same, at_prime k, ?_⟩
  refine ⟨_, _, rfl, rfl, prime_pos k, _, rfl, _, _, rfl, rfl, hm, ?_⟩
  exact q _ (Same.new hp)
end
end SW

/-! ### bits, by sums -/
namespace SW
open PySem PySem.Spec PyProof.Rows L2 He
theorem bits_and (x y j : Nat) : (x &&& y) % 2 ^ (j + 1) = (x &&& y) % 2 ^ j + (if x / 2 ^ j % 2 + y / 2 ^ j % 2 = 2 then 2 ^ j else 0) := by
  rw [Nat.mod_pow_succ, Nat.and_div_two_pow]
  have h := @Nat.and_mod_two_eq_one (x / 2 ^ j) (y / 2 ^ j)
  rcases Nat.mod_two_eq_zero_or_one (x / 2 ^ j &&& y / 2 ^ j) with e | e
  · rw [e, Nat.mul_zero, if_neg (fun z => by have := h.mpr ⟨by omega, by omega⟩; omega)]
  · have := h.mp e
    rw [e, Nat.mul_one, if_pos (by omega)]
theorem bits_or (x y j : Nat) : (x ||| y) % 2 ^ (j + 1) = (x ||| y) % 2 ^ j + (if x / 2 ^ j % 2 + y / 2 ^ j % 2 > 0 then 2 ^ j else 0) := by
  rw [Nat.mod_pow_succ, Nat.or_div_two_pow]
  have h := @Nat.or_mod_two_eq_one (x / 2 ^ j) (y / 2 ^ j)
  rcases Nat.mod_two_eq_zero_or_one (x / 2 ^ j ||| y / 2 ^ j) with e | e
  · rw [e, Nat.mul_zero, if_neg (fun z => by
      have := h.mpr (by omega)
      omega)]
  · have := h.mp e
    rw [e, Nat.mul_one, if_pos (by omega)]
theorem bits_xor (x y j : Nat) : (x ^^^ y) % 2 ^ (j + 1) = (x ^^^ y) % 2 ^ j + (if x / 2 ^ j % 2 + y / 2 ^ j % 2 = 1 then 2 ^ j else 0) := by
  rw [Nat.mod_pow_succ, Nat.xor_div_two_pow]
  have h := @Nat.xor_mod_two_eq_one (x / 2 ^ j) (y / 2 ^ j)
  rcases Nat.mod_two_eq_zero_or_one (x / 2 ^ j ^^^ y / 2 ^ j) with e | e
  · rw [e, Nat.mul_zero, if_neg (fun z => by
      have := h.mpr (by omega)
      omega)]
  · have := h.mp e
    rw [e, Nat.mul_one, if_pos (by omega)]
theorem pow_cast (j : Nat) : ((2 ^ j : Nat) : Int) = 2 ^ j := by rw [Int.natCast_pow]; rfl
theorem mask (x : Nat) (w : Nat) : Builtin.bitAnd (x : Int) (1 * 2 ^ ((w : Nat) : Int).toNat - 1) = ((x % 2 ^ w : Nat) : Int) := by
  rw [Int.one_mul, Int.toNat_natCast, Bits.bitAnd_mask w (Int.natCast_nonneg x), Int.natCast_emod, pow_cast]
theorem made_both (n : Int) (x y z w : Nat) : Kd.made ⟨.both, n⟩ [(x : Int), y, z] w = (((x &&& y) % 2 ^ w : Nat) : Int) := by
  show Builtin.bitAnd (Builtin.bitAnd (x : Int) (y : Int)) _ = _
  rw [bitAnd_pp (Int.natCast_nonneg x) (Int.natCast_nonneg y), Int.toNat_natCast, Int.toNat_natCast]
  exact mask _ _
theorem made_either (n : Int) (x y z w : Nat) : Kd.made ⟨.either, n⟩ [(x : Int), y, z] w = (((x ||| y) % 2 ^ w : Nat) : Int) := by
  show Builtin.bitAnd (Builtin.bitOr (x : Int) (y : Int)) _ = _
  rw [Bits.bitOr_pp (Int.natCast_nonneg x) (Int.natCast_nonneg y), Int.toNat_natCast, Int.toNat_natCast]
  exact mask _ _
theorem made_odd (n : Int) (x y z w : Nat) : Kd.made ⟨.odd, n⟩ [(x : Int), y, z] w = (((x ^^^ y) % 2 ^ w : Nat) : Int) := by
  show Builtin.bitAnd (Builtin.bitXor (x : Int) (y : Int)) _ = _
  rw [Bits.bitXor_pp (Int.natCast_nonneg x) (Int.natCast_nonneg y), Int.toNat_natCast, Int.toNat_natCast]
  exact mask _ _
theorem made_plus (n : Int) (x y z w : Nat) : Kd.made ⟨.plus, n⟩ [(x : Int), y, z] w = (((x + y) % 2 ^ w : Nat) : Int) := by
  show Builtin.bitAnd ((x : Int) + (y : Int)) _ = _
  rw [← Int.natCast_add]
  exact mask _ _
theorem made_pick (n : Int) (x y z w : Nat) (hy : y < 2 ^ w) (hz : z < 2 ^ w) : Kd.made ⟨.pick, n⟩ [(x : Int), y, z] w = if x = 0 then (z : Int) else (y : Int) := by
  show Builtin.bitAnd (if (x : Int) = 0 then (z : Int) else (y : Int)) _ = _
  by_cases h : x = 0
  · rw [if_pos h, if_pos (by omega), mask, Nat.mod_eq_of_lt hz]
  · rw [if_neg h, if_neg (by omega), mask, Nat.mod_eq_of_lt hy]
theorem made_snk (n : Int) (x y z w : Nat) (hx : x < 2 ^ w) : Kd.made ⟨.snk, n⟩ [(x : Int), y, z] w = (x : Int) := by
  show Builtin.bitAnd (x : Int) _ = _
  rw [mask, Nat.mod_eq_of_lt hx]
theorem made_up (n x y z w : Nat) : Kd.made ⟨.up, n⟩ [(x : Int), y, z] w = ((x * 2 ^ n % 2 ^ w : Nat) : Int) := by
  show Builtin.bitAnd ((x : Int) * 2 ^ ((n : Nat) : Int).toNat) _ = _
  rw [Int.toNat_natCast, ← pow_cast, ← Int.natCast_mul]
  exact mask _ _
theorem made_down (n x y z w : Nat) (hx : x < 2 ^ w) : Kd.made ⟨.down, n⟩ [(x : Int), y, z] w = ((x / 2 ^ n : Nat) : Int) := by
  show Builtin.bitAnd ((x : Int) / 2 ^ ((n : Nat) : Int).toNat) _ = _
  rw [Int.toNat_natCast, ← pow_cast, ← Int.natCast_ediv, mask, Nat.mod_eq_of_lt (Nat.lt_of_le_of_lt (Nat.div_le_self ..) hx)]
end SW

/-! ### what a test answers, a value is (nothing newly made) -/
namespace SW
open PySem PySem.Spec PyProof.Rows L2 He
theorem ans_if {σ : L2.St} {H : Hp} {c : TT} {t1 t2 : TS} {D : Ends} {b : Bool} (h : Ans c σ H b) (h1 : b = true → t1 D σ H) (h2 : b = false → t2 D σ H) : tIfS c t1 t2 D σ H := by
  refine h _ ?_
  cases b with
  | true => exact iteT (h1 rfl)
  | false => exact iteF (h2 rfl)
theorem ans_or2 {σ : L2.St} {H : Hp} {t u : TT} {b1 b2 : Bool} (h1 : Ans t σ H b1) (h2 : Ans u σ H b2) : Ans (tOr t u) σ H (b1 || b2) := by
  cases b1 with
  | true => exact ans_or1 h1
  | false => exact ans_or h1 h2
theorem ans_eqI {σ : L2.St} {H : Hp} {ta tb : TE} {i j : Int} (ha : Val ta σ H (.int i)) (hb : Val tb σ H (.int j)) : Ans (tTest (tOp rEq ta tb)) σ H (decide (i = j)) :=
  ans_eq ha hb rfl (by by_cases h : i = j; rw [decide_eq_true h, decide_eq_true (by rw [h])]; rw [decide_eq_false h, decide_eq_false (fun q => h (V.int.inj q))])
theorem ans_I0 {σ : L2.St} {H : Hp} {ta tb : TE} {i j : Int} {f : Int → Int → Bool} (ha : Val ta σ H (.int i)) (hb : Val tb σ H (.int j)) : Ans (tTest (tOp (rI0 fun i j => .bl (f i j)) ta tb)) σ H (f i j) :=
  ans_cmp ha hb fun Q q => ⟨i, j, rfl, rfl, q⟩
end SW

/-! ### law k01: what is due -/
namespace SW
open PySem PySem.Spec PyProof.Rows L2 He TL
def whichKc : Nat → Kc
  | 0 => .both | 1 => .either | 2 => .odd | 3 => .plus | 4 => .pick | 5 => .snk | 6 => .up | _ => .down
def whichKd (i ct : Nat) : Kd := ⟨whichKc i, if 6 ≤ i then (ct : Int) else 0⟩
def spLawMade (K : PySem.W.Frag) : Sp := fun vs H Q _ => ∃ (i ct wd : Nat) (l : Addr) (x y z : Nat), vs = [.int (i : Int), .int (ct : Int), .int (wd : Int), .ref l] ∧ i < 8 ∧ 1 ≤ ct ∧ ct ≤ 63 ∧ 1 ≤ wd ∧ wd ≤ 64 ∧
  SqL K H l [.int (x : Int), .int (y : Int), .int (z : Int)] ∧ x < 2 ^ wd ∧ y < 2 ^ wd ∧ z < 2 ^ wd ∧ Q (.int (Kd.made (whichKd i ct) [(x : Int), (y : Int), (z : Int)] wd)) H
theorem pow_pos' (j : Nat) : 0 < 2 ^ j := Nat.pos_of_ne_zero (by exact Nat.ne_of_gt (Nat.two_pow_pos j))
theorem pow_small {j : Nat} (h : j ≤ 64) : ((2 ^ j : Nat) : Int).natAbs < 2 ^ 65 := by
  rw [Int.natAbs_natCast]
  exact Nat.pow_lt_pow_right (by decide) (by omega)
theorem dbl (j : Nat) : ((2 ^ j : Nat) : Int) * 2 = ((2 ^ (j + 1) : Nat) : Int) := by
  rw [Nat.pow_succ, Int.natCast_mul] <;> rfl
theorem ediv_cast (a b : Nat) : ((a : Nat) : Int) / ((b : Nat) : Int) = ((a / b : Nat) : Int) := (Int.natCast_ediv a b).symm
section
variable {P : Program} {w : World} {K : PySem.W.Frag} {mg : Str → Option Value} {base : Heap}
theorem ok_law_made (T : Txt K mg) : Ok P w K mg base 1 (ga K "_law_made") ["_law_which", "_law_count", "_law_width", "_law_numbers"] (spLawMade K) := by
  refine mkOk T.F_law_made sc_law_made (fun _ _ _ _ _ _ us hl => match us, hl with | [_, _, _, _], _ => rfl) (by rintro vs H Q E ⟨_, _, _, _, _, _, _, rfl, _⟩; rfl) (fun cdv A outer s H vs Q E hr h => ?_)
  obtain ⟨i, ct, wd, l, x, y, z, rfl, hi, hc1, hc2, hw1, hw2, hl, hx, hy, hz, q⟩ := h
  refine ⟨_, (pss_cons (ps_set (i := 4) sc_law_made.nd rfl (by first | exact Or.inl rfl | exact Or.inr rfl) pe_int)
      (pss_cons (ps_for PassesOwn.never rfl (pi_range1 (by rfl) T.f_range (pa_cons (pv 2) pa_nil)) (pg_name (i := 5) sc_law_made.nd rfl (by first | exact Or.inl rfl | exact Or.inr rfl))
      (pss_one (ps_set (i := 4) sc_law_made.nd rfl (by first | exact Or.inl rfl | exact Or.inr rfl) (pe_op op_mul (pv 4) pe_int))))
      (pss_cons (ps_if (pt_cmpR op_lt (pv 0) pe_int (nomark _)) (pss_cons (ps_set (i := 6) sc_law_made.nd rfl (by first | exact Or.inl rfl | exact Or.inr rfl) pe_int)
      (pss_cons (ps_set (i := 7) sc_law_made.nd rfl (by first | exact Or.inl rfl | exact Or.inr rfl) pe_int)
      (pss_cons (ps_while PassesOwn.never (pt_cmpR op_lt (pv 7) (pv 4) (nomark _)) (pss_cons (ps_set (i := 8) sc_law_made.nd rfl (by first | exact Or.inl rfl | exact Or.inr rfl) (pe_op op_add (pe_op op_mod (pe_op op_fdivW (pe_ix (ixL (K := K)) (pv 3) pe_int (fun _ _ => rfl)) (pv 7)) pe_int) (pe_op op_mod (pe_op op_fdivW (pe_ix (ixL (K := K)) (pv 3) pe_int (fun _ _ => rfl)) (pv 7)) pe_int)))
      (pss_cons (ps_if (PW.pt (pw_or (PW.pt (pw_and (pt_cmpR op_eq (pv 0) pe_int (nomark _)) (pw_and1 (pt_cmpR op_eq (pv 8) pe_int (nomark _))))) (pw_or (PW.pt (pw_and (pt_cmpR op_eq (pv 0) pe_int (nomark _)) (pw_and1 (pt_cmpR op_gt (pv 8) pe_int (nomark _))))) (pw_or1 (PW.pt (pw_and (pt_cmpR op_eq (pv 0) pe_int (nomark _)) (pw_and1 (pt_cmpR op_eq (pv 8) pe_int (nomark _))))))))) (pss_one (ps_set (i := 6) sc_law_made.nd rfl (by first | exact Or.inl rfl | exact Or.inr rfl) (pe_op op_add (pv 6) (pv 7)))) pss_nil)
      (pss_one (ps_set (i := 7) sc_law_made.nd rfl (by first | exact Or.inl rfl | exact Or.inr rfl) (pe_op op_mul (pv 7) pe_int))))))
      (pss_one (ps_ret (pv 6)))))) pss_nil)
      (pss_cons (ps_if (pt_cmpR op_eq (pv 0) pe_int (nomark _)) (pss_one (ps_ret (pe_op op_mod (pe_op op_add (pe_ix (ixL (K := K)) (pv 3) pe_int (fun _ _ => rfl)) (pe_ix (ixL (K := K)) (pv 3) pe_int (fun _ _ => rfl))) (pv 4)))) pss_nil)
      (pss_cons (ps_if (pt_cmpR op_eq (pv 0) pe_int (nomark _)) (pss_one (ps_ret (pe_ifExp (pt_cmpR op_eq (pe_ix (ixL (K := K)) (pv 3) pe_int (fun _ _ => rfl)) pe_int (nomark _)) (pe_ix (ixL (K := K)) (pv 3) pe_int (fun _ _ => rfl)) (pe_ix (ixL (K := K)) (pv 3) pe_int (fun _ _ => rfl))))) pss_nil)
      (pss_cons (ps_if (pt_cmpR op_eq (pv 0) pe_int (nomark _)) (pss_one (ps_ret (pe_ix (ixL (K := K)) (pv 3) pe_int (fun _ _ => rfl)))) pss_nil)
      (pss_cons (ps_set (i := 9) sc_law_made.nd rfl (by first | exact Or.inl rfl | exact Or.inr rfl) pe_int)
      (pss_cons (ps_for PassesOwn.never rfl (pi_range1 (by rfl) T.f_range (pa_cons (pv 1) pa_nil)) (pg_name (i := 5) sc_law_made.nd rfl (by first | exact Or.inl rfl | exact Or.inr rfl))
      (pss_one (ps_set (i := 9) sc_law_made.nd rfl (by first | exact Or.inl rfl | exact Or.inr rfl) (pe_op op_mul (pv 9) pe_int))))
      (pss_one (ps_ret (pe_ifExp (pt_cmpR op_eq (pv 0) pe_int (nomark _)) (pe_op op_mod (pe_op op_mul (pe_ix (ixL (K := K)) (pv 3) pe_int (fun _ _ => rfl)) (pv 9)) (pv 4)) (pe_op op_fdivW (pe_ix (ixL (K := K)) (pv 3) pe_int (fun _ _ => rfl)) (pv 9))))))))))))), ?_⟩
  -- top = 1; for k in range(width): top = top * 2
  refine ⟨_, rfl, _, rfl, (by omega), (by omega), ?_⟩
  rw [Int.toNat_natCast]
  refine for_range (n := wd) (fun j σ H' => ∃ v, σ = [some (.int (i : Int)), some (.int (ct : Int)), some (.int (wd : Int)), some (.ref l), some (.int ((2 ^ j : Nat) : Int)), v, none, none, none, none] ∧ H' = H) ⟨none, rfl, rfl⟩ ?_ ?_
  · rintro j σ H' hj ⟨v, rfl, rfl⟩
    exact ⟨_, rfl, _, _, rfl, rfl, .inr ⟨by decide, by decide⟩, some (.int (0 + (j : Int))), by rw [← dbl j]; rfl, rfl⟩
  rintro σ H' ⟨v, rfl, rfl⟩
  -- if which < 3
  refine ans_if (ans_I0 (val_var rfl) val_c) (fun h3 => ?_) (fun h3 => ?_)
  · have hi3 : i < 3 := by have := of_decide_eq_true h3; omega
    -- the loop over the bits
    obtain ⟨R, hR, hq⟩ : ∃ R : Nat, (∀ j, R % 2 ^ (j + 1) = R % 2 ^ j + (if (i = 0 ∧ x / 2 ^ j % 2 + y / 2 ^ j % 2 = 2) ∨ (i = 1 ∧ x / 2 ^ j % 2 + y / 2 ^ j % 2 > 0) ∨ (i = 2 ∧ x / 2 ^ j % 2 + y / 2 ^ j % 2 = 1) then 2 ^ j else 0)) ∧ Q (.int ((R % 2 ^ wd : Nat) : Int)) H' := by
      match i, hi3, q with
      | 0, _, q =>
        rw [show whichKd 0 ct = ⟨.both, 0⟩ from rfl, made_both] at q
        exact ⟨x &&& y, fun j => by rw [bits_and]; simp, q⟩
      | 1, _, q =>
        rw [show whichKd 1 ct = ⟨.either, 0⟩ from rfl, made_either] at q
        exact ⟨x ||| y, fun j => by rw [bits_or]; simp, q⟩
      | 2, _, q =>
        rw [show whichKd 2 ct = ⟨.odd, 0⟩ from rfl, made_odd] at q
        exact ⟨x ^^^ y, fun j => by rw [bits_xor]; simp, q⟩
    clear q
    refine ⟨fun m σ H1 => ∃ j v8, m = wd - j ∧ j ≤ wd ∧ H1 = H' ∧ σ = [some (.int (i : Int)), some (.int (ct : Int)), some (.int (wd : Int)), some (.ref l), some (.int ((2 ^ wd : Nat) : Int)), v, some (.int ((R % 2 ^ j : Nat) : Int)), some (.int ((2 ^ j : Nat) : Int)), v8, none],
      ⟨wd, 0, none, rfl, Nat.zero_le _, rfl, by rw [Nat.pow_zero, Nat.mod_one] <;> rfl⟩, ?_⟩
    rintro m σ H1 ⟨j, v8, rfl, hj, rfl, rfl⟩
    refine ⟨_, rfl, _, rfl, _, _, rfl, rfl, _, rfl, ?_⟩
    refine ite2 (fun hb => ?_) (fun hb => ?_)
    · have hb' := of_decide_eq_true hb
      have hlt : 2 ^ j < 2 ^ wd := by omega
      have hjw : j < wd := by
        refine Classical.byContradiction fun z => ?_
        have : j = wd := by omega
        subst this
        omega
      refine ⟨fun σ H2 => ∃ v8, H2 = H1 ∧ σ = [some (.int (i : Int)), some (.int (ct : Int)), some (.int (wd : Int)), some (.ref l), some (.int ((2 ^ wd : Nat) : Int)), v, some (.int ((R % 2 ^ (j + 1) : Nat) : Int)), some (.int ((2 ^ (j + 1) : Nat) : Int)), v8, none],
        fun σ H2 ⟨v8, e1, e2⟩ => ⟨wd - (j + 1), by omega, j + 1, v8, rfl, hjw, e1, e2⟩, ?_⟩
      have hdv : ∀ a : Int, CDivW a ((2 ^ j : Nat) : Int) := fun a => wide_div (by have := pow_pos' j; omega) (pow_small (by omega)) (by decide) (by decide)
      refine ⟨_, rfl, _, _, _, _, rfl, rfl, hl, at0 _ _, _, rfl, _, _, rfl, rfl, hdv _, _, _, rfl, rfl, (by show (0 : Int) < 2; decide), ?_⟩
      refine ⟨_, rfl, _, _, _, _, rfl, rfl, hl, at1 _ _ _, _, rfl, _, _, rfl, rfl, hdv _, _, _, rfl, rfl, (by show (0 : Int) < 2; decide), _, _, rfl, rfl, ?_⟩
      have ones : (((x : Nat) : Int) / ((2 ^ j : Nat) : Int)) % 2 + (((y : Nat) : Int) / ((2 ^ j : Nat) : Int)) % 2 = ((x / 2 ^ j % 2 + y / 2 ^ j % 2 : Nat) : Int) := by
        rw [ediv_cast, ediv_cast]
        omega
      dsimp only
      rw [ones]
      have hRj := hR j
      generalize x / 2 ^ j % 2 + y / 2 ^ j % 2 = one at *
      refine ans_if (ans_or2 (ans_and2 (ans_eqI (val_var rfl) val_c) (ans_eqI (val_var rfl) val_c)) (ans_or2 (ans_and2 (ans_eqI (val_var rfl) val_c) (ans_I0 (val_var rfl) val_c)) (ans_and2 (ans_eqI (val_var rfl) val_c) (ans_eqI (val_var rfl) val_c)))) (fun hc => ?_) (fun hc => ?_)
      · simp only [Bool.or_eq_true, Bool.and_eq_true, decide_eq_true_eq] at hc
        have hR1 := hRj
        rw [if_pos (by omega)] at hR1
        refine ⟨_, rfl, _, rfl, _, _, rfl, rfl, _, rfl, _, _, rfl, rfl, .inr ⟨by decide, by decide⟩, some (.int (one : Int)), rfl, ?_⟩
        rw [hR1, ← dbl j, Int.natCast_add]
        rfl
      · have hc' : ¬ ((i = 0 ∧ one = 2) ∨ (i = 1 ∧ one > 0) ∨ (i = 2 ∧ one = 1)) := fun z => by
          have : ((decide ((i : Int) = 0) && decide ((one : Int) = 2)) || ((decide ((i : Int) = 1) && decide ((0 : Int) < (one : Int))) || (decide ((i : Int) = 2) && decide ((one : Int) = 1)))) = true := by
            simp only [Bool.or_eq_true, Bool.and_eq_true, decide_eq_true_eq]
            omega
          rw [this] at hc
          cases hc
        have hR1 := hRj
        rw [if_neg hc', Nat.add_zero] at hR1
        refine ⟨_, rfl, _, _, rfl, rfl, .inr ⟨by decide, by decide⟩, some (.int (one : Int)), rfl, ?_⟩
        rw [hR1, ← dbl j]
        rfl
    · have hb' : ¬ (((2 ^ j : Nat) : Int) < ((2 ^ wd : Nat) : Int)) := fun z => hb (decide_eq_true z)
      have hjw : j = wd := by
        refine Classical.byContradiction fun z => hb' ?_
        have : 2 ^ j < 2 ^ wd := Nat.pow_lt_pow_right (by decide) (by omega)
        omega
      subst hjw
      exact ⟨_, rfl, hq⟩
  · have hi3 : ¬ i < 3 := fun z => by
      have : decide ((i : Int) < 3) = true := decide_eq_true (by omega)
      rw [this] at h3
      cases h3
    have hpw : ((2 ^ wd : Nat) : Int) = 2 ^ wd := pow_cast wd
    have ppos := pow_pos' wd
    refine ans_if (ans_eqI (val_var rfl) val_c) (fun h4 => ?_) (fun h4 => ?_)
    · have e : i = 3 := by have := of_decide_eq_true h4; omega
      subst e
      rw [show whichKd 3 ct = ⟨.plus, 0⟩ from rfl, made_plus] at q
      refine ⟨_, rfl, _, _, _, _, rfl, rfl, hl, at0 _ _, _, rfl, _, _, _, _, rfl, rfl, hl, at1 _ _ _, _, _, rfl, rfl, _, rfl, _, _, rfl, rfl, (show (0 : Int) < ((2 ^ wd : Nat) : Int) by omega), ?_⟩
      rw [Int.natCast_emod, Int.natCast_add] at q
      exact q
    have h4' : i ≠ 3 := fun z => by subst z; cases h4
    refine ans_if (ans_eqI (val_var rfl) val_c) (fun h5 => ?_) (fun h5 => ?_)
    · have e : i = 4 := by have := of_decide_eq_true h5; omega
      subst e
      rw [show whichKd 4 ct = ⟨.pick, 0⟩ from rfl, made_pick _ _ _ _ _ hy hz] at q
      refine ⟨_, rfl, _, _, _, _, rfl, rfl, hl, at0 _ _, rfl, _, rfl, ?_⟩
      refine ite2 (fun h0 => ?_) (fun h0 => ?_)
      · have e : x = 0 := by have := V.int.inj (of_decide_eq_true h0); omega
        rw [if_pos e] at q
        exact ⟨_, rfl, _, _, _, _, rfl, rfl, hl, at2 _ _ _ _, q⟩
      · have e : ¬ x = 0 := fun z => h0 (by rw [z]; decide)
        rw [if_neg e] at q
        exact ⟨_, rfl, _, _, _, _, rfl, rfl, hl, at1 _ _ _, q⟩
    have h5' : i ≠ 4 := fun z => by subst z; cases h5
    refine ans_if (ans_eqI (val_var rfl) val_c) (fun h6 => ?_) (fun h6 => ?_)
    · have e : i = 5 := by have := of_decide_eq_true h6; omega
      subst e
      rw [show whichKd 5 ct = ⟨.snk, 0⟩ from rfl, made_snk _ _ _ _ _ hx] at q
      exact ⟨_, rfl, _, _, _, _, rfl, rfl, hl, at0 _ _, q⟩
    have h6' : i ≠ 5 := fun z => by subst z; cases h6
    -- times
    refine ⟨_, rfl, _, rfl, (by omega), (by omega), ?_⟩
    rw [Int.toNat_natCast]
    refine for_range (n := ct) (fun j σ H1 => ∃ v, σ = [some (.int (i : Int)), some (.int (ct : Int)), some (.int (wd : Int)), some (.ref l), some (.int ((2 ^ wd : Nat) : Int)), v, none, none, none, some (.int ((2 ^ j : Nat) : Int))] ∧ H1 = H') ⟨_, rfl, rfl⟩ ?_ ?_
    · rintro j σ H1 hj ⟨v, rfl, rfl⟩
      exact ⟨_, rfl, _, _, rfl, rfl, .inr ⟨by decide, by decide⟩, some (.int (0 + (j : Int))), by rw [← dbl j]; rfl, rfl⟩
    rintro σ H1 ⟨v', rfl, rfl⟩
    have x64 : (x : Int) < 2 ^ 64 := by
      have : 2 ^ wd ≤ 2 ^ 64 := Nat.pow_le_pow_right (by decide) hw2
      omega
    refine ⟨_, rfl, rfl, _, rfl, ?_⟩
    refine ite2 (fun h7 => ?_) (fun h7 => ?_)
    · have e : i = 6 := by have := V.int.inj (of_decide_eq_true h7); omega
      subst e
      rw [show whichKd 6 ct = ⟨.up, ct⟩ from rfl, made_up] at q
      refine ⟨_, rfl, _, _, _, _, rfl, rfl, hl, at0 _ _, _, rfl, _, _, rfl, rfl, .inl ⟨by omega, x64⟩, _, rfl, _, _, rfl, rfl, (show (0 : Int) < ((2 ^ wd : Nat) : Int) by omega), ?_⟩
      rw [Int.natCast_emod, Int.natCast_mul] at q
      exact q
    · have e : i = 7 := by
        have : i ≠ 6 := fun z => h7 (by rw [z]; decide)
        omega
      subst e
      rw [show whichKd 7 ct = ⟨.down, ct⟩ from rfl, made_down _ _ _ _ _ hx] at q
      refine ⟨_, rfl, _, _, _, _, rfl, rfl, hl, at0 _ _, _, rfl, _, _, rfl, rfl, wide_div (by have := pow_pos' ct; omega) (pow_small (by omega)) (by decide) (by decide), ?_⟩
      rw [Int.natCast_ediv] at q
      exact q
end
end SW

/-! ### law k01: a kind by its class; what is asked of it -/
namespace SW
open PySem PySem.Spec PyProof.Rows L2 He TL
theorem cut_take (xs : List V) (n : Nat) : cutV xs none (some (n : Int)) = xs.take n := by
  unfold cutV
  rw [HT.sIx_none, HT.sIx_nat, List.drop_zero, Nat.sub_zero]
  by_cases h : n ≤ xs.length
  · rw [Nat.min_eq_left h]
  · rw [Nat.min_eq_right (by omega), List.take_length, List.take_of_length_le (by omega)]
theorem whichKd_ok {i ct : Nat} (h1 : 1 ≤ ct) (h2 : ct ≤ 63) : (whichKd i ct).ok := by
  intro h
  unfold whichKd at *
  by_cases h6 : 6 ≤ i
  · simp only [if_pos h6]
    omega
  · simp only [if_neg h6] at h
    match i, h with
    | 0, h => cases h
    | 1, h => cases h
    | 2, h => cases h
    | 3, h => cases h
    | 4, h => cases h
    | 5, h => cases h
    | i + 6, _ => omega
def spLawKind (K : PySem.W.Frag) : Sp := fun vs H Q _ => ∃ i ct : Nat, vs = [.int (i : Int), .int (ct : Int)] ∧ i < 8 ∧ ∀ (a : Addr) (H' : Hp), Same H H' → H a = none → KindAt K H' a (whichKd i ct) → Q (.ref a) H'
abbrev wordL (ct : Nat) : List V := [.str "and", .str "or", .str "odd", .str "plus", .str "pick", .str "out", .str (("up:" : Str) ++ (toString ((ct : Nat) : Int) : Str)), .str (("down:" : Str) ++ (toString ((ct : Nat) : Int) : Str))]
theorem at_word (i ct : Nat) (h : i < 8) : atI (wordL ct) ((i : Nat) : Int) = some (.str (whichKd i ct).word) := by
  refine atI_nat ?_
  match i, h with
  | 0, _ => rfl
  | 1, _ => rfl
  | 2, _ => rfl
  | 3, _ => rfl
  | 4, _ => rfl
  | 5, _ => rfl
  | 6, _ => rfl
  | 7, _ => rfl
theorem at_lines (i ct : Nat) (h : i < 8) : atI ([.int 2, .int 2, .int 2, .int 2, .int 3, .int 1, .int 1, .int 1] : List V) ((i : Nat) : Int) = some (.int ((whichKd i ct).c.lines : Int)) := by
  refine atI_nat ?_
  match i, h with
  | 0, _ => rfl
  | 1, _ => rfl
  | 2, _ => rfl
  | 3, _ => rfl
  | 4, _ => rfl
  | 5, _ => rfl
  | 6, _ => rfl
  | 7, _ => rfl
theorem lines_le (c : Kc) : c.lines ≤ 3 := by cases c <;> decide
theorem made_take (k : Kd) (x y z wd : Int) : Kd.made k (([x, y, z] : List Int).take k.c.lines) wd = Kd.made k [x, y, z] wd := by
  obtain ⟨c, n⟩ := k
  cases c <;> rfl
theorem made_zero (k : Kd) (n : Nat) (wd : Int) : Kd.made k (List.replicate n 0) wd = 0 := by
  have h : k.joined (List.replicate n 0) = 0 := by
    obtain ⟨c, m⟩ := k
    match n with
    | 0 => cases c <;> rfl
    | 1 => cases c <;> first | rfl | exact Int.zero_mul _ | exact Int.zero_ediv _
    | 2 => cases c <;> first | rfl | exact Int.zero_mul _ | exact Int.zero_ediv _
    | n + 3 => cases c <;> first | rfl | exact Int.zero_mul _ | exact Int.zero_ediv _
  unfold Kd.made
  rw [h, bitAnd_comm, bitAnd_zero]
theorem IsC.of {K : PySem.W.Frag} {mg : Str → Option Value} (T : Txt K mg) (c : Kc) : IsC K (ga K c.nm) (ga K "Kind") true := by
  cases c
  · exact T.is_Source_Kind
  · exact T.is_Sink_Kind
  · exact T.is_Both_Kind
  · exact T.is_Either_Kind
  · exact T.is_Odd_Kind
  · exact T.is_Plus_Kind
  · exact T.is_Pick_Kind
  · exact T.is_Up_Kind
  · exact T.is_Down_Kind
theorem lay_ints : ∀ ns : List Int, PyData.canLayAll0 (ns.map .int) = true ∧ PyData.depthAll (ns.map .int) = 0
  | [] => ⟨rfl, rfl⟩
  | n :: ns => by
    obtain ⟨h1, h2⟩ := lay_ints ns
    refine ⟨?_, ?_⟩
    · show (PyData.canLay0 (.int n) && PyData.canLayAll0 (ns.map .int)) = true
      rw [h1] <;> rfl
    · show max (PyData.depth (.int n)) (PyData.depthAll (ns.map .int)) = 0
      rw [h2] <;> rfl
theorem shaped_ints (ns : List Int) : SeqAt.shaped (.list (ns.map .int)) = true := by
  obtain ⟨h1, h2⟩ := lay_ints ns
  show (PyData.canLayAll0 (ns.map .int) && decide (PyData.depthAll (ns.map .int) + 1 ≤ 64)) = true
  rw [h1, h2] <;> rfl
theorem eqv_ints (ns : List Int) : PyData.eqv (.list (ns.map .int)) (.list (ns.map .int)) = true := SeqAt.eqv_refl _ (by
  show PyData.canLayAll0 (ns.map .int) = true
  exact (lay_ints ns).1)
theorem dp_ints {K : PySem.W.Frag} {H : Hp} : ∀ ns : List Int, DpAll K H (ns.map V.int) (ns.map PyData.int)
  | [] => .nil
  | n :: ns => .cons (.int n) (dp_ints ns)
def spAsked (K : PySem.W.Frag) : Sp := fun vs H Q _ => ∃ (i ct wd : Nat) (a l : Addr) (x y z : Nat), vs = [.ref a, .int (i : Int), .int (ct : Int), .int (wd : Int), .ref l] ∧ i < 8 ∧ 1 ≤ ct ∧ ct ≤ 63 ∧ 1 ≤ wd ∧ wd ≤ 64 ∧
  KindAt K H a (whichKd i ct) ∧ SqL K H l ([(x : Int), (y : Int), (z : Int)].map V.int) ∧ x < 2 ^ wd ∧ y < 2 ^ wd ∧ z < 2 ^ wd ∧ ∀ H', Same H H' → Q (.bl true) H'
section
variable {P : Program} {w : World} {K : PySem.W.Frag} {mg : Str → Option Value} {base : Heap}
theorem ok_law_kind (T : Txt K mg) : Ok P w K mg base 3 (ga K "_law_kind") ["_law_which", "_law_count"] (spLawKind K) := by
  have G_Up_init := ok_Up_init (P := P) (w := w) (base := base) T
  have G_Down_init := ok_Down_init (P := P) (w := w) (base := base) T
  refine mkOk T.F_law_kind sc_law_kind (fun _ _ _ _ _ _ us hl => match us, hl with | [_, _], _ => rfl) (by rintro vs H Q E ⟨_, _, rfl, _⟩; rfl) (fun cdv A outer s H vs Q E hr h => ?_)
  obtain ⟨i, ct, rfl, hi, q⟩ := h
  refine ⟨_, (pss_cons (ps_if (pt_cmpR op_lt (pv 0) pe_int (nomark _)) (pss_one (ps_ret (pe_ix (ixT (K := K)) (pe_tup (pa_cons (pe_makeO0 T.mo_Both T.g_Both) (pa_cons (pe_makeO0 T.mo_Either T.g_Either) (pa_cons (pe_makeO0 T.mo_Odd T.g_Odd) pa_nil)))) (pv 0) (fun _ _ => rfl)))) pss_nil)
      (pss_cons (ps_if (pt_cmpR op_lt (pv 0) pe_int (nomark _)) (pss_one (ps_ret (pe_ix (ixT (K := K)) (pe_tup (pa_cons (pe_makeO0 T.mo_Plus T.g_Plus) (pa_cons (pe_makeO0 T.mo_Pick T.g_Pick) (pa_cons (pe_makeO0 T.mo_Sink T.g_Sink) pa_nil)))) (pe_op op_sub (pv 0) pe_int) (fun _ _ => rfl)))) pss_nil)
      (pss_one (ps_ret (pe_ifExp (pt_cmpR op_eq (pv 0) pe_int (nomark _)) (pe_makeO T.mk_Up G_Up_init (hr.mono (by decide)) T.g_Up (pa_cons (pv 1) pa_nil)) (pe_makeO T.mk_Down G_Down_init (hr.mono (by decide)) T.g_Down (pa_cons (pv 1) pa_nil))))))), ?_⟩
  refine ans_if (ans_I0 (val_var rfl) val_c) (fun h3 => ?_) (fun h3 => ?_)
  · have hi3 : i < 3 := by have := of_decide_eq_true h3; omega
    intro x0 d0 n0 m0 e0
    obtain ⟨s0, k0⟩ := new_obj (C := ga K "Both") n0 m0
    revert s0 k0
    generalize upd (upd H d0 (HO.own x0)) x0 (HO.ins (ga K "Both") d0 []) = H1
    intro s0 k0 x1 d1 n1 m1 e1
    obtain ⟨s1, k1⟩ := new_obj (C := ga K "Either") n1 m1
    revert s1 k1
    generalize upd (upd H1 d1 (HO.own x1)) x1 (HO.ins (ga K "Either") d1 []) = H2
    intro s1 k1 x2 d2 n2 m2 e2
    obtain ⟨s2, k2⟩ := new_obj (C := ga K "Odd") n2 m2
    revert s2 k2
    generalize upd (upd H2 d2 (HO.own x2)) x2 (HO.ins (ga K "Odd") d2 []) = H3
    intro s2 k2
    refine ⟨(by show 3 ≤ sizeLine; decide), fun p hp => ?_⟩
    have s3 : Same H3 (upd H3 p (.tup [.ref x0, .ref x1, .ref x2])) := Same.new hp
    have sA := ((s0.trans s1).trans s2).trans s3
    match i, hi3 with
    | 0, _ => exact ⟨_, rfl, p, _, _, _, rfl, rfl, SqT.of upd_same, atI_nat (j := 0) rfl, q x0 _ sA n0 ⟨d0, s3 _ _ (s2 _ _ (s1 _ _ k0))⟩⟩
    | 1, _ => exact ⟨_, rfl, p, _, _, _, rfl, rfl, SqT.of upd_same, atI_nat (j := 1) rfl, q x1 _ sA (s0.free n1) ⟨d1, s3 _ _ (s2 _ _ k1)⟩⟩
    | 2, _ => exact ⟨_, rfl, p, _, _, _, rfl, rfl, SqT.of upd_same, atI_nat (j := 2) rfl, q x2 _ sA ((s0.trans s1).free n2) ⟨d2, s3 _ _ k2⟩⟩
  have hi3 : ¬ i < 3 := fun z => by rw [show decide ((i : Int) < 3) = true from decide_eq_true (by omega)] at h3; cases h3
  refine ans_if (ans_I0 (val_var rfl) val_c) (fun h6 => ?_) (fun h6 => ?_)
  · have hi6 : i < 6 := by have := of_decide_eq_true h6; omega
    intro x0 d0 n0 m0 e0
    obtain ⟨s0, k0⟩ := new_obj (C := ga K "Plus") n0 m0
    revert s0 k0
    generalize upd (upd H d0 (HO.own x0)) x0 (HO.ins (ga K "Plus") d0 []) = H1
    intro s0 k0 x1 d1 n1 m1 e1
    obtain ⟨s1, k1⟩ := new_obj (C := ga K "Pick") n1 m1
    revert s1 k1
    generalize upd (upd H1 d1 (HO.own x1)) x1 (HO.ins (ga K "Pick") d1 []) = H2
    intro s1 k1 x2 d2 n2 m2 e2
    obtain ⟨s2, k2⟩ := new_obj (C := ga K "Sink") n2 m2
    revert s2 k2
    generalize upd (upd H2 d2 (HO.own x2)) x2 (HO.ins (ga K "Sink") d2 []) = H3
    intro s2 k2
    refine ⟨(by show 3 ≤ sizeLine; decide), fun p hp => ?_⟩
    have s3 : Same H3 (upd H3 p (.tup [.ref x0, .ref x1, .ref x2])) := Same.new hp
    have sA := ((s0.trans s1).trans s2).trans s3
    refine ⟨_, rfl, _, _, rfl, rfl, ?_⟩
    obtain rfl | rfl | rfl : i = 3 ∨ i = 4 ∨ i = 5 := by omega
    · exact ⟨p, _, _, _, rfl, rfl, SqT.of upd_same, atI_nat (j := 0) rfl, q x0 _ sA n0 ⟨d0, s3 _ _ (s2 _ _ (s1 _ _ k0))⟩⟩
    · exact ⟨p, _, _, _, rfl, rfl, SqT.of upd_same, atI_nat (j := 1) rfl, q x1 _ sA (s0.free n1) ⟨d1, s3 _ _ (s2 _ _ k1)⟩⟩
    · exact ⟨p, _, _, _, rfl, rfl, SqT.of upd_same, atI_nat (j := 2) rfl, q x2 _ sA ((s0.trans s1).free n2) ⟨d2, s3 _ _ k2⟩⟩
  have hi6 : ¬ i < 6 := fun z => by rw [show decide ((i : Int) < 6) = true from decide_eq_true (by omega)] at h6; cases h6
  have mkd : ∀ {x dx C : Addr} {fs : List (Str × V)}, H x = none → H dx = none → Same H (upd (upd (upd H dx (.own x)) x (.ins C dx [])) x (.ins C dx fs)) := fun nx mx b o e => by
    rw [upd_ne (ne_of_none e nx), upd_ne (ne_of_none e nx), upd_ne (ne_of_none e mx)]
    exact e
  refine ⟨_, rfl, rfl, _, rfl, ?_⟩
  refine ite2 (fun h7 => ?_) (fun h7 => ?_)
  · have e : i = 6 := by have := V.int.inj (of_decide_eq_true h7); omega
    subst e
    refine ⟨_, rfl, ?_⟩
    intro x dx nx mx ex
    exact ⟨x, dx, _, rfl, upd_same, rfl, q x _ (mkd nx mx) nx ⟨dx, upd_same⟩⟩
  · have e : i = 7 := by
      have : i ≠ 6 := fun z => h7 (by rw [z]; decide)
      omega
    subst e
    refine ⟨_, rfl, ?_⟩
    intro x dx nx mx ex
    exact ⟨x, dx, _, rfl, upd_same, rfl, q x _ (mkd nx mx) nx ⟨dx, upd_same⟩⟩

theorem ok_law_asked (T : Txt K mg) : Ok P w K mg base 3 (ga K "_law_asked") ["_law_kind_here", "_law_which", "_law_count", "_law_width", "_law_numbers"] (spAsked K) := by
  have G_kind_word := ok_kind_word (P := P) (w := w) (base := base) T
  have G_kind_lines := ok_kind_lines (P := P) (w := w) (base := base) T
  have G_kind_made := ok_kind_made (P := P) (w := w) (base := base) T
  have G_law_made := ok_law_made (P := P) (w := w) (base := base) T
  refine mkOk T.F_law_asked sc_law_asked (fun _ _ _ _ _ _ us hl => match us, hl with | [_, _, _, _, _], _ => rfl) (by rintro vs H Q E ⟨_, _, _, _, _, _, _, _, rfl, _⟩; rfl) (fun cdv A outer s H vs Q E hr h => ?_)
  obtain ⟨i, ct, wd, a, l, x, y, z, rfl, hi, hc1, hc2, hw1, hw2, hk, hl, hx, hy, hz, q⟩ := h
  have hok := whichKd_ok (i := i) hc1 hc2
  refine ⟨_, (pss_cons (ps_set (i := 5) sc_law_asked.nd rfl (by first | exact Or.inl rfl | exact Or.inr rfl) (pe_tup (pa_cons pe_str (pa_cons pe_str (pa_cons pe_str (pa_cons pe_str (pa_cons pe_str (pa_cons pe_str (pa_cons (pe_op op_add_str pe_str (pe_callTy call_str_int (by rfl) T.f_str (by decide +kernel) (pa_cons (pv 2) pa_nil))) (pa_cons (pe_op op_add_str pe_str (pe_callTy call_str_int (by rfl) T.f_str (by decide +kernel) (pa_cons (pv 2) pa_nil))) pa_nil))))))))))
      (pss_cons (ps_set (i := 6) sc_law_asked.nd rfl (by first | exact Or.inl rfl | exact Or.inr rfl) (pe_ix (ixT (K := K)) (pe_tup (pa_cons pe_int (pa_cons pe_int (pa_cons pe_int (pa_cons pe_int (pa_cons pe_int (pa_cons pe_int (pa_cons pe_int (pa_cons pe_int pa_nil))))))))) (pv 1) (fun _ _ => rfl)))
      (pss_cons (ps_if (PW.pt (pw_or (pt_not (pt_val (pe_callB (isiK (K := K)) (by rfl) T.f_isinstance (by decide +kernel) (pa_cons (pv 0) (pa_cons (pe_glob (v := .ref (ga K "Kind")) rfl T.g_Kind rfl) pa_nil))))) (pw_or (pt_cmpR op_ne (pe_ex fun c => (G_kind_word c).use fun fd F b => pe_meth0 (pv 0) (T.ck c) (T.mk_word_ c) F (hr.mono (by decide)) b .nil pass0) (pe_ix (ixT (K := K)) (pv 5) (pv 1) (fun _ _ => rfl)) (nomark _)) (pw_or1 (pt_cmpR op_ne (pe_ex fun c => (G_kind_lines c).use fun fd F b => pe_meth0 (pv 0) (T.ck c) (T.mk_lines_ c) F (hr.mono (by decide)) b .nil pass0) (pv 6) (nomark _)))))) (pss_one (ps_ret pe_bl)) pss_nil)
      (pss_cons (ps_set (i := 7) sc_law_asked.nd rfl (by first | exact Or.inl rfl | exact Or.inr rfl) (pe_slice (slL (K := K)) (pv 4) po_none (po_some (pv 6))))
      (pss_cons (ps_set (i := 8) sc_law_asked.nd rfl (by first | exact Or.inl rfl | exact Or.inr rfl) (pe_ex fun c => (G_kind_made c).use fun fd F b => pe_meth (pv 0) (T.ck c) (T.mk_made_ c) F (hr.mono (by decide)) b .nil pass0 (pa_cons (pv 7) (pa_cons (pv 3) pa_nil))))
      (pss_cons (ps_if (PW.pt (pw_or (pt_not (pt_val (pe_callB (isiK (K := K)) (by rfl) T.f_isinstance (by decide +kernel) (pa_cons (pv 8) (pa_cons (pe_bltn (v := .ty "int") (u := .type "int") (by rfl) T.f_int (by decide +kernel) rfl) pa_nil))))) (pw_or (pt_val (pe_callB (isiK (K := K)) (by rfl) T.f_isinstance (by decide +kernel) (pa_cons (pv 8) (pa_cons (pe_bltn (v := .ty "bool") (u := .type "bool") (by rfl) T.f_bool (by decide +kernel) rfl) pa_nil)))) (pw_or1 (pt_cmpR op_ne (pv 8) (pe_callO G_law_made (hr.mono (by decide)) T.g_law_made (pa_cons (pv 1) (pa_cons (pv 2) (pa_cons (pv 3) (pa_cons (pv 4) pa_nil))))) (nomark _)))))) (pss_one (ps_ret pe_bl)) pss_nil)
      (pss_one (ps_ret (pe_and (pe_cmpR (eqDK (K := K) hr.units) (pv 7) (pe_slice (slL (K := K)) (pv 4) po_none (po_some (pv 6))) (nomark _)) (pe_one (pe_cmpR op_eq (pe_ex fun c => (G_kind_made c).use fun fd F b => pe_meth (pv 0) (T.ck c) (T.mk_made_ c) F (hr.mono (by decide)) b .nil pass0 (pa_cons (pe_op op_rep (pe_lst (pa_cons pe_int pa_nil)) (pv 6)) (pa_cons (pv 3) pa_nil))) pe_int (nomark _)))))))))))), ?_⟩
  have hn := num_len (n := ((ct : Nat) : Int)) (by omega) (by omega)
  have p64 : 2 ^ wd ≤ 2 ^ 64 := Nat.pow_le_pow_right (by decide) hw2
  -- words
  refine ⟨_, rfl, _, rfl, dgt _ (Nat.lt_of_lt_of_le (by omega : ((ct : Nat) : Int).natAbs < 64) (by decide)), _, _, rfl, rfl, Nat.le_trans (show ("up:" : Str).length + (Str.ofString (toString ((ct : Nat) : Int))).length ≤ 100 by rw [up_len]; omega) (by decide), ?_⟩
  refine ⟨_, rfl, _, rfl, dgt _ (Nat.lt_of_lt_of_le (by omega : ((ct : Nat) : Int).natAbs < 64) (by decide)), _, _, rfl, rfl, Nat.le_trans (show ("down:" : Str).length + (Str.ofString (toString ((ct : Nat) : Int))).length ≤ 100 by rw [down_len]; omega) (by decide), ?_⟩
  refine ⟨(by show 8 ≤ sizeLine; decide), fun p1 hp1 => ?_⟩
  have s1 : Same H (upd H p1 (.tup (wordL ct))) := Same.new hp1
  have e1 : (upd H p1 (.tup (wordL ct))) p1 = some (.tup (wordL ct)) := upd_same
  revert s1 e1
  show Same H (upd H p1 (HO.tup (wordL ct))) → _ → _
  generalize upd H p1 (HO.tup (wordL ct)) = H1
  intro s1 e1
  -- lines
  refine ⟨(by show 8 ≤ sizeLine; decide), fun p2 hp2 => ?_⟩
  refine ⟨_, rfl, p2, _, _, _, rfl, rfl, SqT.of upd_same, at_lines i ct hi, ?_⟩
  have s2 : Same H1 (upd H1 p2 (.tup [.int 2, .int 2, .int 2, .int 2, .int 3, .int 1, .int 1, .int 1])) := Same.new hp2
  revert s2
  generalize upd H1 p2 (HO.tup [.int 2, .int 2, .int 2, .int 2, .int 3, .int 1, .int 1, .int 1]) = H2
  intro s2
  have s02 := s1.trans s2
  have hk2 := hk.mono s02
  have hw2' : SqT K H2 p1 (wordL ct) := SqT.of (s2 _ _ e1)
  have ⟨dx, ha2⟩ := hk2
  have hI := IsC.of T (whichKd i ct).c
  -- isinstance, word, lines
  refine ⟨_, rfl, _, _, _, _, true, rfl, .own _, hI.ty (T.ck _) ha2, hI.k, true, rfl, iteF ?_⟩
  refine ⟨(whichKd i ct).c, _, rfl, a, dx, _, rfl, ha2, flds_no _ (by decide +kernel), a, _, rfl, hk2, rfl, hok, _, rfl, _, rfl, p1, _, _, _, rfl, rfl, hw2', at_word i ct hi, rfl, _, rfl, iteNS rfl ?_⟩
  refine ⟨(whichKd i ct).c, _, rfl, a, dx, _, rfl, ha2, flds_no _ (by decide +kernel), a, _, rfl, hk2, rfl, _, rfl, rfl, _, rfl, iteNS rfl ?_⟩
  -- handed
  have hl2 := s02.seq hl
  refine ⟨_, rfl, _, rfl, _, rfl, l, _, rfl, hl2, fun p3 hp3 => ?_⟩
  rw [cut_take, ← List.map_take]
  have s3 : Same H2 (upd H2 p3 (.lst ((([(x : Int), (y : Int), (z : Int)] : List Int).take (whichKd i ct).c.lines).map V.int))) := Same.new hp3
  have e3 : (upd H2 p3 (.lst ((([(x : Int), (y : Int), (z : Int)] : List Int).take (whichKd i ct).c.lines).map V.int))) p3 = _ := upd_same
  revert s3 e3
  generalize upd H2 p3 (HO.lst ((([(x : Int), (y : Int), (z : Int)] : List Int).take (whichKd i ct).c.lines).map V.int)) = H3
  intro s3 e3
  have s03 := s02.trans s3
  have hk3 := hk.mono s03
  have ⟨dx3, ha3⟩ := hk3
  have hl3 := s03.seq hl
  have hb : ∀ n ∈ ([(x : Int), (y : Int), (z : Int)] : List Int).take (whichKd i ct).c.lines, 0 ≤ n ∧ n < 2 ^ 64 := by
    intro n hn
    have := List.mem_of_mem_take hn
    simp only [List.mem_cons, List.not_mem_nil, or_false] at this
    rcases this with rfl | rfl | rfl <;> omega
  have hln : (whichKd i ct).c.lines ≤ (([(x : Int), (y : Int), (z : Int)] : List Int).take (whichKd i ct).c.lines).length := by
    have := lines_le (whichKd i ct).c
    rw [List.length_take]
    show _ ≤ min _ 3
    omega
  -- made
  refine ⟨(whichKd i ct).c, _, rfl, a, dx3, _, rfl, ha3, flds_no _ (by decide +kernel), _, rfl, _, rfl, a, _, p3, _, _, rfl, hk3, rfl, hok, SqL.of e3, hln, hb, by omega, by omega, ?_⟩
  rw [made_take]
  refine ⟨_, rfl, _, _, _, _, true, rfl, .ty _, .base (.int _), kit_ty (by decide +kernel), true, rfl, iteF ?_⟩
  refine ⟨_, rfl, _, _, _, _, false, rfl, .ty _, .base (.int _), kit_ty (by decide +kernel), false, rfl, iteF ?_⟩
  refine ⟨_, rfl, _, rfl, _, rfl, _, rfl, _, rfl, i, ct, wd, l, x, y, z, rfl, hi, hc1, hc2, hw1, hw2, hl3, hx, hy, hz, rfl, _, rfl, iteNS rfl ?_⟩
  -- handed == numbers[:lines] and made([0] * lines) == 0
  refine ⟨_, rfl, _, rfl, _, rfl, _, rfl, l, _, rfl, hl3, fun p4 hp4 => ?_⟩
  rw [cut_take, ← List.map_take]
  have s4 : Same H3 (upd H3 p4 (.lst ((([(x : Int), (y : Int), (z : Int)] : List Int).take (whichKd i ct).c.lines).map V.int))) := Same.new hp4
  have e4 : (upd H3 p4 (.lst ((([(x : Int), (y : Int), (z : Int)] : List Int).take (whichKd i ct).c.lines).map V.int))) p4 = _ := upd_same
  revert s4 e4
  generalize upd H3 p4 (HO.lst ((([(x : Int), (y : Int), (z : Int)] : List Int).take (whichKd i ct).c.lines).map V.int)) = H4
  intro s4 e4
  refine ⟨_, _, .lst (SqL.of (s4 _ _ e3)) (dp_ints _), .lst (SqL.of e4) (dp_ints _), shaped_ints _, shaped_ints _, ?_⟩
  refine ⟨_, rfl, ?_⟩
  rw [eqv_ints]
  refine iteT ?_
  have s04 := s03.trans s4
  have ⟨dx4, ha4⟩ := hk.mono s04
  refine ⟨(whichKd i ct).c, _, rfl, a, dx4, _, rfl, ha4, flds_no _ (by decide +kernel), (by show 1 ≤ sizeLine; decide), fun p5 hp5 => ?_⟩
  have h3 := lines_le (whichKd i ct).c
  refine ⟨_, rfl, p5, _, _, rfl, rfl, upd_same, by omega, by omega, line_le (by show 1 * _ ≤ _; omega), fun p6 hp6 => ?_⟩
  have s5 : Same H4 (upd H4 p5 (.lst [.int 0])) := Same.new hp5
  have s6 := (s04.trans s5).trans (Same.new (o := .lst (List.replicate ((((whichKd i ct).c.lines : Nat) : Int)).toNat [V.int 0]).flatten) hp6)
  have e6 : ∀ n : Nat, (List.replicate n [V.int 0]).flatten = (List.replicate n (0 : Int)).map V.int := fun n => by
    induction n with
    | zero => rfl
    | succ n ih => rw [List.replicate_succ, List.replicate_succ, List.flatten_cons, ih] <;> rfl
  refine ⟨_, rfl, a, _, p6, List.replicate (whichKd i ct).c.lines 0, _, rfl, hk.mono s6, rfl, hok, SqL.of (Eq.trans upd_same (by rw [Int.toNat_natCast, e6])), by rw [List.length_replicate] <;> exact Nat.le_refl _, fun n hn => ?_, by omega, by omega, rfl, ?_⟩
  · rw [(List.mem_replicate.mp hn).2]
    omega
  · rw [made_zero]
    exact q _ s6
end
end SW

/-! ### law k01 -/
namespace SW
open PySem PySem.Spec PyProof.Rows L2 He TL
def wrongs : List Str := ["", "nand", "up", "up:", "up:0", "up:64", "down:064", "up:03", "down:a", "out:1", "In", "up:3:1", "up: 3"]
theorem wrong_none : ∀ z ∈ wrongs, kindBy z = none := by decide +kernel
theorem wrong_len : ∀ z ∈ wrongs, z.length ≤ 100000 := by decide +kernel
theorem in_src : kindBy "in" = some ⟨.src, 0⟩ := by decide +kernel
theorem kindBy_word' : ∀ i < 8, ∀ ct < 64, 1 ≤ ct → kindBy (whichKd i ct).word = some (whichKd i ct) ∧ (whichKd i ct).word.length ≤ 100000 := by decide +kernel
def spLaw (K : PySem.W.Frag) : Sp := fun vs H Q _ => ∃ (a : Addr) (ns : List Int), vs = [.ref a] ∧ SqL K H a (ns.map V.int) ∧ ns.length ≤ 63 ∧ ∀ H', Q (.bl true) H'

section
variable {P : Program} {w : World} {K : PySem.W.Frag} {mg : Str → Option Value} {base : Heap}
def lawLevel : Nat := 6
theorem ok_law (T : Txt K mg) : Ok P w K mg base lawLevel (ga K "law") ["_law_script"] (spLaw K) := by
  have G_kind_by := ok_kind_by (P := P) (w := w) (base := base) T
  have G_kind_word := ok_kind_word (P := P) (w := w) (base := base) T
  have G_kind_lines := ok_kind_lines (P := P) (w := w) (base := base) T
  have G_Source_word := ok_Source_word (P := P) (w := w) (base := base) T
  have G_law_draw := ok_draw (P := P) (w := w) (base := base) T
  have G_law_kind := ok_law_kind (P := P) (w := w) (base := base) T
  have G_law_asked := ok_law_asked (P := P) (w := w) (base := base) T
  refine mkOk T.F_law sc_law (fun _ _ _ _ _ _ us hl => match us, hl with | [_], _ => rfl) (by rintro vs H Q E ⟨_, _, rfl, _⟩; rfl) (fun cdv A outer s H vs Q E hr h => ?_)
  obtain ⟨a, ns, rfl, hS, hlen, q⟩ := h
  refine ⟨_, (pss_cons (ps_set (i := 1) sc_law.nd rfl (by first | exact Or.inl rfl | exact Or.inr rfl) (pe_tup (pa_cons pe_str (pa_cons pe_str (pa_cons pe_str (pa_cons pe_str (pa_cons pe_str (pa_cons pe_str (pa_cons pe_str (pa_cons pe_str (pa_cons pe_str (pa_cons pe_str (pa_cons pe_str (pa_cons pe_str (pa_cons pe_str pa_nil)))))))))))))))
      (pss_cons (ps_for PassesOwn.never rfl (piT (K := K) (pv 1)) (pg_name (i := 2) sc_law.nd rfl (by first | exact Or.inl rfl | exact Or.inr rfl))
      (pss_one (ps_if (pt_cmpR op_notN (pe_callO G_kind_by (hr.mono (by decide)) T.g_kind_by (pa_cons (pv 2) pa_nil)) pe_non (nomark _)) (pss_one (ps_ret pe_bl)) pss_nil)))
      (pss_cons (ps_set (i := 3) sc_law.nd rfl (by first | exact Or.inl rfl | exact Or.inr rfl) (pe_callO G_kind_by (hr.mono (by decide)) T.g_kind_by (pa_cons pe_str pa_nil)))
      (pss_cons (ps_if (PW.pt (pw_or (pt_not (pt_val (pe_callB (isiK (K := K)) (by rfl) T.f_isinstance (by decide +kernel) (pa_cons (pv 3) (pa_cons (pe_glob (v := .ref (ga K "Source")) rfl T.g_Source rfl) pa_nil))))) (pw_or (pt_cmpR op_ne (pe_ex fun c => (G_kind_lines c).use fun fd F b => pe_meth0 (pv 3) (T.ck c) (T.mk_lines_ c) F (hr.mono (by decide)) b .nil pass0) pe_int (nomark _)) (pw_or (pt_cmpR op_ne (pe_ex fun c => (G_kind_word c).use fun fd F b => pe_meth0 (pv 3) (T.ck c) (T.mk_word_ c) F (hr.mono (by decide)) b .nil pass0) pe_str (nomark _)) (pw_or1 (pt_cmpR op_ne (G_Source_word.use fun fd F b => pe_meth0 (pe_makeO0 T.mo_Source T.g_Source) T.c_Source T.m_Source_word F (hr.mono (by decide)) b .nil pass0) pe_str (nomark _))))))) (pss_one (ps_ret pe_bl)) pss_nil)
      (pss_cons (ps_for PassesOwn.never rfl (pi_range1 (by rfl) T.f_range (pa_cons (pe_callB (call_min2 rfl) (by rfl) T.f_min (by decide +kernel) (pa_cons (pe_callB (lenQ (K := K)) (by rfl) T.f_len (by decide +kernel) (pa_cons (pv 0) pa_nil)) (pa_cons pe_int pa_nil))) pa_nil)) (pg_name (i := 4) sc_law.nd rfl (by first | exact Or.inl rfl | exact Or.inr rfl))
      (pss_cons (ps_set (i := 5) sc_law.nd rfl (by first | exact Or.inl rfl | exact Or.inr rfl) (pe_op op_add (pe_ix (ixL (K := K)) (pv 0) (pv 4) (fun _ _ => rfl)) (pe_op op_mul pe_int (pv 4))))
      (pss_cons (ps_set (i := 6) sc_law.nd rfl (by first | exact Or.inl rfl | exact Or.inr rfl) (pe_callO G_law_draw (hr.mono (by decide)) T.g_law_draw (pa_cons (pv 5) (pa_cons pe_int (pa_cons pe_int pa_nil)))))
      (pss_cons (ps_set (i := 7) sc_law.nd rfl (by first | exact Or.inl rfl | exact Or.inr rfl) (pe_op op_add pe_int (pe_callO G_law_draw (hr.mono (by decide)) T.g_law_draw (pa_cons (pv 5) (pa_cons pe_int (pa_cons pe_int pa_nil))))))
      (pss_cons (ps_set (i := 8) sc_law.nd rfl (by first | exact Or.inl rfl | exact Or.inr rfl) (pe_op op_add pe_int (pe_callO G_law_draw (hr.mono (by decide)) T.g_law_draw (pa_cons (pv 5) (pa_cons pe_int (pa_cons pe_int pa_nil))))))
      (pss_cons (ps_setLc (i := 9) (own := [("_law_k", 10)]) rfl sc_law.nd rfl rfl (sw_true rfl rfl rfl (by decide +kernel)) (pi_range1 (by rfl) T.f_range (pa_cons pe_int pa_nil)) (blkOk_by (own := [("_law_k", 10)]) (N := ["_law_script", "_law_wrong", "_law_word", "_law_source", "_law_at", "_law_cell", "_law_which", "_law_count", "_law_width", "_law_numbers", "_law_k", "_law_kind_here"]) (sc := defScope s_law) (by decide +kernel)) (fun _ _ _ _ _ => (pg_name (i := 10) sc_law.nd rfl (by first | exact Or.inl rfl | exact Or.inr rfl))) (fun _ _ _ _ _ => pts_nil) (fun _ _ _ _ _ => (pe_op op_mod (pe_op op_add (pe_op op_mul (pe_ix (ixL (K := K)) (pv 0) (pv 4) (fun _ _ => rfl)) (pe_op op_add (pv 10) pe_int)) (pe_op op_mul pe_int (pv 10))) (pe_op op_shl pe_int (pv 8)))))
      (Evl.pss_cut (ps_if (pt_cmpR op_eq (pe_callO G_law_draw (hr.mono (by decide)) T.g_law_draw (pa_cons (pv 5) (pa_cons pe_int (pa_cons pe_int pa_nil)))) pe_int (nomark _)) (pss_one (ps_asg pe_int (pg_sub (pv 9) (pe_callO G_law_draw (hr.mono (by decide)) T.g_law_draw (pa_cons (pv 5) (pa_cons pe_int (pa_cons pe_int pa_nil)))) set_list))) pss_nil)
      (Evl.pss_cut (ps_if (pt_cmpR op_eq (pe_callO G_law_draw (hr.mono (by decide)) T.g_law_draw (pa_cons (pv 5) (pa_cons pe_int (pa_cons pe_int pa_nil)))) pe_int (nomark _)) (pss_one (ps_asg (pe_op op_sub (pe_op op_shl pe_int (pv 8)) pe_int) (pg_sub (pv 9) (pe_callO G_law_draw (hr.mono (by decide)) T.g_law_draw (pa_cons (pv 5) (pa_cons pe_int (pa_cons pe_int pa_nil)))) set_list))) pss_nil)
      (pss_cons (ps_set (i := 11) sc_law.nd rfl (by first | exact Or.inl rfl | exact Or.inr rfl) (pe_callO G_law_kind (hr.mono (by decide)) T.g_law_kind (pa_cons (pv 6) (pa_cons (pv 7) pa_nil))))
      (pss_cons (ps_if (pt_not (pt_val (pe_callO G_law_asked (hr.mono (by decide)) T.g_law_asked (pa_cons (pv 11) (pa_cons (pv 6) (pa_cons (pv 7) (pa_cons (pv 8) (pa_cons (pv 9) pa_nil)))))))) (pss_one (ps_ret pe_bl)) pss_nil)
      (pss_one (ps_if (pt_not (pt_val (pe_callO G_law_asked (hr.mono (by decide)) T.g_law_asked (pa_cons (pe_callO G_kind_by (hr.mono (by decide)) T.g_kind_by (pa_cons (pe_ex fun c => (G_kind_word c).use fun fd F b => pe_meth0 (pv 11) (T.ck c) (T.mk_word_ c) F (hr.mono (by decide)) b .nil pass0) pa_nil)) (pa_cons (pv 6) (pa_cons (pv 7) (pa_cons (pv 8) (pa_cons (pv 9) pa_nil)))))))) (pss_one (ps_ret pe_bl)) pss_nil))))))))))))
      (pss_one (ps_ret pe_bl))))))), ?_⟩
  -- the words that tell no kind
  refine ⟨(by show 13 ≤ sizeLine; decide), fun p0 hp0 => ?_⟩
  have s1 : Same H (upd H p0 (.tup (wrongs.map V.str))) := Same.new hp0
  refine ⟨_, rfl, p0, rfl, ⟨_, SqT.of upd_same⟩, ?_⟩
  refine for_tup (K := K) (a := p0) (xs := wrongs.map V.str) (fun i σ H' => ∃ v, σ = [some (.ref a), some (.ref p0), v, none, none, none, none, none, none, none, none, none] ∧ Same (upd H p0 (.tup (wrongs.map V.str))) H')
    ⟨none, rfl, Same.refl _⟩ (fun i σ H' _ h => by obtain ⟨_, _, h⟩ := h; exact SqT.of (h _ _ upd_same)) ?_ ?_
  · rintro i x σ H' hi ⟨v, rfl, s2⟩
    obtain ⟨z, hz, rfl⟩ : ∃ z ∈ wrongs, x = .str z := by
      rw [List.getElem?_map] at hi
      cases e : wrongs[i]? with
      | none => rw [e] at hi; cases hi
      | some z => rw [e] at hi; cases hi; exact ⟨z, List.mem_of_getElem? e, rfl⟩
    refine ⟨_, rfl, z, rfl, wrong_len z hz, fun v' H2 s3 kr => ?_⟩
    rw [wrong_none z hz] at kr
    cases (show v' = .non from kr)
    exact ⟨rfl, _, rfl, iteNS rfl ⟨_, rfl, s2.trans s3⟩⟩
  rintro σ H1 ⟨v, rfl, s2⟩
  have s02 := s1.trans s2
  clear s1 s2
  -- the source
  refine ⟨"in", rfl, by decide +kernel, fun v' H2 s3 kr => ?_⟩
  rw [in_src] at kr
  obtain ⟨x, rfl, hx1, hk⟩ := kr
  have s03 := s02.trans s3
  have ⟨dx, hx⟩ := hk
  have hI := T.is_Source_Source
  refine ⟨_, rfl, _, _, _, _, true, rfl, .own _, hI.ty T.c_Source hx, hI.k, true, rfl, iteF ?_⟩
  refine ⟨.src, _, rfl, x, dx, _, rfl, hx, rfl, x, _, rfl, hk, rfl, rfl, _, rfl, iteNS rfl ?_⟩
  refine ⟨.src, _, rfl, x, dx, _, rfl, hx, rfl, x, _, rfl, hk, rfl, (fun z => by cases z), rfl, _, rfl, iteNS rfl ?_⟩
  intro x2 dx2 nx mx ex
  obtain ⟨s4, k4⟩ := new_obj (C := ga K "Source") nx mx
  refine ⟨x2, dx2, _, rfl, upd_same, rfl, x2, ⟨.src, 0⟩, rfl, ⟨dx2, upd_same⟩, rfl, (fun z => by cases z), rfl, _, rfl, iteNS rfl ?_⟩
  have s04 := s03.trans s4
  revert s04
  generalize upd (upd H2 dx2 (HO.own x2)) x2 (HO.ins (ga K "Source") dx2 []) = H3
  intro s04
  have hS3 := s04.seq hS
  -- for at in range(min(len(script), 40))
  refine ⟨_, rfl, a, _, rfl, .inl hS3, _, _, rfl, ?_⟩
  rw [List.length_map]
  refine ⟨_, rfl, by split <;> omega, by split <;> omega, ?_⟩
  refine for_range (fun i σ H' => ∃ v1 v2 v3 v4 v5 v6 v7 v8 v9 v10 v11, σ = [some (.ref a), v1, v2, v3, v4, v5, v6, v7, v8, v9, v10, v11] ∧ Same H H') ⟨_, _, _, _, _, _, _, _, _, _, _, rfl, s04⟩ ?hb ?he
  case he =>
    rintro σ H' ⟨v1, v2, v3, v4, v5, v6, v7, v8, v9, v10, v11, rfl, s5⟩
    exact q _
  rintro i σ H4 hi ⟨v1, v2, v3, v4, v5, v6, v7, v8, v9, v10, v11, rfl, s5⟩
  have hil : i < ns.length := by
    split at hi <;> omega
  obtain ⟨n, hn⟩ : ∃ n, ns[i]? = some n := ⟨ns[i], List.getElem?_eq_getElem hil⟩
  have hcell : ∀ H', Same H H' → SqL K H' a (ns.map V.int) := fun H' s => s.seq hS
  have hat : atI (ns.map V.int) (0 + (i : Int)) = some (.int n) := at_of (j := i) (by omega) (by rw [List.getElem?_map, hn] <;> rfl)
  refine ⟨_, rfl, _, rfl, a, _, _, _, rfl, rfl, hcell _ s5, hat, _, rfl, _, _, rfl, rfl, .inl ⟨by decide, by decide⟩, _, _, rfl, rfl, ?_⟩
  dsimp only
  generalize n + 977 * (0 + (i : Int)) = cell
  -- which, count, width
  refine ⟨_, rfl, cell, 0, 8, rfl, by decide, by decide, fun H5 s6 => ?_⟩
  obtain ⟨wi, hwi, hwi8⟩ : ∃ wi : Nat, draw cell 0 8 = (wi : Int) ∧ wi < 8 := ⟨(draw cell 0 8).toNat, by have := draw_lo cell 0 (m := 8) (by decide); omega, by have := draw_hi cell 0 (m := 8) (by decide); omega⟩
  rw [hwi]
  refine ⟨_, rfl, cell, 1, 63, rfl, by decide, by decide, fun H6 s7 => ?_⟩
  obtain ⟨ct, hct, hc1, hc2⟩ : ∃ ct : Nat, 1 + draw cell 1 63 = (ct : Int) ∧ 1 ≤ ct ∧ ct ≤ 63 := ⟨(1 + draw cell 1 63).toNat, by have := draw_lo cell 1 (m := 63) (by decide); omega, by have := draw_lo cell 1 (m := 63) (by decide); omega, by have := draw_hi cell 1 (m := 63) (by decide); omega⟩
  refine ⟨_, _, rfl, rfl, ?_⟩
  dsimp only
  rw [hct]
  refine ⟨_, rfl, cell, 2, 64, rfl, by decide, by decide, fun H7 s8 => ?_⟩
  obtain ⟨wd, hwd, hw1, hw2⟩ : ∃ wd : Nat, 1 + draw cell 2 64 = (wd : Int) ∧ 1 ≤ wd ∧ wd ≤ 64 := ⟨(1 + draw cell 2 64).toNat, by have := draw_lo cell 2 (m := 64) (by decide); omega, by have := draw_lo cell 2 (m := 64) (by decide); omega, by have := draw_hi cell 2 (m := 64) (by decide); omega⟩
  refine ⟨_, _, rfl, rfl, ?_⟩
  dsimp only
  rw [hwd]
  have s9 := ((s5.trans s6).trans s7).trans s8
  clear s6 s7 s8 s5
  have hpow : (1 : Int) * 2 ^ ((wd : Nat) : Int).toNat = ((2 ^ wd : Nat) : Int) := by rw [Int.one_mul, Int.toNat_natCast, pow_cast]
  have ppos := pow_pos' wd
  -- the numbers
  refine ⟨3, rfl, by decide, by decide, fun D hD => ?_⟩
  have hDH : H D = none := s9.free hD
  refine lc_range (lo := 0) (n := 3) (fun j H' => ∃ xs : List Nat, xs.length = j ∧ (∀ x ∈ xs, x < 2 ^ wd) ∧ H' D = some (.lst (xs.map fun (x : Nat) => V.int (x : Int))) ∧ Same H H')
    ⟨[], rfl, fun x h => (by cases h), upd_same, s9.trans (Same.new hD)⟩ ?_ ?_
  · rintro j H' hj ⟨xs, hx1, hx2, hx3, hx4⟩
    refine ⟨rfl, ?_⟩
    refine iteT (B := True) ?_
    refine ⟨_, rfl, _, rfl, a, _, _, _, rfl, rfl, hcell _ hx4, hat, _, rfl, _, _, rfl, rfl, _, _, rfl, rfl, .inr ⟨by omega, by omega⟩, _, rfl, _, _, rfl, rfl, .inl ⟨by decide, by decide⟩, _, _, rfl, rfl, _, rfl, _, _, rfl, rfl, ⟨by omega, by omega, by decide⟩, _, _, rfl, rfl, ?_⟩
    dsimp only
    rw [hpow]
    refine ⟨by omega, xs.map (fun (x : Nat) => V.int (x : Int)), hx3, by rw [List.length_map, hx1]; exact small1000 (by omega), ?_⟩
    generalize hz : (n * (0 + (j : Int) + 1) + 31 * (0 + (j : Int))) % ((2 ^ wd : Nat) : Int) = z
    have hz0 : 0 ≤ z := by rw [← hz]; exact Int.emod_nonneg _ (by omega)
    have hz1 : z < ((2 ^ wd : Nat) : Int) := by rw [← hz]; exact Int.emod_lt_of_pos _ (by omega)
    refine ⟨xs ++ [z.toNat], by rw [List.length_append, hx1] <;> rfl, fun x hx => ?_, ?_, fun b o e => ?_⟩
    · rcases List.mem_append.mp hx with h | h
      · exact hx2 x h
      · rw [List.mem_singleton.mp h]
        omega
    · rw [upd_same, List.map_append]
      show some (HO.lst (_ ++ [V.int z])) = some (HO.lst (_ ++ [V.int (z.toNat : Int)]))
      rw [show ((z.toNat : Nat) : Int) = z by omega]
    · rw [upd_ne (ne_of_none e hDH)]
      exact hx4 b o e
  rintro H8 ⟨xs, hx1, hx2, hx3, s8⟩
  obtain ⟨x, y, z, r, rfl⟩ := cons3 (l := xs) (by omega)
  obtain rfl : r = [] := by simpa using hx1
  have hx := hx2 x (by simp)
  have hy := hx2 y (by simp)
  have hz := hx2 z (by simp)
  clear hx1 hx2 s9
  -- a zero
  let Mid : L2.St → Hp → Prop := fun σ H' => ∃ (v10 : Option V) (x y z : Nat), σ = [some (.ref a), v1, v2, v3, some (.int (0 + (i : Int))), some (.int cell), some (.int (wi : Int)), some (.int (ct : Int)), some (.int (wd : Int)), some (.ref D), v10, v11] ∧
    x < 2 ^ wd ∧ y < 2 ^ wd ∧ z < 2 ^ wd ∧ H' D = some (.lst [.int (x : Int), .int (y : Int), .int (z : Int)]) ∧ Same H H'
  have setTo : ∀ (u k : Nat) (H' : Hp) (v10 : Option V) (x y z : Nat), u < 2 ^ wd → k < 3 → x < 2 ^ wd → y < 2 ^ wd → z < 2 ^ wd → H' D = some (.lst [.int (x : Int), .int (y : Int), .int (z : Int)]) → Same H H' →
      Mid [some (.ref a), v1, v2, v3, some (.int (0 + (i : Int))), some (.int cell), some (.int (wi : Int)), some (.int (ct : Int)), some (.int (wd : Int)), some (.ref D), v10, v11] (upd H' D (.lst (([.int (x : Int), .int (y : Int), .int (z : Int)] : List V).set k (.int (u : Int))))) := by
    intro u k H' v10 x y z hu hk hx hy hz e s
    have s' : ∀ o, Same H (upd H' D o) := fun o b p q => by rw [upd_ne (ne_of_none q hDH)]; exact s b p q
    match k, hk with
    | 0, _ => exact ⟨v10, u, y, z, rfl, hu, hy, hz, upd_same, s' _⟩
    | 1, _ => exact ⟨v10, x, u, z, rfl, hx, hu, hz, upd_same, s' _⟩
    | 2, _ => exact ⟨v10, x, y, u, rfl, hx, hy, hu, upd_same, s' _⟩
  have pick3 : ∀ k : Nat, ∃ d : Nat, draw cell k 3 = (d : Int) ∧ d < 3 := fun k => ⟨(draw cell k 3).toNat, by have := draw_lo cell k (m := 3) (by decide); omega, by have := draw_hi cell k (m := 3) (by decide); omega⟩
  refine ⟨Mid, ?_, ?_⟩
  · refine ⟨_, rfl, cell, 3, 4, rfl, by decide, by decide, fun H9 t9 => ⟨rfl, _, rfl, ?_⟩⟩
    refine ite2 (fun _ => ?_) (fun _ => ?_)
    · refine ⟨_, rfl, _, rfl, cell, 4, 3, rfl, by decide, by decide, fun H10 t10 => ?_⟩
      obtain ⟨d, hd, hd3⟩ := pick3 4
      rw [hd]
      have e10 := t10 _ _ (t9 _ _ hx3)
      refine ⟨D, _, _, d, rfl, rfl, e10, Evl.ixN_nat hd3, ?_⟩
      exact setTo 0 d H10 _ x y z (pow_pos' wd) hd3 hx hy hz e10 ((s8.trans t9).trans t10)
    · exact ⟨_, x, y, z, rfl, hx, hy, hz, t9 _ _ hx3, s8.trans t9⟩
  clear hx hy hz hx3 s8
  rintro σ H9 ⟨v10, x, y, z, rfl, hx, hy, hz, hx3, s8⟩
  -- the greatest
  refine ⟨Mid, ?_, ?_⟩
  · refine ⟨_, rfl, cell, 5, 4, rfl, by decide, by decide, fun H9 t9 => ⟨rfl, _, rfl, ?_⟩⟩
    refine ite2 (fun _ => ?_) (fun _ => ?_)
    · refine ⟨_, rfl, _, _, rfl, rfl, ⟨by omega, by omega, by decide⟩, _, _, rfl, rfl, ?_⟩
      dsimp only
      rw [hpow]
      refine ⟨_, rfl, _, rfl, cell, 6, 3, rfl, by decide, by decide, fun H10 t10 => ?_⟩
      obtain ⟨d, hd, hd3⟩ := pick3 6
      rw [hd]
      have e10 := t10 _ _ (t9 _ _ hx3)
      refine ⟨D, _, _, d, rfl, rfl, e10, Evl.ixN_nat hd3, ?_⟩
      have := setTo (2 ^ wd - 1) d H10 v10 x y z (by omega) hd3 hx hy hz e10 ((s8.trans t9).trans t10)
      rw [show ((2 ^ wd - 1 : Nat) : Int) = ((2 ^ wd : Nat) : Int) - 1 by omega] at this
      exact this
    · exact ⟨_, x, y, z, rfl, hx, hy, hz, t9 _ _ hx3, s8.trans t9⟩
  clear hx hy hz hx3 s8
  rintro σ H9 ⟨v10, x, y, z, rfl, hx, hy, hz, hx3, s8⟩
  clear setTo pick3
  clear_value Mid
  -- the kind, asked
  refine ⟨_, rfl, _, rfl, wi, ct, rfl, hwi8, fun k H10 t10 nk hk => ?_⟩
  have e10 := t10 _ _ hx3
  refine ⟨_, rfl, _, rfl, _, rfl, _, rfl, _, rfl, wi, ct, wd, k, D, x, y, z, rfl, hwi8, hc1, hc2, hw1, hw2, hk, SqL.of e10, hx, hy, hz, fun H11 t11 => ⟨true, rfl, iteF ?_⟩⟩
  have hok := whichKd_ok (i := wi) hc1 hc2
  have hk11 := hk.mono t11
  have ⟨dk, ek⟩ := hk11
  obtain ⟨hby, hbl⟩ := kindBy_word' wi hwi8 ct (by omega) hc1
  refine ⟨(whichKd wi ct).c, _, rfl, k, dk, _, rfl, ek, flds_no _ (by decide +kernel), k, _, rfl, hk11, rfl, hok, _, rfl, hbl, fun v' H12 t12 kr => ?_⟩
  rw [hby] at kr
  obtain ⟨k2, rfl, nk2, hk2⟩ := kr
  have e12 := t12 _ _ (t11 _ _ e10)
  refine ⟨_, rfl, _, rfl, _, rfl, _, rfl, wi, ct, wd, k2, D, x, y, z, rfl, hwi8, hc1, hc2, hw1, hw2, hk2, SqL.of e12, hx, hy, hz, fun H13 t13 => ⟨true, rfl, iteF ?_⟩⟩
  exact ⟨_, _, _, _, _, _, _, _, _, _, _, rfl, ((((s8.trans t10).trans t11).trans t12).trans t13)⟩
end
end SW

/-! ### the end -/
namespace SW
open PySem PySem.Spec PyProof.Rows L2 He
theorem facts {P : Program} {w : World} {K : PySem.W.Frag} {h : Heap} {mg : Str → Option Value} {f : Addr} (X : K.In h) (G : h.Ns mainGlobals mg) (hfa : mg ("law" : Str) = some (.ref f)) (c : SaysD fa fn K) (x : exB K = true) :
    ∃ fd : FuncData, (∀ (s : Shared) (v : Value), BindsTo s fd ⟨[v], []⟩ [("_law_script", v)]) ∧ ∀ base : Heap, K.In base → base.Ns mainGlobals mg → FnOk P w K mg base CX0 lawLevel f fd ["_law_script"] (spLaw K) := by
  have T : Txt K mg := ⟨c, x, h, X, G⟩
  obtain ⟨fd, F⟩ := T.F_law
  have e := hfa.symm.trans T.g_law
  cases e
  have b := FunD.bindsA (ps := ["_law_script"]) F fun _ _ _ _ _ _ us hl => match us, hl with | [_], _ => rfl
  exact ⟨fd, fun s v => b s [v] rfl, fun base _ _ => (ok_law T).at F⟩
end SW
open PySem PySem.W PySem.Calls PyProof.Rows
theorem PySem.Challenge.cw_storeway_k01_what_parts_make_holds : PySem.Challenge.rw_storeway_k01_what_parts_make.Holds := by
  w_on; o_law
  refine HandSHeadRun.head_any (r := OpenLaw.row PySem.Challenge.rw_storeway_k01_what_parts_make) (q := view (OpenLaw.row PySem.Challenge.rw_storeway_k01_what_parts_make).prog [18]) (H := SW.hk) (ob := SW.ob) (M := 8000) (loose := SW.names) (d := HandSHeadRun.topDef (OpenLaw.row PySem.Challenge.rw_storeway_k01_what_parts_make).prog 18) (kwd := []) SW.ob_eq
    (by kernel_rfl) (fun s => by kernel_rfl) SW.run (by kernel_rfl) (by kernel_rfl) (by kernel_rfl) (by rfl) (by first | assumption | decide +kernel) (by decide +kernel) ⟨rfl, rfl, rfl, rfl, rfl, by decide +kernel⟩ ?hw ?hc
  case hw => w_witness2
  case hc =>
    refine L2.walk_ofE (l := PySem.Challenge.rw_storeway_k01_what_parts_make) (n := 63) (k := SW.lawLevel) (x := "_law_script") (CX := L2.CX0) rfl (by decide) (by kernel_rfl) ⟨rfl, by decide, by decide⟩ ?F (fun _ _ _ _ z => z)
    intro w mg fa h Y G hmg0
    obtain ⟨K, KX, c, x⟩ := Y
    have hmg : mg ("law" : PySem.Str) = some (.ref fa) := by
      have e : (HandSHeadRun.topDef (OpenLaw.row PySem.Challenge.rw_storeway_k01_what_parts_make).prog 18).name = ("law" : PySem.Str) := by kernel_rfl
      rw [← e]
      exact hmg0
    obtain ⟨fd, hb, hF⟩ := SW.facts (P := (PySem.Challenge.rw_storeway_k01_what_parts_make).prog) (w := w) KX G hmg c x
    exact ⟨K, fd, SW.spLaw K, KX, hb, fun H a ns hl _ hS => ⟨a, ns, rfl, hS, hl, fun _ => rfl⟩, hF⟩

