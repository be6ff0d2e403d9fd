import PyProof.Rows.All
import Wide.All
import OpenK.AllK
import Wide.FinOn
import HandS.ForMost
import HandS.ForExc
import HandS.TryMany
import HandS.IsInst
import HandS.ExcIs
import HandS.Conv
import HandS.More
import HandS.Zip
import HandS.TupAny
import HandS.TupLen
import HandS.HotCalls
import HandS.HeadHook4
import HandS.HeadEnd
import HandS.Head2
import HandS.ForMost
import HandS.ForExc
import HandS.TryMany
import HandS.IsInst
import HandS.ExcIs
import HandS.Conv
import HandS.More
import HandS.Zip
import HandS.TupAny
import HandS.TupLen
import HandS.HotCalls
import HandS.HeadHook4
import HandS.HeadEnd
import HandS.Head2
import PySem.Challenge.RW_ringpost_k06_steps_by_plain_numbers
set_option Elab.async false
set_option linter.all false
set_option maxRecDepth 100000
set_option maxHeartbeats 4000000
open PySem PySem.Spec PyProof.Rows L2
local macro_rules | `(tactic| walk_at "st0") => `(tactic| simp only [L2.start, List.map_cons, List.map_nil, List.length_cons, List.length_nil, List.replicate, List.append_nil, List.cons_append, List.nil_append, Nat.zero_add, Nat.reduceAdd, Nat.reduceSub, Nat.sub_self])
local macro_rules | `(tactic| walk_at "len") => `(tactic| (intro h; first | (obtain ⟨e, _⟩ := h; rw [e]; rfl) | (obtain ⟨_, e, _⟩ := h; rw [e]; rfl) | (obtain ⟨_, _, e, _⟩ := h; rw [e]; rfl) | (obtain ⟨_, _, _, e, _⟩ := h; rw [e]; rfl) | (obtain ⟨_, _, _, _, e, _⟩ := h; rw [e]; rfl) | (obtain ⟨_, _, _, _, _, e, _⟩ := h; rw [e]; rfl) | (obtain ⟨_, _, _, _, _, _, e, _⟩ := h; rw [e]; rfl) | (obtain ⟨_, _, _, _, _, _, _, e, _⟩ := h; rw [e]; rfl) | (obtain ⟨_, _, _, _, _, _, _, _, e, _⟩ := h; rw [e]; rfl) | (obtain ⟨_, _, _, _, _, _, _, _, _, e, _⟩ := h; rw [e]; rfl) | (obtain ⟨_, _, _, _, _, _, _, _, _, _, e, _⟩ := h; rw [e]; rfl) | (obtain ⟨_, _, _, _, _, _, _, _, _, _, _, e, _⟩ := h; rw [e]; rfl) | (obtain ⟨_, _, _, _, _, _, _, _, _, _, _, _, e, _⟩ := h; rw [e]; rfl) | (obtain ⟨_, _, _, _, _, _, _, _, _, _, _, _, _, e, _⟩ := h; rw [e]; rfl) | (obtain ⟨_, _, _, _, _, _, _, _, _, _, _, _, _, _, e, _⟩ := h; rw [e]; rfl) | (obtain ⟨_, _, _, _, _, _, _, _, _, _, _, _, _, _, _, e, _⟩ := h; rw [e]; rfl) | (obtain ⟨_, _, _, _, _, _, _, _, _, _, _, _, _, _, _, _, e, _⟩ := h; rw [e]; rfl) | (obtain ⟨_, _, _, _, _, _, _, _, _, _, _, _, _, _, _, _, _, e, _⟩ := h; rw [e]; rfl) | (obtain ⟨_, _, _, _, _, _, _, _, _, _, _, _, _, _, _, _, _, _, e, _⟩ := h; rw [e]; rfl) | (obtain ⟨_, _, _, _, _, _, _, _, _, _, _, _, _, _, _, _, _, _, _, e, _⟩ := h; rw [e]; rfl) | (obtain ⟨_, _, _, _, _, _, _, _, _, _, _, _, _, _, _, _, _, _, _, _, e, _⟩ := h; rw [e]; rfl) | (obtain ⟨_, _, _, _, _, _, _, _, _, _, _, _, _, _, _, _, _, _, _, _, _, e, _⟩ := h; rw [e]; rfl) | (obtain ⟨_, _, _, _, _, _, _, _, _, _, _, _, _, _, _, _, _, _, _, _, _, _, e, _⟩ := h; rw [e]; rfl) | (obtain ⟨_, _, _, _, _, _, _, _, _, _, _, _, _, _, _, _, _, _, _, _, _, _, _, e, _⟩ := h; rw [e]; rfl) | (obtain ⟨_, _, _, _, _, _, _, _, _, _, _, _, _, _, _, _, _, _, _, _, _, _, _, _, e, _⟩ := h; rw [e]; rfl) | (obtain ⟨_, _, _, _, _, _, _, _, _, _, _, _, _, _, _, _, _, _, _, _, _, _, _, _, _, e, _⟩ := h; rw [e]; rfl)))

namespace RP
open PySem PySem.Spec PyProof.Rows L2

/-! ### a def, a method, a class as callers use them -/
section
variable (P : Program) (w : World) (K : PySem.W.Frag) (mg : Str → Option Value) (base : Heap)
def Cal (k : Nat) (x : Str) (sp : Sp) : Prop :=
  ∃ (f : Addr) (fd : FuncData) (ps : List Str), FnOk P w K mg base (L2N.CX P w) k f fd ps sp ∧ mg x = some (.ref f) ∧ PySem.W.keepIn K (.ref f) = true ∧ Binds K fd ps []
def MCal (k : Nat) (C : Addr) (m : Str) (sp : Sp) : Prop :=
  Cls K C ∧ ∃ (f : Addr) (fd : FuncData) (ps : List Str), FnOk P w K mg base (L2N.CX P w) k f fd ps sp ∧ Meth K C m f ∧ Binds K fd ps []
def KCal (k : Nat) (x : Str) (C : Addr) (sp : Sp) : Prop :=
  ∃ (f : Addr) (fd : FuncData) (ps : List Str), Mk K C f ∧ FnOk P w K mg base (L2N.CX P w) k f fd ps sp ∧ mg x = some (.ref C) ∧ Binds K fd ps []
end
section
variable {X : Cx} {k : Nat} {C : Addr} {sp : Sp} {W : WX} {x m : Str} {p pos apos : Pos} {e o : Expr} {es : List Expr} {ta : TE} {t : TA}
theorem pe_fn (c : Cal X.prog X.w X.K X.mg X.base k x sp) (hr : Room k X.A) (tk : L2N.Takes X W) (ha : PA X (e :: es) t) (hg : Gl X x := by rfl) (hdb : (x == ("__debug__" : Str)) = false := by decide)
    (he : starEach (e :: es) X.env = (false, eval e X.env) :: starEach es X.env := by rfl) (hpl : (backTo pos (starEach es X.env)).any (·.1) = false := by rfl) :
    PE X (.Call (.Name x p) (e :: es) [] pos) (tCallS sp (WE W) t) := by
  obtain ⟨f, fd, ps, F, hm, hk, hb⟩ := c
  exact pe_callS F hr hg hm hk hb (fun σ => L2N.passAt tk σ) ha hdb he hpl
def tMethS (C : Addr) (m : Str) (sp : Sp) (E : L2.St → XK) (ta : TE) (t : TA) : TE := fun σ H Q => ta σ H fun x H1 => ∃ a dx fs, x = .ref a ∧ H1 a = some (.ins C dx fs) ∧ fs.lookup m = none ∧ t σ H1 fun vs H2 => sp (x :: vs) H2 Q (E σ)
theorem pe_mth {pl : Sem Bool} (he : PE X o ta) (c : MCal X.prog X.w X.K X.mg X.base k C m sp) (hr : Room k X.A) (tk : L2N.Takes X W) (ha : PA X (e :: es) t)
    (hst : starEach (e :: es) X.env = (false, eval e X.env) :: starEach es X.env := by rfl) (hpl : (backTo pos (starEach es X.env)).any (·.1) = false := by rfl)
    (ht : eval (.Call (.Attribute o m apos) (e :: es) [] pos) X.env = (do
      let ov ← eval o X.env
      standAt apos.atName
      let (f, first) ← holding [ov] (getMethod ov m pl)
      callWith pos f first (backTo pos (starEach (e :: es) X.env)) (backToKw pos (keywordEach [] X.env))) := by rfl) :
    PE X (.Call (.Attribute o m apos) (e :: es) [] pos) (tMethS C m sp (WE W) ta t) := by
  obtain ⟨cl, f, fd, ps, F, hm, hb⟩ := c
  refine ⟨fun pins s σ H Q I h => ?_⟩
  refine PySem.W.methodCall_KW (pl := pl) (thn (he.run pins s σ H _ I h) fun u s1 ⟨x, H1, I1, rx, a, dx, fs, ex, ea, l, q⟩ => ?_) ht
  subst ex
  obtain rfl : u = Value.ref a := rx
  refine getmeth_ok I1 ea cl hm l ?_
  refine PySem.W.callWith_K (first := [.ref a]) (h₀ := X.base) I.ok.mod.kin hm.kp (thn (ha.run pos pins s1 σ H1 _ I1 q) fun us s2 ⟨vs, H2, I2, r, q2⟩ => ⟨I2.kIn, ?_⟩) hst hpl
  exact run_fnS (us := .ref a :: us) (vs := .ref a :: vs) F hr hb (L2N.passAt tk σ) I2 (.cons rfl r) q2
theorem pe_mth0 {pl : Sem Bool} (he : PE X o ta) (c : MCal X.prog X.w X.K X.mg X.base k C m sp) (hr : Room k X.A) (tk : L2N.Takes X W)
    (ht : eval (.Call (.Attribute o m apos) [] [] pos) X.env = (do
      let ov ← eval o X.env
      standAt apos.atName
      let (f, first) ← holding [ov] (getMethod ov m pl)
      callWith pos f first (backTo pos (starEach [] X.env)) (backToKw pos (keywordEach [] X.env))) := by rfl) :
    PE X (.Call (.Attribute o m apos) [] [] pos) (tMethS C m sp (WE W) ta tNil) := by
  obtain ⟨cl, f, fd, ps, F, hm, hb⟩ := c
  refine ⟨fun pins s σ H Q I h => ?_⟩
  refine PySem.W.methodCall_KW (pl := pl) (thn (he.run pins s σ H _ I h) fun u s1 ⟨x, H1, I1, rx, a, dx, fs, ex, ea, l, q⟩ => ?_) ht
  subst ex
  obtain rfl : u = Value.ref a := rx
  refine getmeth_ok I1 ea cl hm l ?_
  exact PySem.W.callWith_K0 (first := [.ref a]) I1.kIn hm.kp (run_fnS (us := [.ref a]) (vs := [.ref a]) F hr hb (L2N.passAt tk σ) I1 (.cons rfl .nil) q)
def tMakeS (C : Addr) (sp : Sp) (E : L2.St → XK) (t : TA) : TE := fun σ H Q => t σ H fun vs H1 => ∀ x dx, H1 x = none → H1 dx = none → dx ≠ x →
  sp (.ref x :: vs) (upd (upd H1 dx (.own x)) x (.ins C dx [])) (fun v H2 => v = .non ∧ Q (.ref x) H2) (E σ)
theorem run_mkS {pins : List (Addr × Obj)} {σ : L2.St} {H : Hp} {s : Shared} {Q : VK} {us : List Value} {vs : List V} {f : Addr} {fd : FuncData} {ps : List Str} (M : Mk X.K C f) (F : FnOk X.prog X.w X.K X.mg X.base (L2N.CX X.prog X.w) k f fd ps sp) (hr : Room (k + 1) X.A) (hb : Binds X.K fd ps [])
    (tk : L2N.Takes X W) (I : Inv X pins σ H s) (r : Vals vs us)
    (h : ∀ x dx, H x = none → H dx = none → dx ≠ x → sp (.ref x :: vs) (upd (upd H dx (.own x)) x (.ins C dx [])) (fun v H2 => v = .non ∧ Q (.ref x) H2) (WE W σ)) :
    wpAny (model X.prog X.w) X.A (call (.ref C) us) (EP X pins σ Q) X.xe s := by
  have hq := h (s.heap.objs.size + 1) s.heap.objs.size (I.hok.fresh (Nat.le_succ _)) (I.hok.fresh (Nat.le_refl _)) (Nat.ne_of_lt (Nat.lt_succ_self _))
  have I2 := Inv.made (C := C) I
  have r2 : Vals (V.ref (s.heap.objs.size + 1) :: vs) (Value.ref (s.heap.objs.size + 1) :: us) := .cons rfl r
  have hl : (Value.ref (s.heap.objs.size + 1) :: us ++ []).length = ps.length := by
    have e := r2.length
    rw [F.len _ _ _ _ hq] at e
    rw [List.append_nil]
    exact e.symm
  have bb := hb _ (Value.ref (s.heap.objs.size + 1) :: us) I2.kIn hl
  rw [List.append_nil] at bb
  refine wpAny_call (make_map (f := f) I.kIn M.makes M.init (beq_iff_eq.mp M.fn) (codeAny_mono (F.run _ X.stack _ _ ⟨Value.ref (s.heap.objs.size + 1) :: us, []⟩ (Value.ref (s.heap.objs.size + 1) :: us) _ _ (WE W σ) (hr.make C us [])
    (I2.env0.make C us []) bb r2 hq) fun r s' hq' => ?_))
  cases r with
  | error e => exact tk e s' (L2N.XE.of_call I2 (fun _ _ _ h => h) hq')
  | ok fl =>
    cases fl with
    | ret u =>
      obtain ⟨v, H', I3, rv, ev, q3⟩ := I2.after hq'
      subst ev
      exact ⟨rv, ⟨V.ref (s.heap.objs.size + 1), H', I3, rfl, q3⟩⟩
    | next => exact False.elim hq'
    | brk => exact False.elim hq'
    | cont => exact False.elim hq'
theorem pe_mk (c : KCal X.prog X.w X.K X.mg X.base k x C sp) (hr : Room (k + 1) X.A) (tk : L2N.Takes X W) (ha : PA X (e :: es) t) (hg : Gl X x := by rfl) (hdb : (x == ("__debug__" : Str)) = false := by decide)
    (he : starEach (e :: es) X.env = (false, eval e X.env) :: starEach es X.env := by rfl) (hpl : (backTo pos (starEach es X.env)).any (·.1) = false := by rfl) :
    PE X (.Call (.Name x p) (e :: es) [] pos) (tMakeS C sp (WE W) t) := by
  obtain ⟨f, fd, ps, M, F, hm, hb⟩ := c
  refine ⟨fun pins s σ H Q I h => ?_⟩
  refine wpAny_Call_Name_kw (ld_glob I hg hm ?_ hdb)
  refine PySem.W.callWith_K (h₀ := X.base) I.ok.mod.kin M.kp (thn (ha.run pos pins s σ H _ I h) fun us s1 ⟨vs, H1, I1, r, q⟩ => ⟨I1.kIn, ?_⟩) he hpl
  exact run_mkS M F hr hb tk I1 r q
theorem pe_mk0 (c : KCal X.prog X.w X.K X.mg X.base k x C sp) (hr : Room (k + 1) X.A) (tk : L2N.Takes X W) (hg : Gl X x := by rfl) (hdb : (x == ("__debug__" : Str)) = false := by decide) :
    PE X (.Call (.Name x p) [] [] pos) (tMakeS C sp (WE W) tNil) := by
  obtain ⟨f, fd, ps, M, F, hm, hb⟩ := c
  refine ⟨fun pins s σ H Q I h => ?_⟩
  refine wpAny_Call_Name_kw (ld_glob I hg hm ?_ hdb)
  exact PySem.W.callWith_K0 I.kIn M.kp (run_mkS (us := []) M F hr hb tk I .nil h)
end
/-! ### a def by its body -/
/-- the facts of a def of the module | of a method -/
abbrev FnP (K : PySem.W.Frag) (at_ : Str × Option Str) (x qual : Str) (st : Stmt) : Prop := ∃ fd, FunD K x qual (defArgs st) (defBody st) (defScope st) [] [] (He.fAd K at_) fd
section
variable {P : Program} {w : World} {K : PySem.W.Frag} {mg : Str → Option Value} {base : Heap}
theorem fn_cal {x : Str} {st : Stmt} {N ps : List Str} {k : Nat} {sp : Sp} (F : FnP K (x, none) x x st) (hm : mg x = some (.ref (He.ga K x))) (S : FnScope N ps (defScope st)) (len : ∀ vs H Q E, sp vs H Q E → vs.length = ps.length)
    (hbd : ∀ (kV doc pm : Value) (an : Option Addr) (cdv ct : Value) (us : List Value), us.length = ps.length → bindArgs (PySem.W.fnOf x x (defArgs st) (defBody st) (defScope st) .none kV doc pm an cdv ct) ⟨us, []⟩ = pure (ps.zip us))
    (hbody : ∀ (f : Addr) (cdv : Value) (A : Around) (outer : List Env) (s : Shared) (H : Hp) (vs : List V) (Q : VK) (E : XK), Room k (A.deeper (envOfC x (defScope st) s.heap.objs.size f cdv)) → sp vs H Q E →
      ∃ t, PSs (cxOf (L2N.CX P w) P w K mg base N x (defScope st) f cdv A outer s H E) (defBody st) t ∧ t { nx := fun _ H' => Q .non H', rt := Q } (start N vs) H) : Cal P w K mg base (k + 1) x sp := by
  obtain ⟨fd, F⟩ := F
  exact ⟨_, fd, ps, F.ok S len fun cdv A outer s H vs Q E hr h => hbody _ cdv A outer s H vs Q E hr h, hm, F.kp, F.bindsN hbd⟩
theorem fn_mcal {c m qual : Str} {st : Stmt} {N ps : List Str} {k : Nat} {sp : Sp} (F : FnP K (c, some m) m qual st) (hc : Cls K (He.ga K c)) (hm : Meth K (He.ga K c) m (He.ma K (He.ga K c) m)) (S : FnScope N ps (defScope st)) (len : ∀ vs H Q E, sp vs H Q E → vs.length = ps.length)
    (hbd : ∀ (kV doc pm : Value) (an : Option Addr) (cdv ct : Value) (us : List Value), us.length = ps.length → bindArgs (PySem.W.fnOf m qual (defArgs st) (defBody st) (defScope st) .none kV doc pm an cdv ct) ⟨us, []⟩ = pure (ps.zip us))
    (hbody : ∀ (f : Addr) (cdv : Value) (A : Around) (outer : List Env) (s : Shared) (H : Hp) (vs : List V) (Q : VK) (E : XK), Room k (A.deeper (envOfC qual (defScope st) s.heap.objs.size f cdv)) → sp vs H Q E →
      ∃ t, PSs (cxOf (L2N.CX P w) P w K mg base N qual (defScope st) f cdv A outer s H E) (defBody st) t ∧ t { nx := fun _ H' => Q .non H', rt := Q } (start N vs) H) : MCal P w K mg base (k + 1) (He.ga K c) m sp := by
  obtain ⟨fd, F⟩ := F
  exact ⟨hc, _, fd, ps, F.ok S len fun cdv A outer s H vs Q E hr h => hbody _ cdv A outer s H vs Q E hr h, hm, F.bindsN hbd⟩
theorem fn_kcal {c qual : Str} {st : Stmt} {N ps : List Str} {k : Nat} {sp : Sp} (F : FnP K (c, some "__init__") "__init__" qual st) (hm : mg c = some (.ref (He.ga K c))) (M : Mk K (He.ga K c) (He.ma K (He.ga K c) "__init__")) (S : FnScope N ps (defScope st)) (len : ∀ vs H Q E, sp vs H Q E → vs.length = ps.length)
    (hbd : ∀ (kV doc pm : Value) (an : Option Addr) (cdv ct : Value) (us : List Value), us.length = ps.length → bindArgs (PySem.W.fnOf "__init__" qual (defArgs st) (defBody st) (defScope st) .none kV doc pm an cdv ct) ⟨us, []⟩ = pure (ps.zip us))
    (hbody : ∀ (f : Addr) (cdv : Value) (A : Around) (outer : List Env) (s : Shared) (H : Hp) (vs : List V) (Q : VK) (E : XK), Room k (A.deeper (envOfC qual (defScope st) s.heap.objs.size f cdv)) → sp vs H Q E →
      ∃ t, PSs (cxOf (L2N.CX P w) P w K mg base N qual (defScope st) f cdv A outer s H E) (defBody st) t ∧ t { nx := fun _ H' => Q .non H', rt := Q } (start N vs) H) : KCal P w K mg base (k + 1) c (He.ga K c) sp := by
  obtain ⟨fd, F⟩ := F
  exact ⟨_, fd, ps, M, F.ok S len fun cdv A outer s H vs Q E hr h => hbody _ cdv A outer s H vs Q E hr h, hm, F.bindsN hbd⟩
end
/-! ### the built-in names -/
structure Blt (mg : Str → Option Value) : Prop where
  len : mg "len" = none
  range : mg "range" = none
  min : mg "min" = none
  max : mg "max" = none
  isi : mg "isinstance" = none
  int : mg "int" = none
  bool : mg "bool" = none
  str : mg "str" = none
  list : mg "list" = none
  tuple : mg "tuple" = none
  dict : mg "dict" = none
  sorted : mg "sorted" = none
  enumerate : mg "enumerate" = none
  zip : mg "zip" = none
  all : mg "all" = none
  ValueError : mg "ValueError" = none
end RP

/-! ### in an except suite: a def that is handed the caught error -/
namespace RP
open PySem PySem.Spec PyProof.Rows L2 L2H HotX
section
variable {prog : Program} {w : World} {A : Around} {E : Value → Shared → Prop} {s : Shared}
theorem list_end_hot {it l x1 : Addr} {i : Nat} {items} {Q : Option Value → Shared → Prop} (hot : HotAt A x1 s.heap)
    (hit : s.heap.IsListIter it l i) (hl : s.heap.IsList l items) (hx : items[i]? = none) (hne : x1 ≠ it)
    (hQ : ∀ h', (∀ b o, b ≠ it → s.heap.get? b = some o → h'.get? b = some o) → Q none { s with heap := h' }) : wpAny (model prog w) A (pyNext (.ref it)) Q E s := by
  obtain ⟨o, ho, hc, hd⟩ := id hit
  obtain ⟨ol, hol, _, nl, hdl⟩ := hl
  obtain ⟨hh, o1, vs1, h1, d1, c1⟩ := hot
  unfold pyNext
  refine wpAny_bind (wpAny_attempt (wpAny_callSpecial?_slot (name := Str.ofString "__next__") hit.typeIs slot_listiter_next
    (wpAny_call_entry slot_listiter_next hit.typeIs entry_listiter_next ?_ (args_listiter_next _))))
  show wpAny _ _ (field (.ref it) 0 >>= _) _ _ s
  refine wpAny_bind (wpAny_field ho hd (x := .ref l) rfl ?_)
  show wpAny _ _ (if (Value.ref l == Value.none) = true then _ else _) _ _ s
  rw [if_neg (show ¬ ((Value.ref l == Value.none) = true) from Bool.false_ne_true)]
  show wpAny _ _ (field (.ref it) 1 >>= _) _ _ s
  refine wpAny_bind (wpAny_field ho hd (x := .int i 0) rfl ?_)
  show wpAny _ _ (seqItems? (.ref l) >>= _) _ _ s
  refine wpAny_bind (wpAny_seqItems hol hdl ?_)
  simp only [Int.toNat_natCast, hx]
  refine wpAny_bind (wpAny_rule (wpAny_bind (wpAny_setField ho hd (by simp) ?_)))
  show wpAny _ _ (newExc (.type "StopIteration") [] >>= _) _ _ _
  refine wpAny_bind ?_
  simp only [newExc, newTuple]
  refine wpAny_bind (wpAny_newObj_type ?_ (by size_fits))
  refine wpAny_bind (m := firstArgMember _ _) (wpAny_of_eq (a := Value.none) (by first | rfl | (simp only [firstArgMember]; rfl)) ?_)
  refine wpAny_newObj_type ?_ (by size_fits)
  have h1' := (Heap.get?_update_other s.heap (Obj.mapFields (·.setIfInBounds 0 .none)) hne.symm).trans h1
  refine raiseNew_hot ⟨hh, o1, vs1, Heap.get?_push_of_some _ (Heap.get?_push_of_some _ h1'), d1, c1⟩ (Nat.ne_of_lt (Heap.lt_size (Heap.get?_push_of_some _ h1'))) (Heap.get?_push_size _ rfl) rfl (by first | (simp; done) | (simp; omega) | (simp only [Array.size_append]; simp; omega)) ?_
  refine wpAny_bind (wpAny_isInstance (T := "StopIteration") (b := true) ⟨_, Heap.get?_update_self _ (Heap.get?_push_size _ rfl) rfl, rfl⟩ isSubtype_stop ?_)
  refine wpAny_pure (hQ _ fun b o hb e => ?_)
  have e' := (Heap.get?_update_other s.heap (Obj.mapFields (·.setIfInBounds 0 .none)) (Ne.symm hb)).trans e
  rw [Heap.get?_update_other _ _ (Nat.ne_of_gt (Heap.lt_size (Heap.get?_push_of_some _ e')))]
  exact Heap.get?_push_of_some _ (Heap.get?_push_of_some _ e')
end

theorem turn_listH {P : Program} {w : World} {K : PySem.W.Frag} {tg : Expr} (a it : Addr) : TurnH P w K tg (Itl K a) [it] it (fun i h => h.IsListIter it a i) where
  mem := by simp
  obj := fun i h st b hb => by
    have e : b = it := by simpa using hb
    subst e
    obtain ⟨o, e, c, d⟩ := st
    exact ⟨o, e, fun v z => by rw [d] at z; cases z⟩
  keep := fun i h h' st k => st.at fun o e => k it (by simp) o e
  item := by
    intro X hP hw hK hc i pins s σ H E I hf st hg
    subst hP hw hK
    obtain ⟨xs, x, hq, hx⟩ := hg
    obtain ⟨its, rv, p, hz⟩ := I.list hq
    obtain ⟨u, hu, ru⟩ := rv.get hx
    obtain ⟨f0, f1, f2, f3, f4, f5⟩ := hf it (by simp)
    refine wpAny_pyNext_list_item st p.isList (x := u) (by simpa using hu) fun h' st' sb => ?_
    have I1 : Inv X pins σ H { s with heap := h' } := I.turned (t' := s.toks) (fun b o hb e => (sb.2 b hb).trans e) f0 f1 f3 f4 f5
    obtain ⟨o, e, c, d⟩ := id st'
    exact ⟨u, rfl, go_of (s := { s with heap := h' }) e c d (by decide) ⟨x, H, I1, ru, ⟨rfl, fun ys hy => by rw [I.list_inj hy hq]; exact hx⟩, st', fun b hb => (hf b hb).1⟩⟩
  done := by
    intro X hP hw hK hc i pins s σ H E I hf st hg
    subst hP hw hK
    obtain ⟨xs, hq, hx⟩ := hg
    obtain ⟨its, rv, p, hz⟩ := I.list hq
    obtain ⟨f0, f1, f2, f3, f4, f5⟩ := hf it (by simp)
    have hl := rv.length
    obtain ⟨q, ⟨hh, v1, e1, c1⟩, hq1⟩ := hc
    have P1 := I.pin q (List.mem_append_left _ hq1)
    have hne : q.1 ≠ it := f5 q (List.mem_append_left _ hq1)
    refine list_end_hot ⟨hh, q.2, v1, P1.1, e1, c1⟩ st p.isList (by simp; omega) hne fun h' eb => ⟨rfl, I.turned (t' := s.toks) eb f0 f1 f3 f4 f5⟩
  self := fun _ _ _ _ _ st h => wpAny_pyIter_listiter st h

section
variable {X : Cx} {tg : Expr}
theorem pi_listH {l : Expr} {tl : TE} (hl : PE X l tl) : PIH X tg l (iList X.K tl) := by
  refine ⟨fun pins s σ H R I h => thn (hl.run pins s σ H _ I h) fun v s1 ⟨x, H1, I1, r1, a, ex, ⟨xs, hq⟩, q⟩ => ?_⟩
  subst ex
  cases r1
  obtain ⟨its, rv, p, hz⟩ := I1.list hq
  refine wpAny_pyIter_list p.isList ?_
  refine ⟨s1.heap.objs.size, [s1.heap.objs.size], _, _, H1, rfl, I1.kept (t' := s1.toks) fun b o e => Heap.get?_push_of_some _ e, turn_listH a _, ⟨_, Heap.get?_push_size _ rfl, rfl, rfl⟩, fun b hb => ?_, q⟩
  have e : b = s1.heap.objs.size := by simpa using hb
  subst e
  exact I1.fpOk (Nat.le_refl _) (I1.hok.fresh (Nat.le_refl _))
end
/-- what a def promises that is called within a suite: p is the handled exception -/
structure FnE (P : Program) (w : World) (K : PySem.W.Frag) (mg : Str → Option Value) (base : Heap) (k : Nat) (f : Addr) (fd : FuncData) (ps : List Str) (sp : Addr → Value → Option Addr → Sp) : Prop where
  len : ∀ a c d vs H Q E, sp a c d vs H Q E → vs.length = ps.length
  run : ∀ (A : Around) (outer : List Env) (s : Shared) (H : Hp) (args : Args) (us : List Value) (vs : List V) (Q : VK) (E : XK) (p : Addr × Obj) (c : Value) (d : Option Addr), RoomH k A → Hot1 A p → L2N.Zn c d p.2 → PinOk outer H s p → Env0 P w K mg base A outer s H → BindsTo s fd args (ps.zip us) → Vals vs us → sp p.1 c d vs H Q E →
    codeAny (model P w) A (.call (.ref f) args) (CR (L2N.CX P w) outer P w H s Q E) s
theorem fn_ofE {P : Program} {w : World} {K : PySem.W.Frag} {mg : Str → Option Value} {base : Heap} {k : Nat} {f : Addr} {name qual : Str} {params : Arguments} {body : List Stmt} {scope : Scope} {dV kV doc pm cdv ct oc : Value} {an od : Option Addr}
    {osl : Array (Option Value)} {N ps : List Str} {sp : Addr → Value → Option Addr → Sp} (lk : K.lookup f = some ⟨oc, od, .func (PySem.W.fnOf name qual params body scope dV kV doc pm an cdv ct), osl⟩) (hcd : PySem.W.codeIn K cdv qual = true) (S : FnScope N ps scope)
    (len : ∀ a c d vs H Q E, sp a c d vs H Q E → vs.length = ps.length)
    (hbody : ∀ (A : Around) (outer : List Env) (s : Shared) (H : Hp) (vs : List V) (Q : VK) (E : XK) (p : Addr × Obj) (c : Value) (d : Option Addr), Hot1 A p → L2N.Zn c d p.2 → RoomH k (A.deeper (envOfC qual scope s.heap.objs.size f cdv)) → sp p.1 c d vs H Q E →
      ∃ t, PSs (cxH (L2N.CX P w) P w K mg base N qual scope f cdv A outer s H E p) body t ∧ t { nx := fun _ H' => Q .non H', rt := Q } (L2.start N vs) H) :
    FnE P w K mg base (k + 1) f (PySem.W.fnOf name qual params body scope dV kV doc pm an cdv ct) ps sp := by
  constructor
  · exact len
  intro A outer s H args us vs Q E p c d hr hot hz hpin e0 hb r hsp
  have hin : ∀ b o, base.get? b = some o → s.heap.get? b = some o := fun b o e => (e0.bs b o e).1
  have hK : K.In s.heap := PySem.W.Frag.In.keeps e0.mod.kin hin
  have hpar : ∀ y ∈ ps.zip us, scope.names.lookup y.1 = some .local ∨ (scope.names.lookup y.1 = some .cell ∧ ((cellsFrom (s.heap.objs.size + 1) scope.names []).lookup y.1).isSome = true) := by
    rintro ⟨n, v⟩ hy
    have q := S.par n (List.of_mem_zip hy).1
    cases q with
    | inl q => exact Or.inl q
    | inr q => exact Or.inr ⟨q, PySem.W.cellsFrom_some _ _ _ (Or.inl q)⟩
  refine codeAny_call_function hr.depth (hK _ _ lk) rfl S.co S.gen rfl (PySem.W.codeRec_of hK hcd) (hb _ _ _ _ (wpAny_newFunctionEnv_cells S.kind hpar ?_))
  intro env he s1 x
  subst he
  refine ⟨(e0.mod.nolimit.keeps hin).keeps x.toInCall.keep, codeAny_func ?_⟩
  obtain ⟨t, ht, hq⟩ := hbody A outer s H vs Q E p c d hot hz (hr.deeper _) hsp
  have I := inv_startH (CX := L2N.CX P w) (K := K) (mg := mg) (base := base) (N := N) (qual := qual) (f := f) (cd := cdv) (E := E) S hpin e0 (len _ _ _ _ _ _ _ hsp) r x
  refine wpAny_mono (ht.run [] s1 _ H _ I hq) ?_ fun _ _ z => z
  intro fl s' hs
  cases fl with
  | ret u => exact match hs with | ⟨v, _, H', J, rv, q⟩ => ⟨v, H', J.os, J.bare, J.base, J.hok, rv, q⟩
  | next => exact match hs with | ⟨_, H', J, q⟩ => ⟨V.non, H', J.os, J.bare, J.base, J.hok, rfl, q⟩
  | brk => exact match hs with | ⟨_, _, _, q⟩ => q.elim
  | cont => exact match hs with | ⟨_, _, _, q⟩ => q.elim
section
variable {X : Cx} {k : Nat} {sp : Addr → Value → Option Addr → Sp} {cls : Value} {dd : Option Addr} {W : WX} {x m : Str} {pos q : Pos} {e o : Expr} {es : List Expr} {ta : TE} {t : TA} {p : Addr × Obj}
/-- a def of the module, as a suite's call uses it -/
def CalE (P : Program) (w : World) (K : PySem.W.Frag) (mg : Str → Option Value) (base : Heap) (k : Nat) (x : Str) (sp : Addr → Value → Option Addr → Sp) : Prop :=
  ∃ (f : Addr) (fd : FuncData) (ps : List Str), FnE P w K mg base k f fd ps sp ∧ mg x = some (.ref f) ∧ PySem.W.keepIn K (.ref f) = true ∧ L2.Binds K fd ps []
theorem pe_fnE (c : CalE X.prog X.w X.K X.mg X.base k x sp) (hr : RoomH k X.A) {a : Addr} {oe : Obj} (hot : Hot1 X.A (a, oe)) (hz : L2N.Zn cls dd oe) (hp : (a, oe) ∈ X.pn) (tk : L2N.Takes X W) (ha : PA X (e :: es) t) (hg : Gl X x := by rfl) (hdb : (x == ("__debug__" : Str)) = false := by decide)
    (he : starEach (e :: es) X.env = (false, eval e X.env) :: starEach es X.env := by rfl) (hpl : (backTo pos (starEach es X.env)).any (·.1) = false := by rfl) :
    PE X (.Call (.Name x q) (e :: es) [] pos) (tCallS (sp a cls dd) (WE W) t) := by
  obtain ⟨f, fd, ps, F, hm, hk, hb⟩ := c
  constructor
  intro pins s σ H Q I h
  refine wpAny_Call_Name_kw (ld_glob I hg hm ?_ hdb)
  refine PySem.W.callWith_K (h₀ := X.base) I.ok.mod.kin hk (thn (ha.run pos pins s σ H _ I h) ?_) he hpl
  rintro us s1 ⟨vs, H1, I1, r, hsp⟩
  refine ⟨I1.kIn, ?_⟩
  have b := hb s1 us I1.kIn (by rw [List.append_nil, ← r.length]; exact F.len _ _ _ _ _ _ _ hsp)
  rw [List.append_nil] at b
  have P1 := I1.pin (a, oe) (List.mem_append_left _ hp)
  have hpin : PinOk X.stack H1 s1 (a, oe) := ⟨P1.1, P1.2.1, fun hm => (List.mem_cons.mp (I1.stkSub a hm)).elim P1.2.2.1 P1.2.2.2.1, P1.2.2.2.2⟩
  refine wpAny_call (codeAny_mono (F.run X.A X.stack s1 H1 ⟨us, []⟩ us vs Q (WE W σ) (a, oe) cls dd hr hot hz hpin I1.env0 b r hsp) fun rs s' hq => ?_)
  cases rs with
  | error e => exact L2N.passAt tk σ pins H1 s1 e s' I1 hq
  | ok fl => cases fl with
    | ret u => exact I1.after hq
    | next => exact hq.elim
    | brk => exact hq.elim
    | cont => exact hq.elim
def clsOf : V → Option Value
  | .ref a => some (.ref a)
  | .ty n => some (.type n)
  | _ => none
/-- isinstance(e, c), e the handled exception -/
def rIsEC (K : PySem.W.Frag) (a : Addr) (cls : Value) : List V → Hp → VK → Prop := fun xs H Q => ∃ (c : V) (cv : Value) (b : Bool), xs = [.ref a, c] ∧ clsOf c = some cv ∧ PySem.W.kitOne K cls cv = some b ∧ Q (.bl b) H
theorem isE {D a : Addr} {oe : Obj} (C : ExcC X.K D) (hp : (a, oe) ∈ X.pn) (hz : L2N.Zn cls dd oe) (hc : cls = .ref D) (hd : dd = none) (hf : ∃ vs, oe.data = .fields vs) : CallR X (.builtin "isinstance") (rIsEC X.K a cls) := by
  subst hc hd
  rintro pins s σ H xs us Q I r ⟨c, cv, b, rfl, hcv, e, q⟩
  obtain ⟨u1, u2, rfl, r1, r2⟩ := vals2 r
  cases r1
  have ec : u2 = cv := by
    cases c <;> simp only [clsOf, Option.some.injEq, reduceCtorEq] at hcv
    · rw [← hcv]; exact r2
    · rw [← hcv]; exact r2
  subst ec
  have hget := (I.pin (a, oe) (List.mem_append_left _ hp)).1
  have J : PySem.W.InstAt s.heap a oe D none := by
    obtain ⟨oc, od, oda, osl⟩ := oe
    obtain ⟨z1, z2, _⟩ := hz
    obtain ⟨vs, hv⟩ := hf
    dsimp only at z1 z2 hv
    subst z1 z2 hv
    exact ⟨hget, rfl, rfl, trivial⟩
  exact PySem.W.kia_one (PySem.W.handS_kitx_exc C.hg C.hk C.hs C.hd C.ha C.hn C.ht C.hm) I.kIn J e (fun z => nomatch z) fun tk => ⟨.bl b, H, I.kept (t' := tk) fun _ _ z => z, rfl, q⟩
theorem tkN {a' : Addr} {pn' : List (Addr × Obj)} : L2N.Takes (X.suite a' pn') (fun _ _ _ _ => False) := fun _ _ ⟨_, _, _, _, _, _, _, _, _, _, _, _, _, _, _, _, w⟩ => w.elim
theorem tkB {s : Shared} {H : Hp} {sc : Scope} {ce : Env} {fp : List Addr} : L2N.Takes (X.blk s H sc ce fp) (fun _ _ _ _ => False) := fun _ _ ⟨_, _, _, _, _, _, _, _, _, _, _, _, _, _, _, _, w⟩ => w.elim
end
/-- a def of the module for suites, by its body -/
theorem fn_calE {P : Program} {w : World} {K : PySem.W.Frag} {mg : Str → Option Value} {base : Heap} {x : Str} {st : Stmt} {N ps : List Str} {k : Nat} {sp : Addr → Value → Option Addr → Sp} (F : FnP K (x, none) x x st) (hm : mg x = some (.ref (He.ga K x))) (S : FnScope N ps (defScope st))
    (len : ∀ a c d vs H Q E, sp a c d vs H Q E → vs.length = ps.length)
    (hbd : ∀ (kV doc pm : Value) (an : Option Addr) (cdv ct : Value) (us : List Value), us.length = ps.length → bindArgs (PySem.W.fnOf x x (defArgs st) (defBody st) (defScope st) .none kV doc pm an cdv ct) ⟨us, []⟩ = pure (ps.zip us))
    (hbody : ∀ (f : Addr) (cdv : Value) (A : Around) (outer : List Env) (s : Shared) (H : Hp) (vs : List V) (Q : VK) (E : XK) (p : Addr × Obj) (c : Value) (d : Option Addr), Hot1 A p → L2N.Zn c d p.2 → RoomH k (A.deeper (envOfC x (defScope st) s.heap.objs.size f cdv)) → sp p.1 c d vs H Q E →
      ∃ t, PSs (cxH (L2N.CX P w) P w K mg base N x (defScope st) f cdv A outer s H E p) (defBody st) t ∧ t { nx := fun _ H' => Q .non H', rt := Q } (L2.start N vs) H) : CalE P w K mg base (k + 1) x sp := by
  obtain ⟨fd, F⟩ := F
  obtain ⟨oc, od, dV, kV, doc, pm, an, cdv, ct, osl, rfl, lk, hcd, _, _⟩ := F.ex
  exact ⟨_, _, ps, fn_ofE lk hcd S len fun A outer s H vs Q E p c d h1 h2 hr h => hbody _ cdv A outer s H vs Q E p c d h1 h2 hr h, hm, F.kp, F.bindsN hbd⟩
theorem roomS {j k : Nat} {A : Around} {x : Option Value} (hr : Room j A) (h : k ≤ j) : RoomH k (A.mark x) := ⟨(roomH_of (hr.mono h)).dp, (roomH_of (hr.mono h)).un⟩
end RP

/-! ### rules whose readings simp can reckon -/
namespace RP
open PySem PySem.Spec PyProof.Rows L2
section
variable {X : Cx} {e : Expr} {st : Stmt}
theorem pe_imp {t t' : TE} (h : PE X e t) (i : ∀ σ H Q, t' σ H Q → t σ H Q) : PE X e t' := ⟨fun pins s σ H Q I q => h.run pins s σ H Q I (i σ H Q q)⟩
theorem pt_imp {t t' : TT} (h : PT X e t) (i : ∀ σ H Q, t' σ H Q → t σ H Q) : PT X e t' := ⟨fun pins s σ H Q I q => h.run pins s σ H Q I (i σ H Q q)⟩
theorem ps_imp {t t' : TS} (h : PS X st t) (i : ∀ D σ H, t' D σ H → t D σ H) : PS X st t' := ⟨fun pins s σ H D I q => h.run pins s σ H D I (i D σ H q)⟩
theorem call_imp {f : Value} {r r' : List V → Hp → VK → Prop} (h : CallR X f r) (i : ∀ vs H Q, r' vs H Q → r vs H Q) : CallR X f r' := fun pins s σ H xs us Q I v q => h pins s σ H xs us Q I v (i xs H Q q)
theorem op_imp {f : Value → Value → Sem Value} {r r' : R2} (h : OpR X f r) (i : ∀ x y H Q, r' x y H Q → r x y H Q) : OpR X f r' := fun pins s σ H x y v u Q I rx ry q => h pins s σ H x y v u Q I rx ry (i x y H Q q)
theorem ix_imp {r r' : R2} (h : IxR X r) (i : ∀ x y H Q, r' x y H Q → r x y H Q) : IxR X r' := fun a b pins s σ H x y v u Q I rx ry q => h a b pins s σ H x y v u Q I rx ry (i x y H Q q)
end
/-! #### what stands at a value -/
def tyN (H : Hp) : V → Option String
  | .non => some "NoneType"
  | .bl _ => some "bool"
  | .int _ => some "int"
  | .str _ => some "str"
  | .ref a => match H a with
    | some (.lst _) => some "list"
    | some (.tup _) => some "tuple"
    | some (.dK _) => some "dict"
    | _ => none
  | _ => none
def seqO (H : Hp) (a : Addr) : Option (List V) := match H a with
  | some (.lst xs) => some xs
  | some (.tup xs) => some xs
  | some (.frz _ (.lst xs)) => some xs
  | _ => none
def keyV : V → Option Key
  | .int n => some (.inl n)
  | .str x => some (.inr x)
  | _ => none
theorem keyV_eq {v : V} {k : Key} (h : keyV v = some k) : v = kV k := by
  cases v <;> simp only [keyV, Option.some.injEq, reduceCtorEq] at h <;> subst h <;> rfl
theorem tyN_ok {K : PySem.W.Frag} {H : Hp} {x : V} {t : String} (h : tyN H x = some t) : TyX K H x (.type t) := by
  cases x with
  | non => cases h; exact .base .non
  | bl b => cases h; exact .base (.bl b)
  | int i => cases h; exact .base (.int i)
  | str s => cases h; exact .base (.str s)
  | byt b => cases h
  | flt b => cases h
  | ty n => cases h
  | ref a =>
    unfold tyN at h
    dsimp only at h
    split at h
    · cases h; exact .base (.lst (by assumption))
    · cases h; exact .base (.tup (by assumption))
    · cases h; exact .base (.dK (by assumption))
    · cases h
theorem seqO_ok {K : PySem.W.Frag} {H : Hp} {a : Addr} {xs : List V} (h : seqO H a = some xs) : SqL K H a xs ∨ SqT K H a xs := by
  unfold seqO at h
  split at h
  · cases h; exact .inl (SqL.of (by assumption))
  · cases h; exact .inr (SqT.of (by assumption))
  · cases h; exact .inl (.inl (.inr ⟨_, by assumption⟩))
  · cases h
section
variable {X : Cx}
def rIsC : List V → Hp → VK → Prop := fun vs H Q => ∃ x c t b, vs = [x, .ty c] ∧ tyN H x = some t ∧ kitB t c = some b ∧ Q (.bl b) H
theorem call_isC : CallR X (.builtin "isinstance") rIsC := call_imp call_isi fun vs H Q ⟨x, c, t, b, e, h1, h2, q⟩ => ⟨x, .ty c, .type t, .type c, b, e, .ty c, tyN_ok h1, kit_ty h2, q⟩
def lenO (H : Hp) (a : Addr) : Option Nat := match H a with
  | some (.dK kvs) => some kvs.length
  | _ => (seqO H a).map List.length
def rLenC : List V → Hp → VK → Prop := fun vs H Q => ∃ a n, vs = [.ref a] ∧ lenO H a = some n ∧ Q (.int (n : Int)) H
theorem call_lenC : CallR X (.builtin "len") rLenC := by
  intro pins s σ H xs us Q I r h
  obtain ⟨a, n, rfl, e, q⟩ := h
  unfold lenO at e
  split at e
  · cases e
    exact call_lenD pins s σ H _ us Q I r ⟨_, _, rfl, by assumption, q⟩
  · obtain ⟨ys, e1, rfl⟩ := Option.map_eq_some_iff.mp e
    exact call_len_seq pins s σ H _ us Q I r ⟨_, _, rfl, seqO_ok e1, q⟩
def rIxC : R2 := fun x y H Q => ∃ p xs i v, x = .ref p ∧ y = .int i ∧ seqO H p = some xs ∧ atI xs i = some v ∧ Q v H
theorem ix_C : IxR X rIxC := ix_imp (IxR.or ix_list ix_tup) fun x y H Q ⟨p, xs, i, v, e1, e2, h, a, q⟩ => (seqO_ok (K := X.K) h).elim (fun z => .inl ⟨p, xs, i, v, e1, e2, z, a, q⟩) fun z => .inr ⟨p, xs, i, v, e1, e2, z, a, q⟩
def rInC (neg : Bool) : R2 := fun x y H Q => ∃ p xs, y = .ref p ∧ seqO H p = some xs ∧ flatV x = true ∧ xs.all flatV = true ∧ Q (.bl (if neg then !inV x xs else inV x xs)) H
theorem op_inC : OpR X (compareOp .In) (rInC false) := op_imp op_in_seq fun x y H Q ⟨p, xs, e, h, f1, f2, q⟩ => ⟨p, xs, e, seqO_ok h, f1, f2, q⟩
theorem op_notInC : OpR X (compareOp .NotIn) (rInC true) := op_imp op_notIn_seq fun x y H Q ⟨p, xs, e, h, f1, f2, q⟩ => ⟨p, xs, e, seqO_ok h, f1, f2, q⟩
/-! #### dicts with keys that are ints or texts -/
variable {a b o i value : Expr} {pos pos' apos cpos : Pos} {td ty tv te : TE}
def tInD (neg : Bool) (ty td : TE) : TE := fun σ H Q => ty σ H fun y H1 => td σ H1 fun x H2 => ∃ a kvs k, x = .ref a ∧ H2 a = some (.dK kvs) ∧ keyV y = some k ∧ Q (.bl (if neg then !(valV kvs k).isSome else (valV kvs k).isSome)) H2
theorem pc_imp {op : CmpOp} {t t' : TE} (h : PC X op a b t) (i : ∀ σ H Q, t' σ H Q → t σ H Q) : PC X op a b t' := ⟨fun pins s σ H Q I q => h.run pins s σ H Q I (i σ H Q q)⟩
/-- what must hold, by a wish that is less -/
def tMn (t : TE) : TE := fun σ H Q => ∃ R : VK, t σ H R ∧ ∀ x H1, R x H1 → Q x H1
theorem pe_mn {t : TE} (h : PE X a t) : PE X a (tMn t) := ⟨fun pins s σ H Q I ⟨R, r, m⟩ => thn (h.run pins s σ H R I r) fun u s1 ⟨v, H1, I1, rv, q⟩ => ⟨v, H1, I1, rv, m _ _ q⟩⟩
def tMnA (t : TA) : TA := fun σ H Q => ∃ R : List V → Hp → Prop, t σ H R ∧ ∀ x H1, R x H1 → Q x H1
theorem getK {H : Hp} {a : Addr} {kvs : List (Key × V)} {k : Key} {y : V} (e : H a = some (.dK kvs)) (h : keyV y = some k) : DGet H a y (valV kvs k) := by
  rw [keyV_eq h]
  exact DGet.k e
theorem pc_inD (hu : X.A.units + 1 < cLine) (hi : PE X i ty) (ho : PE X o td) : PC X .In i o (tInD false ty td) :=
  pc_imp (pc_din hu (pe_mn hi) (pe_mn ho)) fun σ H Q h => ⟨_, h, fun y H1 q => ⟨_, q, fun x H2 ⟨a, kvs, k, e, ea, ek, q⟩ => ⟨a, _, e, getK ea ek, q⟩⟩⟩
theorem pc_notinD (hu : X.A.units + 1 < cLine) (hi : PE X i ty) (ho : PE X o td) : PC X .NotIn i o (tInD true ty td) :=
  pc_imp (pc_dnotin hu (pe_mn hi) (pe_mn ho)) fun σ H Q h => ⟨_, h, fun y H1 q => ⟨_, q, fun x H2 ⟨a, kvs, k, e, ea, ek, q⟩ => ⟨a, _, e, getK ea ek, q⟩⟩⟩
def tGetD (td ty : TE) : TE := fun σ H Q => td σ H fun x H1 => ty σ H1 fun y H2 => ∃ a kvs k v, x = .ref a ∧ H2 a = some (.dK kvs) ∧ keyV y = some k ∧ valV kvs k = some v ∧ Q v H2
theorem pe_getD (hu : X.A.units + 1 < cLine) (ho : PE X o td) (hi : PE X i ty) (hs : NoSl i) : PE X (.Subscript o i pos) (tGetD td ty) :=
  pe_imp (pe_dget hu (pe_mn ho) (pe_mn hi) hs) fun σ H Q h => ⟨_, h, fun y H1 q => ⟨_, q, fun x H2 ⟨a, kvs, k, v, e, ea, ek, ev, q⟩ => ⟨a, v, e, ev ▸ getK ea ek, q⟩⟩⟩
def sPutD (td ty tv : TE) : TS := fun D σ H => tv σ H fun v H1 => td σ H1 fun x H2 => ty σ H2 fun y H3 => ∃ a kvs k, x = .ref a ∧ H3 a = some (.dK kvs) ∧ keyV y = some k ∧ kvs.length < sizeLine ∧ D.nx σ (upd H3 a (.dK (putK kvs k v)))
theorem ps_putD (hu : X.A.units + 1 < cLine) (ho : PE X o td) (hi : PE X i ty) (hv : PE X value tv) (hs : swapsWith value (some (.Subscript o i pos')) pos.line X.env = pure false) :
    PS X (.Assign [.Subscript o i pos'] value pos) (sPutD td ty tv) :=
  ps_imp (ps_dput hu (pe_mn ho) (pe_mn hi) (pe_mn hv) hs) fun D σ H h => ⟨_, h, fun v H1 q => ⟨_, q, fun x H2 q => ⟨_, q, fun y H3 ⟨a, kvs, k, e, ea, ek, hl, q⟩ => ⟨a, _, e, by rw [keyV_eq ek]; exact DPut.k ea hl, q⟩⟩⟩⟩
def tPopD (td ty : TE) : TE := fun σ H Q => td σ H fun x H1 => ∃ a kvs, x = .ref a ∧ H1 a = some (.dK kvs) ∧ ty σ H1 fun y H2 => ∃ kvs k v, H2 a = some (.dK kvs) ∧ keyV y = some k ∧ valV kvs k = some v ∧ Q v (upd H2 a (.dK (dropK kvs k)))
theorem pe_popD (ho : PE X o td) (he : PE X e ty) (m : M1 X o "pop" apos e cpos) : PE X (.Call (.Attribute o "pop" apos) [e] [] cpos) (tPopD td ty) :=
  pe_imp (pe_dpop1 (pe_mn ho) (pe_mn he) m) fun σ H Q h => ⟨_, h, fun x H1 ⟨a, kvs, e, ea, q⟩ => ⟨a, e, (.inl ⟨kvs, .inl ea⟩), ⟨_, q, fun y H2 ⟨kvs, k, v, e2, ek, ev, q⟩ => ⟨kvs, k, v, e2, keyV_eq ek, ev, q⟩⟩⟩⟩
/-! #### lists -/
variable {tl : TE} {t : TA} {es : List Expr}
def tAppC (tl te : TE) : TE := fun σ H Q => tl σ H fun x H1 => ∃ l ys, x = .ref l ∧ H1 l = some (.lst ys) ∧ te σ H1 fun y H2 => ∃ xs, H2 l = some (.lst xs) ∧ xs.length < sizeLine ∧ Q .non (upd H2 l (.lst (xs ++ [y])))
theorem pe_app (hl : PE X o tl) (he : PE X e te) (hbase : attributeBase o "append" X.env (eval o X.env) = eval o X.env := by rfl)
    (hfew : ((backTo cpos (starEach [e] X.env)).all (fun x => !x.1) && (backToKw cpos (keywordEach [] X.env)).all (fun x => x.1.isSome) && decide (([e] : List Expr).length + ([] : List Keyword).length + (if ([] : List Keyword).isEmpty then 0 else 1) < 30)) = true := by rfl)
    (hline : (apos.endLine == cpos.line) = true := by rfl) (hs : starEach [e] X.env = (false, eval e X.env) :: starEach [] X.env := by rfl) (hplain : (backTo cpos (starEach [] X.env)).any (·.1) = false := by rfl) :
    PE X (.Call (.Attribute o "append" apos) [e] [] cpos) (tAppC tl te) :=
  pe_imp (pe_bm PySem.F.plainAttrs_list PySem.F.slot_list_append PySem.F.type_list_append mt_append (pe_mn hl) (pa_cons (pe_mn he) pa_nil hs) hbase hfew hline hs hplain)
    fun σ H Q h => ⟨_, h, fun x H1 ⟨l, ys, e1, e2, q⟩ => ⟨by rw [e1]; exact .inl ⟨rfl, _, SqL.of e2⟩, ⟨_, q, fun y H2 ⟨xs, e3, z, q⟩ => ⟨l, xs, y, e1, rfl, e3, z, q⟩⟩⟩⟩
/-! #### data, compared -/
def mapO (f : V → Option PyData) : List V → Option (List PyData)
  | [] => some []
  | v :: r => match f v, mapO f r with
    | some d, some ds => some (d :: ds)
    | _, _ => none
def dat (H : Hp) : Nat → V → Option PyData
  | _, .non => some .none
  | _, .bl b => some (.bool b)
  | _, .int i => some (.int i)
  | _, .str x => some (.str x)
  | n + 1, .ref a => match H a with
    | some (.lst xs) => (mapO (dat H n) xs).map PyData.list
    | some (.tup xs) => (mapO (dat H n) xs).map PyData.tuple
    | some (.frz _ (.lst xs)) => (mapO (dat H n) xs).map PyData.list
    | _ => none
  | _, _ => none
theorem mapO_ok {K : PySem.W.Frag} {H : Hp} {f : V → Option PyData} (hf : ∀ v d, f v = some d → Dp K H v d) : ∀ {xs : List V} {ds : List PyData}, mapO f xs = some ds → DpAll K H xs ds
  | [], ds, h => by cases h; exact .nil
  | v :: r, ds, h => by
    unfold mapO at h
    split at h
    · rename_i d ds' h1 h2
      cases h
      exact .cons (hf _ _ h1) (mapO_ok hf h2)
    · cases h
theorem dat_ok {K : PySem.W.Frag} {H : Hp} : ∀ (n : Nat) (v : V) (d : PyData), dat H n v = some d → Dp K H v d
  | _, .non, d, h => by
    unfold dat at h
    cases h
    exact .non
  | _, .bl b, d, h => by
    unfold dat at h
    cases h
    exact .bl b
  | _, .int i, d, h => by
    unfold dat at h
    cases h
    exact .int i
  | _, .str x, d, h => by
    unfold dat at h
    cases h
    exact .str x
  | 0, .ref a, d, h => by
    unfold dat at h
    cases h
  | n + 1, .ref a, d, h => by
    unfold dat at h
    split at h
    · obtain ⟨ds, e, rfl⟩ := Option.map_eq_some_iff.mp h
      exact .lst (SqL.of (by assumption)) (mapO_ok (dat_ok n) e)
    · obtain ⟨ds, e, rfl⟩ := Option.map_eq_some_iff.mp h
      exact .tup (SqT.of (by assumption)) (mapO_ok (dat_ok n) e)
    · obtain ⟨ds, e, rfl⟩ := Option.map_eq_some_iff.mp h
      exact .lst (.inl (.inr ⟨_, by assumption⟩)) (mapO_ok (dat_ok n) e)
    · cases h
  | 0, .byt b, d, h => by unfold dat at h; cases h
  | 0, .flt b, d, h => by unfold dat at h; cases h
  | 0, .ty n, d, h => by unfold dat at h; cases h
  | _ + 1, .byt b, d, h => by unfold dat at h; cases h
  | _ + 1, .flt b, d, h => by unfold dat at h; cases h
  | _ + 1, .ty n, d, h => by unfold dat at h; cases h
def rEqC (neg : Bool) : R2 := fun x y H Q => ∃ d e, dat H 8 x = some d ∧ dat H 8 y = some e ∧ SeqAt.shaped d = true ∧ SeqAt.shaped e = true ∧ Q (.bl (if neg then !PyData.eqv d e else PyData.eqv d e)) H
theorem op_eqC (hu : X.A.units + 64 < cLine) : OpR X (compareOp .Eq) (rEqC false) := op_imp (op_eqD hu) fun x y H Q ⟨d, e, h1, h2, s1, s2, q⟩ => ⟨d, e, dat_ok _ _ _ h1, dat_ok _ _ _ h2, s1, s2, q⟩
theorem op_neC (hu : X.A.units + 64 < cLine) : OpR X (compareOp .NotEq) (rEqC true) := op_imp (op_neD hu) fun x y H Q ⟨d, e, h1, h2, s1, s2, q⟩ => ⟨d, e, dat_ok _ _ _ h1, dat_ok _ _ _ h2, s1, s2, q⟩
/-! #### text * int -/
theorem op_mul_str : OpR X (binaryOp .Mult) (fun x y H Q => ∃ z n, x = .str z ∧ y = .int n ∧ MulOk z n ∧ Q (.str (Txt.mul z n)) H) := by
  rintro pins s σ H x y v u Q I rx ry ⟨z, n, rfl, rfl, hz, q⟩
  obtain ⟨t, rfl⟩ := rx
  obtain ⟨t', rfl⟩ := ry
  exact SB.mul hz fun t1 k => ⟨.str (Txt.mul z n), H, I.tok _, ⟨_, rfl⟩, q⟩
/-! #### is, is not of truth values -/
end
/-! #### min of three, of four -/
section
variable {prog : Program} {w : World} {A : Around} {E : Value → Shared → Prop} {s : Shared}
theorem call_min_of {us : List Value} (hsz : sizeOk (.seq us.toArray)) (ha : argsOk "min" ⟨us, []⟩) (hp : ∀ s : Shared, (Builtin.Builtins.bindParams "min" ["key", "default"] 0 ⟨[], []⟩) = pure [none, none]) {a b : Value} {r : List Value} (hus : us = a :: b :: r) {Q : Value → Shared → Prop}
    (h : wpAny (model prog w) A.in1 (pyIter (.ref s.heap.objs.size)) (fun it s₂ => ∃ I fp wr n P St bt, it = .ref I ∧ Walks prog w A.in1 I fp wr n P St ∧ St 0 s₂.heap ∧ (∀ b ∈ fp, b < s₂.heap.objs.size) ∧ 0 < n ∧ CmpOf prog w A.in1 .Lt P bt ∧
      ∀ v h' tk, P (argBest bt (n - 1)) v → (∀ b o, b ∉ wr → s₂.heap.get? b = some o → h'.get? b = some o) → Q v { s₂ with heap := h', toks := tk }) E
      { s with heap := s.heap.push { cls := .type "tuple", data := .seq us.toArray } }) :
    wpAny (model prog w) A (call (.builtin "min") us) Q E s := by
  subst hus
  have hname : (toString "min" ++ toString ".loop" : String) = "min.loop" := by decide
  refine call_function_tree F.kind_min F.plain_min F.entry_min ha ?_
  show wpAny _ A.in1 (Builtin.Builtins.bindParams "min" ["key", "default"] 0 ⟨[], []⟩ >>= _) _ _ s
  refine wpAny_bind (wpAny_of_eq (hp s) ?_)
  show wpAny _ A.in1 (newTuple (a :: b :: r) >>= _) _ _ s
  refine wpAny_bind (wpAny_newObj_type ?_ hsz)
  refine wpAny_bind (wpAny_mono h (fun it s₂ h₂ => ?_) fun _ _ e => e)
  obtain ⟨I, fp, wr, n, P, St, bt, rfl, W, hst, hfp, hn, hcmp, hQ⟩ := h₂
  refine wpAny_bind (wpAny_newObj_type ?_)
  have hSf : s₂.heap.objs.size ∉ fp := fun hm => Nat.lt_irrefl _ (hfp _ hm)
  rw [hname]
  refine wpAny_pure ⟨plainId_quiet F.plain_min_loop _, codeAny_min_loop_first W bt hcmp s₂.heap.objs.size hSf hn (W.frame _ _ _ hst fun b _ o e => Heap.get?_push_of_some _ e) (Heap.get?_push_size _ rfl) fun v h' tk hP hk => ?_⟩
  exact hQ v h' tk hP fun b o hbw e => hk b o hbw (Nat.ne_of_lt (Heap.lt_size e)) (Heap.get?_push_of_some _ e)
theorem min_walk {xs : Array (Int × Tok)} {us : List Value} (hxs : (intItems xs).toList = us) (hsz : sizeOk (.seq us.toArray)) (ha : argsOk "min" ⟨us, []⟩) {a b : Value} {r : List Value} (hus : us = a :: b :: r) (hh : A.handled = none) {Q : Value → Shared → Prop}
    (h : ∀ v h' tk, (intItems xs)[argBest (fun i j => decide (numAt xs i < numAt xs j)) (xs.size - 1)]? = some v → (∀ c o, s.heap.get? c = some o → h'.get? c = some o) → Q v { s with heap := h', toks := tk }) :
    wpAny (model prog w) A (call (.builtin "min") us) Q E s := by
  have hu : us.toArray = intItems xs := by rw [← hxs]
  have hT : (s.heap.push { cls := .type "tuple", data := .seq us.toArray }).IsTuple s.heap.objs.size (intItems xs) := ⟨_, Heap.get?_push_size _ rfl, rfl, 0, by rw [hu]⟩
  have hn : 0 < (intItems xs).size := by rw [← hu, hus]; simp
  refine call_min_of hsz ha (fun _ => rfl) hus (wpAny_pyIter_tuple hT ?_)
  have hs1 : (s.heap.push { cls := .type "tuple", data := .seq us.toArray }).objs.size = s.heap.objs.size + 1 := Heap.size_push ..
  refine ⟨_, [_, s.heap.objs.size], [_], _, _, _, _, rfl, Walks.tuple (A := A.in1) hh _ s.heap.objs.size (by rw [hs1]; exact Nat.ne_of_lt (Nat.lt_succ_self _)) (intItems xs),
    ⟨⟨_, Heap.get?_push_size _ rfl, rfl, rfl⟩, hT.push _⟩, fun c hc => ?_, hn, CmpOf.ints_lt (numAt xs) (fun _ _ => intItems_at), fun v h' tk hP hk => ?_⟩
  · show c < ((s.heap.push _).push _).objs.size
    rw [Heap.size_push, hs1]
    simp only [List.mem_cons, List.not_mem_nil, or_false, hs1] at hc
    rcases hc with rfl | rfl
    · exact Nat.lt_succ_self _
    · exact Nat.lt_succ_of_lt (Nat.lt_succ_self _)
  · refine h v h' tk (by simpa [intItems] using hP) fun c o e => hk c o (fun hm => ?_) (Heap.get?_push_of_some _ (Heap.get?_push_of_some _ e))
    have hlt := Heap.lt_size e
    simp only [List.mem_cons, List.not_mem_nil, or_false, hs1] at hm
    rw [hm] at hlt
    exact Nat.lt_irrefl _ (Nat.lt_of_succ_lt hlt)
def mn2 (a b : Int) : Int := if b < a then b else a
theorem args_min3 (a b c : Value) : argsOk "min" ⟨[a, b, c], []⟩ := by unfold argsOk; kernel_rfl
theorem args_min4 (a b c d : Value) : argsOk "min" ⟨[a, b, c, d], []⟩ := by unfold argsOk; kernel_rfl
theorem min_three {a b c : Int} {t u v : Tok} {Q : Value → Shared → Prop} (hh : A.handled = none)
    (h : ∀ h' tk z, (∀ c o, s.heap.get? c = some o → h'.get? c = some o) → Q (.int (mn2 (mn2 a b) c) z) { s with heap := h', toks := tk }) :
    wpAny (model prog w) A (call (.builtin "min") [.int a t, .int b u, .int c v]) Q E s := by
  refine min_walk (us := [.int a t, .int b u, .int c v]) (xs := #[(a, t), (b, u), (c, v)]) (by simp [intItems]) (by size_fits) (args_min3 _ _ _) rfl hh fun r h' tk hr hk => ?_
  have e : ∃ z, r = .int (mn2 (mn2 a b) c) z := by
    unfold mn2
    by_cases h1 : b < a <;> by_cases h2 : c < b <;> by_cases h3 : c < a <;> simp [intItems, argBest, numAt, h1, h2, h3] at hr ⊢ <;> subst hr <;> exact ⟨_, rfl⟩
  obtain ⟨z, rfl⟩ := e
  exact h h' tk z hk
theorem min_four {a b c d : Int} {t u v y : Tok} {Q : Value → Shared → Prop} (hh : A.handled = none)
    (h : ∀ h' tk z, (∀ c o, s.heap.get? c = some o → h'.get? c = some o) → Q (.int (mn2 (mn2 (mn2 a b) c) d) z) { s with heap := h', toks := tk }) :
    wpAny (model prog w) A (call (.builtin "min") [.int a t, .int b u, .int c v, .int d y]) Q E s := by
  refine min_walk (us := [.int a t, .int b u, .int c v, .int d y]) (xs := #[(a, t), (b, u), (c, v), (d, y)]) (by simp [intItems]) (by size_fits) (args_min4 _ _ _ _) rfl hh fun r h' tk hr hk => ?_
  have e : ∃ z, r = .int (mn2 (mn2 (mn2 a b) c) d) z := by
    unfold mn2
    by_cases h1 : b < a <;> by_cases h2 : c < b <;> by_cases h3 : c < a <;> by_cases h4 : d < a <;> by_cases h5 : d < b <;> by_cases h6 : d < c <;> simp [intItems, argBest, numAt, h1, h2, h3, h4, h5, h6] at hr ⊢ <;> subst hr <;> exact ⟨_, rfl⟩
  obtain ⟨z, rfl⟩ := e
  exact h h' tk z hk
end
section
variable {X : Cx}
theorem call_min3 (hc : X.calm = true) : CallR X (.builtin "min") (fun xs H Q => ∃ i j k, xs = [.int i, .int j, .int k] ∧ Q (.int (mn2 (mn2 i j) k)) H) := by
  rintro pins s σ H xs us Q I r ⟨i, j, k, rfl, q⟩
  cases r with
  | cons r1 r => cases r with
    | cons r2 r => cases r with
      | cons r3 r =>
        cases r
        obtain ⟨t1, rfl⟩ := r1
        obtain ⟨t2, rfl⟩ := r2
        obtain ⟨t3, rfl⟩ := r3
        exact min_three (I.ok.hd hc) fun h' tk z kp => ⟨.int _, H, I.kept kp, ⟨_, rfl⟩, q⟩
theorem call_min4 (hc : X.calm = true) : CallR X (.builtin "min") (fun xs H Q => ∃ i j k l, xs = [.int i, .int j, .int k, .int l] ∧ Q (.int (mn2 (mn2 (mn2 i j) k) l)) H) := by
  rintro pins s σ H xs us Q I r ⟨i, j, k, l, rfl, q⟩
  cases r with
  | cons r1 r => cases r with
    | cons r2 r => cases r with
      | cons r3 r => cases r with
        | cons r4 r =>
          cases r
          obtain ⟨t1, rfl⟩ := r1
          obtain ⟨t2, rfl⟩ := r2
          obtain ⟨t3, rfl⟩ := r3
          obtain ⟨t4, rfl⟩ := r4
          exact min_four (I.ok.hd hc) fun h' tk z kp => ⟨.int _, H, I.kept kp, ⟨_, rfl⟩, q⟩
end
end RP

/-! ### readings, reckoned by simp: one theorem of equations -/
namespace RP
open PySem PySem.Spec PyProof.Rows L2
theorem RDa :
    (∀ (i : Nat) (σ : L2.St) (H : Hp) (Q : VK), tVar i σ H Q = ∃ v, σ[i]? = some (some v) ∧ Q v H) ∧
    (∀ (v : V) (σ : L2.St) (H : Hp) (Q : VK), tC v σ H Q = Q v H) ∧
    (∀ (r : R2) (ta tb : TE) (σ : L2.St) (H : Hp) (Q : VK), tOp r ta tb σ H Q = ta σ H fun x H1 => tb σ H1 fun y H2 => r x y H2 Q) ∧
    (∀ (r : V → Hp → VK → Prop) (ta : TE) (σ : L2.St) (H : Hp) (Q : VK), tUn r ta σ H Q = ta σ H fun x H1 => r x H1 Q) ∧
    (∀ (C : Int → Int → Prop) (g : Int → Int → V) (x y : V) (H : Hp) (Q : VK), rI C g x y H Q = ∃ i j, x = .int i ∧ y = .int j ∧ C i j ∧ Q (g i j) H) ∧
    (∀ (g : Int → Int → V) (x y : V) (H : Hp) (Q : VK), rI0 g x y H Q = ∃ i j, x = .int i ∧ y = .int j ∧ Q (g i j) H) ∧
    (∀ (g : Int → V) (x : V) (H : Hp) (Q : VK), rU g x H Q = ∃ i, x = .int i ∧ Q (g i) H) ∧
    (∀ (t : TE) (σ : L2.St) (H : Hp) (Q : Bool → Hp → Prop), tB t σ H Q = t σ H fun x H1 => ∃ c, x = .bl c ∧ Q c H1) ∧
    (∀ (t : TE) (σ : L2.St) (H : Hp) (Q : Bool → Hp → Prop), tTest t σ H Q = t σ H fun x H1 => ∃ c, x = .bl c ∧ Q c H1) ∧
    (∀ (t u : TT) (σ : L2.St) (H : Hp) (Q : Bool → Hp → Prop), tAnd t u σ H Q = t σ H fun c H1 => if c = true then u σ H1 Q else Q false H1) ∧
    (∀ (t u : TT) (σ : L2.St) (H : Hp) (Q : Bool → Hp → Prop), tOr t u σ H Q = t σ H fun c H1 => if c = true then Q true H1 else u σ H1 Q) ∧
    (∀ (t : TT) (σ : L2.St) (H : Hp) (Q : Bool → Hp → Prop), tNot t σ H Q = t σ H fun c H1 => Q (!c) H1) ∧
    (∀ (ta tb : TE) (σ : L2.St) (H : Hp) (Q : VK), tAndV ta tb σ H Q = ta σ H fun x H1 => ∃ c, x = .bl c ∧ if c = true then tb σ H1 Q else Q (.bl false) H1) ∧
    (∀ (ta tb : TE) (σ : L2.St) (H : Hp) (Q : VK), tOrV ta tb σ H Q = ta σ H fun x H1 => ∃ c, x = .bl c ∧ if c = true then Q (.bl true) H1 else tb σ H1 Q) ∧
    (∀ (ta : TE) (σ : L2.St) (H : Hp) (Q : VK), tNotV ta σ H Q = ta σ H fun x H1 => ∃ c, x = .bl c ∧ Q (.bl (!c)) H1) ∧
    (∀ (t : TT) (ta tb : TE) (σ : L2.St) (H : Hp) (Q : VK), tIf t ta tb σ H Q = t σ H fun c H1 => if c = true then ta σ H1 Q else tb σ H1 Q) ∧
    (∀ (r r' : R2) (ta tb tc : TE) (σ : L2.St) (H : Hp) (Q : VK), tChain r r' ta tb tc σ H Q = ta σ H fun x H1 => tb σ H1 fun y H2 => r x y H2 fun z H3 => ∃ k, z = .bl k ∧ (if k = true then tc σ H3 fun w' H4 => r' y w' H4 Q else Q (.bl false) H3)) ∧
    (∀ (D : Ends) (σ : L2.St) (H : Hp), tNext D σ H = D.nx σ H) ∧
    (∀ (t u : TS) (D : Ends) (σ : L2.St) (H : Hp), tSeq t u D σ H = t { D with nx := u D } σ H) ∧
    (∀ (te : TE) (D : Ends) (σ : L2.St) (H : Hp), tDrop te D σ H = te σ H fun _ H1 => D.nx σ H1) ∧
    (∀ (te : TE) (D : Ends) (σ : L2.St) (H : Hp), tRet te D σ H = te σ H D.rt) ∧
    (∀ (D : Ends) (σ : L2.St) (H : Hp), tRetN D σ H = D.rt .non H) ∧
    (∀ (c : TT) (t u : TS) (D : Ends) (σ : L2.St) (H : Hp), tIfS c t u D σ H = c σ H fun b H1 => if b = true then t D σ H1 else u D σ H1) ∧
    (∀ (te : TE) (g : TG) (D : Ends) (σ : L2.St) (H : Hp), tAsg te g D σ H = te σ H fun x H1 => g x σ H1 D.nx) ∧
    (∀ (i : Nat) (v : V) (σ : L2.St) (H : Hp) (Q : L2.St → Hp → Prop), gName i v σ H Q = Q (σ.set i (some v)) H) ∧
    (∀ (vs : List V) (σ : L2.St) (H : Hp) (Q : L2.St → Hp → Prop), gNil vs σ H Q = (vs = [] ∧ Q σ H)) ∧
    (∀ (t : TG) (u : TGs) (vs : List V) (σ : L2.St) (H : Hp) (Q : L2.St → Hp → Prop), gCons t u vs σ H Q = ∃ v r, vs = v :: r ∧ t v σ H fun σ' H' => u r σ' H' Q) ∧
    (∀ (to ti : TE) (t : TSet) (v : V) (σ : L2.St) (H : Hp) (Q : L2.St → Hp → Prop), gSub to ti t v σ H Q = to σ H fun o H1 => ti σ H1 fun i H2 => t o i v H2 fun H3 => Q σ H3) :=
  ⟨fun _ _ _ _ => rfl, fun _ _ _ _ => rfl, fun _ _ _ _ _ _ => rfl, fun _ _ _ _ _ => rfl, fun _ _ _ _ _ _ => rfl, fun _ _ _ _ _ => rfl, fun _ _ _ _ => rfl, fun _ _ _ _ => rfl, fun _ _ _ _ => rfl, fun _ _ _ _ _ => rfl, fun _ _ _ _ _ => rfl, fun _ _ _ _ => rfl, fun _ _ _ _ _ => rfl,
   fun _ _ _ _ _ => rfl, fun _ _ _ _ => rfl, fun _ _ _ _ _ _ => rfl, fun _ _ _ _ _ _ _ _ => rfl, fun _ _ _ => rfl, fun _ _ _ _ _ => rfl, fun _ _ _ _ => rfl, fun _ _ _ _ => rfl, fun _ _ _ => rfl, fun _ _ _ _ _ _ => rfl, fun _ _ _ _ _ => rfl, fun _ _ _ _ _ => rfl, fun _ _ _ _ => rfl, fun _ _ _ _ _ _ => rfl, fun _ _ _ _ _ _ _ => rfl⟩
theorem RDb :
    (∀ (K : PySem.W.Frag) (ta : TE) (f : Str) (σ : L2.St) (H : Hp) (Q : VK), tFld K ta f σ H Q = ta σ H fun x H1 => ∃ a C dx fs v, x = .ref a ∧ H1 a = some (.ins C dx fs) ∧ Cls K C ∧ NoAttr K C f ∧ fs.lookup f = some v ∧ Q v H1) ∧
    (∀ (K : PySem.W.Frag) (ta tv : TE) (f : Str) (D : Ends) (σ : L2.St) (H : Hp), sFld K ta tv f D σ H = tv σ H fun y H1 => ta σ H1 fun x H2 => ∃ a C dx fs, x = .ref a ∧ H2 a = some (.ins C dx fs) ∧ Cls K C ∧ NoAttr K C f ∧ fs.length < 1000 ∧ D.nx σ (upd H2 a (.ins C dx (putF f y fs)))) ∧
    (∀ (σ : L2.St) (H : Hp) (Q : List V → Hp → Prop), tNil σ H Q = Q [] H) ∧
    (∀ (ta : TE) (tr : TA) (σ : L2.St) (H : Hp) (Q : List V → Hp → Prop), tCons ta tr σ H Q = ta σ H fun x H1 => tr σ H1 fun xs H2 => Q (x :: xs) H2) ∧
    (∀ (t : TA) (σ : L2.St) (H : Hp) (Q : VK), tTup t σ H Q = t σ H fun xs H1 => xs.length ≤ sizeLine ∧ ∀ p, H1 p = none → Q (.ref p) (upd H1 p (.tup xs))) ∧
    (∀ (t : TA) (σ : L2.St) (H : Hp) (Q : VK), tLst t σ H Q = t σ H fun xs H1 => xs.length ≤ sizeLine ∧ ∀ p, H1 p = none → Q (.ref p) (upd H1 p (.lst xs))) ∧
    (∀ (r : List V → Hp → VK → Prop) (t : TA) (σ : L2.St) (H : Hp) (Q : VK), tCB r t σ H Q = t σ H fun vs H1 => r vs H1 Q) ∧
    (∀ (sp : Sp) (E : L2.St → XK) (t : TA) (σ : L2.St) (H : Hp) (Q : VK), tCallS sp E t σ H Q = t σ H fun vs H1 => sp vs H1 Q (E σ)) ∧
    (∀ (C : Addr) (m : Str) (sp : Sp) (E : L2.St → XK) (ta : TE) (t : TA) (σ : L2.St) (H : Hp) (Q : VK), tMethS C m sp E ta t σ H Q = ta σ H fun x H1 => ∃ a dx fs, x = .ref a ∧ H1 a = some (.ins C dx fs) ∧ fs.lookup m = none ∧ t σ H1 fun vs H2 => sp (x :: vs) H2 Q (E σ)) ∧
    (∀ (C : Addr) (sp : Sp) (E : L2.St → XK) (t : TA) (σ : L2.St) (H : Hp) (Q : VK), tMakeS C sp E t σ H Q = t σ H fun vs H1 => ∀ x dx, H1 x = none → H1 dx = none → dx ≠ x → sp (.ref x :: vs) (upd (upd H1 dx (.own x)) x (.ins C dx [])) (fun v H2 => v = .non ∧ Q (.ref x) H2) (E σ)) ∧
    (∀ (x y : V) (H : Hp) (Q : VK), rEq x y H Q = (scal x y = true ∧ Q (.bl (decide (x = y))) H)) ∧
    (∀ (x y : V) (H : Hp) (Q : VK), rNe x y H Q = (scal x y = true ∧ Q (.bl (!decide (x = y))) H)) ∧
    (∀ (i j : Int), scal (.int i) (.int j) = true) ∧ (∀ (i j : Str), scal (.str i) (.str j) = true) ∧ (∀ (i j : Bool), scal (.bl i) (.bl j) = true) ∧
    (∀ (vs : List V) (H : Hp) (Q : VK), rIsC vs H Q = ∃ x c t b, vs = [x, .ty c] ∧ tyN H x = some t ∧ kitB t c = some b ∧ Q (.bl b) H) ∧
    (∀ (vs : List V) (H : Hp) (Q : VK), rLenC vs H Q = ∃ a n, vs = [.ref a] ∧ lenO H a = some n ∧ Q (.int (n : Int)) H) ∧
    (∀ (x y : V) (H : Hp) (Q : VK), rIxC x y H Q = ∃ p xs i v, x = .ref p ∧ y = .int i ∧ seqO H p = some xs ∧ atI xs i = some v ∧ Q v H) ∧
    (∀ (neg : Bool) (x y : V) (H : Hp) (Q : VK), rInC neg x y H Q = ∃ p xs, y = .ref p ∧ seqO H p = some xs ∧ flatV x = true ∧ xs.all flatV = true ∧ Q (.bl (if neg then !inV x xs else inV x xs)) H) ∧
    (∀ (neg : Bool) (x y : V) (H : Hp) (Q : VK), rEqC neg x y H Q = ∃ d e, dat H 8 x = some d ∧ dat H 8 y = some e ∧ SeqAt.shaped d = true ∧ SeqAt.shaped e = true ∧ Q (.bl (if neg then !PyData.eqv d e else PyData.eqv d e)) H) ∧
    (∀ (neg : Bool) (ty td : TE) (σ : L2.St) (H : Hp) (Q : VK), tInD neg ty td σ H Q = ty σ H fun y H1 => td σ H1 fun x H2 => ∃ a kvs k, x = .ref a ∧ H2 a = some (.dK kvs) ∧ keyV y = some k ∧ Q (.bl (if neg then !(valV kvs k).isSome else (valV kvs k).isSome)) H2) ∧
    (∀ (td ty : TE) (σ : L2.St) (H : Hp) (Q : VK), tGetD td ty σ H Q = td σ H fun x H1 => ty σ H1 fun y H2 => ∃ a kvs k v, x = .ref a ∧ H2 a = some (.dK kvs) ∧ keyV y = some k ∧ valV kvs k = some v ∧ Q v H2) ∧
    (∀ (td ty tv : TE) (D : Ends) (σ : L2.St) (H : Hp), sPutD td ty tv D σ H = tv σ H fun v H1 => td σ H1 fun x H2 => ty σ H2 fun y H3 => ∃ a kvs k, x = .ref a ∧ H3 a = some (.dK kvs) ∧ keyV y = some k ∧ kvs.length < sizeLine ∧ D.nx σ (upd H3 a (.dK (putK kvs k v)))) ∧
    (∀ (td ty : TE) (σ : L2.St) (H : Hp) (Q : VK), tPopD td ty σ H Q = td σ H fun x H1 => ∃ a kvs, x = .ref a ∧ H1 a = some (.dK kvs) ∧ ty σ H1 fun y H2 => ∃ kvs k v, H2 a = some (.dK kvs) ∧ keyV y = some k ∧ valV kvs k = some v ∧ Q v (upd H2 a (.dK (dropK kvs k)))) ∧
    (∀ (tl te : TE) (σ : L2.St) (H : Hp) (Q : VK), tAppC tl te σ H Q = tl σ H fun x H1 => ∃ l ys, x = .ref l ∧ H1 l = some (.lst ys) ∧ te σ H1 fun y H2 => ∃ xs, H2 l = some (.lst xs) ∧ xs.length < sizeLine ∧ Q .non (upd H2 l (.lst (xs ++ [y])))) ∧
    (∀ (σ : L2.St) (H : Hp) (Q : Option Int → Hp → Prop), tNoPart σ H Q = Q none H) ∧
    (∀ (t : TE) (σ : L2.St) (H : Hp) (Q : Option Int → Hp → Prop), tPart t σ H Q = t σ H fun x H1 => ∃ i, x = .int i ∧ Q (some i) H1) ∧
    (∀ (r : V → Option Int → Option Int → Hp → VK → Prop) (te : TE) (tl th : TO) (σ : L2.St) (H : Hp) (Q : VK), tSl r te tl th σ H Q = te σ H fun x H1 => tl σ H1 fun l H2 => th σ H2 fun u H3 => r x l u H3 Q) :=
  ⟨fun _ _ _ _ _ _ => rfl, fun _ _ _ _ _ _ _ => rfl, fun _ _ _ => rfl, fun _ _ _ _ _ => rfl, fun _ _ _ _ => rfl, fun _ _ _ _ => rfl, fun _ _ _ _ _ => rfl, fun _ _ _ _ _ _ => rfl, fun _ _ _ _ _ _ _ _ _ => rfl, fun _ _ _ _ _ _ _ => rfl, fun _ _ _ _ => rfl, fun _ _ _ _ => rfl,
   fun _ _ => rfl, fun _ _ => rfl, fun _ _ => rfl, fun _ _ _ => rfl, fun _ _ _ => rfl, fun _ _ _ _ => rfl, fun _ _ _ _ _ => rfl, fun _ _ _ _ _ => rfl, fun _ _ _ _ _ _ => rfl, fun _ _ _ _ _ => rfl, fun _ _ _ _ _ _ => rfl, fun _ _ _ _ _ => rfl, fun _ _ _ _ _ => rfl, fun _ _ _ => rfl, fun _ _ _ _ => rfl, fun _ _ _ _ _ _ _ => rfl⟩
theorem RDk :
    kitB "int" "int" = some true ∧ kitB "bool" "int" = some true ∧ kitB "str" "int" = some false ∧ kitB "NoneType" "int" = some false ∧ kitB "list" "int" = some false ∧ kitB "tuple" "int" = some false ∧ kitB "dict" "int" = some false ∧
    kitB "int" "bool" = some false ∧ kitB "bool" "bool" = some true ∧ kitB "str" "bool" = some false ∧ kitB "NoneType" "bool" = some false ∧ kitB "list" "bool" = some false ∧ kitB "tuple" "bool" = some false ∧ kitB "dict" "bool" = some false ∧
    kitB "int" "str" = some false ∧ kitB "bool" "str" = some false ∧ kitB "str" "str" = some true ∧ kitB "NoneType" "str" = some false ∧ kitB "list" "str" = some false ∧ kitB "tuple" "str" = some false ∧ kitB "dict" "str" = some false ∧
    kitB "int" "tuple" = some false ∧ kitB "bool" "tuple" = some false ∧ kitB "str" "tuple" = some false ∧ kitB "NoneType" "tuple" = some false ∧ kitB "list" "tuple" = some false ∧ kitB "tuple" "tuple" = some true ∧ kitB "dict" "tuple" = some false ∧
    kitB "int" "list" = some false ∧ kitB "bool" "list" = some false ∧ kitB "str" "list" = some false ∧ kitB "NoneType" "list" = some false ∧ kitB "list" "list" = some true ∧ kitB "tuple" "list" = some false ∧ kitB "dict" "list" = some false := by
  decide +kernel
theorem RDv :
    (∀ (i j : Int), (V.int i = V.int j) = (i = j)) ∧ (∀ (i j : Str), (V.str i = V.str j) = (i = j)) ∧ (∀ (i j : Bool), (V.bl i = V.bl j) = (i = j)) ∧ (∀ (i j : Addr), (V.ref i = V.ref j) = (i = j)) ∧ (∀ (i j : String), (V.ty i = V.ty j) = (i = j)) ∧
    (∀ (α : Type) (i j : α), (some i = some j) = (i = j)) ∧
    (∀ H, tyN H .non = some "NoneType") ∧ (∀ H b, tyN H (.bl b) = some "bool") ∧ (∀ H b, tyN H (.int b) = some "int") ∧ (∀ H b, tyN H (.str b) = some "str") ∧
    (∀ n, keyV (.int n) = some (.inl n)) ∧ (∀ n, keyV (.str n) = some (.inr n)) ∧
    (∀ (C dx : Addr) (fs : List (Str × V)) (C' dx' : Addr) (fs' : List (Str × V)), (HO.ins C dx fs = HO.ins C' dx' fs') = (C = C' ∧ dx = dx' ∧ fs = fs')) ∧
    (∀ xs ys, (HO.lst xs = HO.lst ys) = (xs = ys)) ∧ (∀ xs ys, (HO.tup xs = HO.tup ys) = (xs = ys)) ∧ (∀ xs ys, (HO.dK xs = HO.dK ys) = (xs = ys)) := by
  refine ⟨?_, ?_, ?_, ?_, ?_, ?_, fun _ => rfl, fun _ _ => rfl, fun _ _ => rfl, fun _ _ => rfl, fun _ => rfl, fun _ => rfl, ?_, ?_, ?_, ?_⟩ <;> intros <;> simp
theorem datE (H : Hp) :
    (∀ n, dat H n .non = some .none) ∧ (∀ n b, dat H n (.bl b) = some (.bool b)) ∧ (∀ n b, dat H n (.int b) = some (.int b)) ∧ (∀ n b, dat H n (.str b) = some (.str b)) ∧
    (∀ n a xs, H a = some (.lst xs) → dat H (n + 1) (.ref a) = (mapO (dat H n) xs).map PyData.list) ∧ (∀ n a xs, H a = some (.tup xs) → dat H (n + 1) (.ref a) = (mapO (dat H n) xs).map PyData.tuple) := by
  refine ⟨fun n => ?_, fun n b => ?_, fun n b => ?_, fun n b => ?_, fun n a xs h => ?_, fun n a xs h => ?_⟩
  · cases n <;> rfl
  · cases n <;> rfl
  · cases n <;> rfl
  · cases n <;> rfl
  · conv => lhs; unfold dat
    rw [h]
  · conv => lhs; unfold dat
    rw [h]
theorem RDx :
    (∀ (CX : CXT) (P : Program) (w : World) (K : PySem.W.Frag) (mg : Str → Option Value) (base : Heap) (N : List Str) (q : Str) (sc : Scope) (f : Addr) (cd : Value) (A : Around) (o : List Env) (s : Shared) (H : Hp) (E : XK), (cxOf CX P w K mg base N q sc f cd A o s H E).K = K) ∧
    (∀ (CX : CXT) (P : Program) (w : World) (K : PySem.W.Frag) (mg : Str → Option Value) (base : Heap) (N : List Str) (q : Str) (sc : Scope) (f : Addr) (cd : Value) (A : Around) (o : List Env) (s : Shared) (H : Hp) (E : XK) (p : Addr × Obj), (L2H.cxH CX P w K mg base N q sc f cd A o s H E p).K = K) ∧
    (∀ (X : Cx) (pn : List (Addr × Obj)) (xe : Value → Shared → Prop), (X.tr pn xe).K = X.K) ∧
    (∀ (X : Cx) (a : Addr) (pn : List (Addr × Obj)), (X.suite a pn).K = X.K) ∧
    (∀ (X : Cx) (s : Shared) (H : Hp) (sc : Scope) (ce : Env) (fp : List Addr), (X.blk s H sc ce fp).K = X.K) ∧
    (∀ (X : Cx), X.nox.K = X.K) := ⟨fun _ _ _ _ _ _ _ _ _ _ _ _ _ _ _ _ => rfl, fun _ _ _ _ _ _ _ _ _ _ _ _ _ _ _ _ _ => rfl, fun _ _ _ => rfl, fun _ _ _ => rfl, fun _ _ _ _ _ _ => rfl, fun _ => rfl⟩
theorem RDe :
    (∀ (K : PySem.W.Frag) (c : Value) (i : Nat) (ts : Addr → Value → Option Addr → TS) (Wout : WX) (D : Ends) (cls : Value) (d : Option Addr) (σ : L2.St) (H : Hp), wAs K c i ts Wout D cls d σ H =
      ∃ b, PySem.W.exmOne K cls c = some b ∧ (b = true → ∀ a, H a = none → ts a cls d { nx := fun σ' H' => D.nx (σ'.set i none) H', rt := D.rt, bk := fun σ' H' => D.bk (σ'.set i none) H', ct := fun σ' H' => D.ct (σ'.set i none) H' } (σ.set i (some (.ref a))) H) ∧ (b = false → Wout cls d σ H)) ∧
    (∀ (K : PySem.W.Frag) (Wout : WX) (D : Ends), L2.wMany K Wout D [] = Wout) ∧
    (∀ (K : PySem.W.Frag) (Wout : WX) (D : Ends) (c : Value) (ts : Addr → Value → Option Addr → TS) (r : List (Value × (Addr → Value → Option Addr → TS))) (cls : Value) (d : Option Addr) (σ : L2.St) (H : Hp), L2.wMany K Wout D ((c, ts) :: r) cls d σ H =
      ∃ b, PySem.W.exmOne K cls c = some b ∧ (b = true → ∀ a, H a = none → ts a cls d D σ H) ∧ (b = false → L2.wMany K Wout D r cls d σ H)) ∧
    (∀ (K : PySem.W.Frag) (a : Addr) (cls : Value) (xs : List V) (H : Hp) (Q : VK), rIsEC K a cls xs H Q = ∃ (c : V) (cv : Value) (b : Bool), xs = [.ref a, c] ∧ clsOf c = some cv ∧ PySem.W.kitOne K cls cv = some b ∧ Q (.bl b) H) ∧
    (∀ a, clsOf (.ref a) = some (.ref a)) ∧ (∀ n, clsOf (.ty n) = some (.type n)) :=
  ⟨fun _ _ _ _ _ _ _ _ _ _ => rfl, fun _ _ _ => rfl, fun _ _ _ _ _ _ _ _ _ _ => rfl, fun _ _ _ _ _ _ => rfl, fun _ => rfl, fun _ => rfl⟩
/-! #### texts -/
theorem mul_one (z : Str) : Txt.mul z 1 = z := by unfold Txt.mul; rw [if_neg (by decide), if_pos (by simp)]
theorem mul_zero (z : Str) : Txt.mul z 0 = Str.empty := by unfold Txt.mul; rw [if_pos (by decide)]
theorem mulOk_one (z : Str) : MulOk z 1 := ⟨by decide, fun _ h => by simp at h, fun _ h => by simp at h⟩
theorem mulOk_zero (z : Str) : MulOk z 0 := ⟨by decide, fun h => absurd (by decide) h, fun h => absurd (by decide) h⟩
theorem str_ext {x y : Str} (h : x.cps.toList = y.cps.toList) : x = y := by
  obtain ⟨a⟩ := x
  obtain ⟨b⟩ := y
  congr
  exact Array.toList_inj.mp h
theorem app_empty (z : Str) : z ++ Str.empty = z := by
  refine str_ext ?_
  show (z.cps ++ #[]).toList = _
  simp
/-! #### loops, by what their walked thing gives -/
section
variable {K : PySem.W.Frag} {tl : TE} {g : TG} {tb : TS} {D : Ends} {σ : L2.St} {H : Hp}
theorem for_lcut (G : Addr → Hp → Prop) (xs : List V) (h1 : ∀ Z : VK, (∀ a H1, G a H1 → Z (.ref a) H1) → tl σ H Z) (Pv : Addr → Nat → L2.St → Hp → Prop) (h0 : ∀ a H1, G a H1 → SqL K H1 a xs ∧ Pv a 0 σ H1) (hl : ∀ a i σ H, i ≤ xs.length → Pv a i σ H → SqL K H a xs)
    (hs : ∀ a i x σ H, xs[i]? = some x → Pv a i σ H → g x σ H fun σ2 H2 => tb { D with nx := Pv a (i + 1), ct := Pv a (i + 1), bk := D.nx } σ2 H2) (hd : ∀ a σ H, Pv a xs.length σ H → D.nx σ H) : tFor (iList K tl) g tb D σ H :=
  h1 _ fun a H1 q => ⟨a, rfl, ⟨xs, (h0 a H1 q).1⟩, for_list (Pv a) (h0 a H1 q).2 (hl a) (hs a) (hd a)⟩
end
theorem same_new {H : Hp} {p : Addr} {o : HO} (h : H p = none) : Same H (upd H p o) := fun b u e => by rw [upd_ne (ne_of_none e h)]; exact e
theorem same_sql {K : PySem.W.Frag} {H H' : Hp} {a : Addr} {xs : List V} (e : Same H H') (h : SqL K H a xs) : SqL K H' a xs := e.seq h
theorem bl3 {i : Nat} {x : V} (h : ([V.bl false, V.bl false, V.bl false] : List V)[i]? = some x) : x = .bl false := by
  match i, h with
  | 0, h => exact (Option.some.inj h).symm
  | 1, h => exact (Option.some.inj h).symm
  | 2, h => exact (Option.some.inj h).symm
  | n + 3, h => cases h
/-! #### data as it is compared -/
theorem seqO_tup {H : Hp} {a : Addr} {xs : List V} (h : H a = some (.tup xs)) : seqO H a = some xs := by unfold seqO; rw [h]
theorem seqO_lst {H : Hp} {a : Addr} {xs : List V} (h : H a = some (.lst xs)) : seqO H a = some xs := by unfold seqO; rw [h]
theorem tyN_tup {H : Hp} {a : Addr} {xs : List V} (h : H a = some (.tup xs)) : tyN H (.ref a) = some "tuple" := by unfold tyN; dsimp only; rw [h]
theorem tyN_lst {H : Hp} {a : Addr} {xs : List V} (h : H a = some (.lst xs)) : tyN H (.ref a) = some "list" := by unfold tyN; dsimp only; rw [h]
theorem tyN_dK {H : Hp} {a : Addr} {xs : List (Key × V)} (h : H a = some (.dK xs)) : tyN H (.ref a) = some "dict" := by unfold tyN; dsimp only; rw [h]
theorem lenO_tup {H : Hp} {a : Addr} {xs : List V} (h : H a = some (.tup xs)) : lenO H a = some xs.length := by unfold lenO seqO; rw [h]; rfl
theorem lenO_lst {H : Hp} {a : Addr} {xs : List V} (h : H a = some (.lst xs)) : lenO H a = some xs.length := by unfold lenO seqO; rw [h]; rfl
theorem lenO_dK {H : Hp} {a : Addr} {xs : List (Key × V)} (h : H a = some (.dK xs)) : lenO H a = some xs.length := by unfold lenO; rw [h]
theorem dat_tup {H : Hp} {a : Addr} {xs : List V} (h : H a = some (.tup xs)) (n : Nat) : dat H (n + 1) (.ref a) = (mapO (dat H n) xs).map PyData.tuple := (datE H).2.2.2.2.2 n a xs h
theorem dat_lst {H : Hp} {a : Addr} {xs : List V} (h : H a = some (.lst xs)) (n : Nat) : dat H (n + 1) (.ref a) = (mapO (dat H n) xs).map PyData.list := (datE H).2.2.2.2.1 n a xs h
theorem RDd :
    (∀ f, mapO f [] = some []) ∧ (∀ f v r, mapO f (v :: r) = match f v, mapO f r with | some d, some ds => some (d :: ds) | _, _ => none) ∧
    (∀ H n, dat H n .non = some .none) ∧ (∀ H n b, dat H n (.bl b) = some (.bool b)) ∧ (∀ H n b, dat H n (.int b) = some (.int b)) ∧ (∀ H n b, dat H n (.str b) = some (.str b)) ∧
    (∀ (α : Type) (x : α) xs, atI (x :: xs) 0 = some x) ∧ (∀ (α : Type) (x y : α) xs, atI (x :: y :: xs) 1 = some y) ∧ (∀ (α : Type) (x y z : α) xs, atI (x :: y :: z :: xs) 2 = some z) ∧ (∀ (α : Type) (x y z u : α) xs, atI (x :: y :: z :: u :: xs) 3 = some u) ∧
    (∀ H, Option.map PyData.list (some H) = some (PyData.list H)) ∧ (∀ H, Option.map PyData.tuple (some H) = some (PyData.tuple H)) := by
  have at_ : ∀ (α : Type) (xs : List α) (k : Nat) (x : α), xs[k]? = some x → atI xs (k : Int) = some x := fun α xs k x h => by
    unfold atI ixN
    obtain ⟨hk, _⟩ := List.getElem?_eq_some_iff.mp h
    rw [if_pos (by omega), if_pos (by omega), Option.bind_some, Int.toNat_natCast, h]
  refine ⟨fun _ => rfl, fun _ _ _ => rfl, fun H => (datE H).1, fun H => (datE H).2.1, fun H => (datE H).2.2.1, fun H => (datE H).2.2.2.1, fun α x xs => at_ α _ 0 x rfl, fun α x y xs => at_ α _ 1 y rfl, fun α x y z xs => at_ α _ 2 z rfl, fun α x y z u xs => at_ α _ 3 u rfl, fun _ => rfl, fun _ => rfl⟩
/-- data of at most n levels that can be compared -/
def Shp (n : Nat) (d : PyData) : Prop := d.canLay0 = true ∧ d.depth ≤ n
theorem Shp.ok {d : PyData} (h : Shp 64 d) : SeqAt.shaped d = true := by
  unfold SeqAt.shaped
  rw [h.1, Bool.true_and]
  exact decide_eq_true h.2
theorem Shp.mono {n m : Nat} {d : PyData} (h : Shp n d) (l : n ≤ m) : Shp m d := ⟨h.1, Nat.le_trans h.2 l⟩
theorem shp_all {n : Nat} : ∀ {ds : List PyData}, (∀ d ∈ ds, Shp n d) → PyData.canLayAll0 ds = true ∧ PyData.depthAll ds ≤ n
  | [], _ => ⟨by simp [PyData.canLayAll0], by simp [PyData.depthAll]⟩
  | d :: r, h => by
    have h1 := h d List.mem_cons_self
    have h2 := shp_all (ds := r) fun e he => h e (List.mem_cons_of_mem _ he)
    constructor
    · rw [PyData.canLayAll0, h1.1, h2.1]; rfl
    · rw [PyData.depthAll]; exact Nat.max_le.mpr ⟨h1.2, h2.2⟩
theorem shp_list {n : Nat} {ds : List PyData} (h : ∀ d ∈ ds, Shp n d) : Shp (n + 1) (.list ds) := by
  obtain ⟨a, b⟩ := shp_all h
  exact ⟨by rw [PyData.canLay0]; exact a, by rw [PyData.depth]; omega⟩
theorem shp_tuple {n : Nat} {ds : List PyData} (h : ∀ d ∈ ds, Shp n d) : Shp (n + 1) (.tuple ds) := by
  obtain ⟨a, b⟩ := shp_all h
  exact ⟨by rw [PyData.canLay0]; exact a, by rw [PyData.depth]; omega⟩
theorem shp_s (n : Nat) : Shp n .none ∧ (∀ b, Shp n (.bool b)) ∧ (∀ i, Shp n (.int i)) ∧ (∀ x, PyData.strOk x = true → Shp n (.str x)) :=
  ⟨⟨by simp [PyData.canLay0], by simp [PyData.depth]⟩, fun _ => ⟨by simp [PyData.canLay0], by simp [PyData.depth]⟩, fun _ => ⟨by simp [PyData.canLay0], by simp [PyData.depth]⟩, fun _ h => ⟨by simpa [PyData.canLay0] using h, by simp [PyData.depth]⟩⟩
theorem sh1 {d : PyData} (h : d.canLay0 = true) (h2 : d.depth = 0) : SeqAt.shaped (.tuple [d]) = true ∧ SeqAt.shaped (.tuple [d]) = true := ⟨Shp.ok ⟨by simp [PyData.canLay0, PyData.canLayAll0, h], by simp [PyData.depth, PyData.depthAll, h2]⟩, Shp.ok ⟨by simp [PyData.canLay0, PyData.canLayAll0, h], by simp [PyData.depth, PyData.depthAll, h2]⟩⟩
theorem eqv_self {d : PyData} (h : d.canLay0 = true) : PyData.eqv d d = true := SeqAt.eqv_refl d h
end RP

/-! ### things made for one use only: no trace in what is tracked -/
namespace RP
open PySem PySem.Spec PyProof.Rows L2
section
variable {X : Cx} {b l : Expr} {es : List Expr} {t : TA} {tb tl : TE} {pos pos1 : Pos}
/-- [e, ..][b] -/
def tPick (t : TA) (tb : TE) : TE := fun σ H Q => t σ H fun vs H1 => vs.length ≤ 1000 ∧ tb σ H1 fun y H2 => ∃ k v, y = .int k ∧ 0 ≤ k ∧ atI vs k = some v ∧ Q v H2
theorem pe_pick (he : PA X es t) (hi : PE X b tb) (hs : PlainIx b) : PE X (.Subscript (.List es pos1) b pos) (tPick t tb) := by
  constructor
  intro pins s σ H Q I h
  refine Subscript_ (wpAny_List_spliced (thn (he.run pos1 pins s σ H _ I h) ?_))
  rintro us s1 ⟨vs, H1, I1, r, z, q⟩
  have z1 : us.length ≤ 1000 := by rw [← r.length]; exact z
  refine ⟨Nat.le_trans z1 (by decide), ?_⟩
  have kp : ∀ (b : Addr) (o : Obj), s1.heap.get? b = some o → (s1.heap.push { cls := .type "list", data := .seq us.toArray }).get? b = some o := fun b o e => Heap.get?_push_of_some _ e
  have gL : (s1.heap.push { cls := .type "list", data := .seq us.toArray }).get? s1.heap.objs.size = some { cls := .type "list", data := .seq us.toArray } := Heap.get?_push_size _ rfl
  have I2 : Inv X pins σ H1 { s1 with heap := s1.heap.push { cls := .type "list", data := .seq us.toArray } } := I1.kept (t' := s1.toks) kp
  have I3 := I2.pinned (fp := [s1.heap.objs.size]) (fun b hb => by
    have e : b = s1.heap.objs.size := by simpa using hb
    rw [e]
    exact I1.fpOk (Nat.le_refl _) (I1.hok.fresh (Nat.le_refl _))) (fun b hb => by
    have e : b = s1.heap.objs.size := by simpa using hb
    rw [e]
    exact ⟨_, gL, fun v w => by cases w⟩)
  refine thn (hi.run _ _ σ H1 _ I3 q) ?_
  rintro u s2 ⟨y, H2, I4, ry, k, v, rfl, h0, ha, qv⟩
  have g2 := (I4.pin (s1.heap.objs.size, { cls := .type "list", data := .seq us.toArray }) (List.mem_append_right _ (List.mem_append_right _ (mem_pinsAt (by simp) gL)))).1
  obtain ⟨tk, rfl⟩ := ry
  obtain ⟨j, h1, h2, h3, h4, h5⟩ := atI_get ha
  obtain ⟨w, ew, rw'⟩ := r.get h2
  have hl := r.length
  have hj : k.toNat = j := by
    rw [seqIndex_of h0 h5] at h1
    exact Option.some.inj h1
  have pl : PlainL s2.heap s1.heap.objs.size us.toArray := ⟨_, _, g2, rfl, rfl, rfl⟩
  exact item_listR pl.isList h0 (by omega) (by rw [hj]; simpa using ew) ⟨v, H2, I4.unpinned, rw', qv⟩ (hs _ _)
/-- l == (e, ..), l != (e, ..) -/
def tEqT (neg : Bool) (tl : TE) (t : TA) : TE := fun σ H Q => tl σ H fun x H1 => t σ H1 fun vs H2 => vs.length ≤ 1000 ∧ ∃ d ds, dat H2 8 x = some d ∧ mapO (dat H2 7) vs = some ds ∧ SeqAt.shaped d = true ∧ SeqAt.shaped (.tuple ds) = true ∧ Q (.bl (if neg then !PyData.eqv d (.tuple ds) else PyData.eqv d (.tuple ds))) H2
theorem dat_new {H : Hp} {p : Addr} {o : HO} (hp : H p = none) : ∀ (n : Nat) (v : V) (d : PyData), dat H n v = some d → dat (upd H p o) n v = some d := by
  have key : ∀ (f f' : V → Option PyData), (∀ v d, f v = some d → f' v = some d) → ∀ (xs : List V) (ds : List PyData), mapO f xs = some ds → mapO f' xs = some ds := by
    intro f f' hf xs
    induction xs with
    | nil => intro ds h; exact h
    | cons v r ih =>
      intro ds h
      unfold mapO at h ⊢
      split at h
      · rename_i d ds' h1 h2
        cases h
        rw [hf _ _ h1, ih _ h2]
      · cases h
  intro n
  induction n with
  | zero =>
    intro v d h
    cases v <;> exact h
  | succ n ih =>
    intro v d h
    cases v with
    | ref a =>
      have e : ∀ u, H a = some u → upd H p o a = some u := fun u e => by rw [upd_ne (ne_of_none e hp)]; exact e
      unfold dat at h ⊢
      split at h
      · rename_i xs e1
        obtain ⟨ds, e2, rfl⟩ := Option.map_eq_some_iff.mp h
        rw [e _ e1]
        dsimp only
        rw [key _ _ ih _ _ e2]
        rfl
      · rename_i xs e1
        obtain ⟨ds, e2, rfl⟩ := Option.map_eq_some_iff.mp h
        rw [e _ e1]
        dsimp only
        rw [key _ _ ih _ _ e2]
        rfl
      · rename_i ob xs e1
        obtain ⟨ds, e2, rfl⟩ := Option.map_eq_some_iff.mp h
        rw [e _ e1]
        dsimp only
        rw [key _ _ ih _ _ e2]
        rfl
      · cases h
    | _ => exact h
theorem eqT_run {neg : Bool} {op : CmpOp} (hop : op = if neg then .NotEq else .Eq) (hu : X.A.units + 64 < cLine) (hl : PE X l tl) (he : PA X es t) {x1 : Nat} {pins : List (Addr × Obj)} {s : Shared} {σ : L2.St} {H : Hp} {Q : VK} (I : Inv X pins σ H s) (h : tEqT neg tl t σ H Q) :
    wpAny (model X.prog X.w) X.A (eval l X.env) (fun v s1 => wpAny (model X.prog X.w) X.A (eval (.Tuple es x1 pos1) X.env) (fun u s2 => wpAny (model X.prog X.w) X.A (compareOp op v u) (EP X pins σ Q) X.xe s2) X.xe s1) X.xe s := by
  refine thn (hl.run pins s σ H _ I h) ?_
  rintro v s1 ⟨x, H1, I1, rx, q1⟩
  refine wpAny_Tuple_spliced (thn (he.run pos1 pins s1 σ H1 _ I1 q1) ?_)
  rintro us s2 ⟨vs, H2, I2, r, z, d, ds, h1, h2, sd, se, q⟩
  have z1 : us.length ≤ sizeLine := by rw [← r.length]; exact Nat.le_trans z (by decide)
  refine ⟨z1, ?_⟩
  have hf : H2 s2.heap.objs.size = none := I2.hok.fresh (Nat.le_refl _)
  have kp : ∀ (b : Addr) (o : Obj), s2.heap.get? b = some o → (s2.heap.push { cls := .type "tuple", data := .seq us.toArray }).get? b = some o := fun b o e => Heap.get?_push_of_some _ e
  have IU : Inv X pins σ H2 { s2 with heap := s2.heap.push { cls := .type "tuple", data := .seq us.toArray } } := I2.kept (t' := s2.toks) kp
  have IT : Inv X pins σ (upd H2 s2.heap.objs.size (.tup vs)) { s2 with heap := s2.heap.push { cls := .type "tuple", data := .seq us.toArray } } :=
    I2.laid (t' := s2.toks) kp (Nat.le_refl _) ⟨Nat.le_trans z (by decide), us, r, ⟨_, Heap.get?_push_size _ rfl, rfl, _, rfl⟩⟩
  obtain ⟨as, r1⟩ := Dp.reads IT d x v (dat_ok _ _ _ (dat_new hf _ _ _ h1)) rx
  have h3 : dat (upd H2 s2.heap.objs.size (.tup vs)) 8 (.ref s2.heap.objs.size) = some (.tuple ds) := by
    rw [dat_tup upd_same]
    have key : ∀ (xs : List V) (ds : List PyData), mapO (dat H2 7) xs = some ds → mapO (dat (upd H2 s2.heap.objs.size (.tup vs)) 7) xs = some ds := by
      intro xs
      induction xs with
      | nil => intro ds h; exact h
      | cons v r ih =>
        intro ds h
        unfold mapO at h ⊢
        split at h
        · rename_i d ds' h1 h2
          cases h
          rw [dat_new hf _ _ _ h1, ih _ h2]
        · cases h
    rw [key _ _ h2]
    rfl
  obtain ⟨bs, r2⟩ := Dp.reads IT (.tuple ds) (.ref s2.heap.objs.size) (.ref s2.heap.objs.size) (dat_ok _ _ _ h3) rfl
  subst hop
  cases neg with
  | true => exact SeqAt.compareNe_shaped r1 r2 sd se hu ⟨.bl _, H2, IU, rfl, q⟩
  | false => exact SeqAt.compareEq_shaped r1 r2 sd se hu ⟨.bl _, H2, IU, rfl, q⟩
theorem pc_eqT {x1 : Nat} (hu : X.A.units + 64 < cLine) (hl : PE X l tl) (he : PA X es t) : PC X .Eq l (.Tuple es x1 pos1) (tEqT false tl t) := ⟨fun pins s σ H Q I h => eqT_run (neg := false) rfl hu hl he I h⟩
theorem pc_neT {x1 : Nat} (hu : X.A.units + 64 < cLine) (hl : PE X l tl) (he : PA X es t) : PC X .NotEq l (.Tuple es x1 pos1) (tEqT true tl t) := ⟨fun pins s σ H Q I h => eqT_run (neg := true) rfl hu hl he I h⟩
/-- l in (e, ..), l not in (e, ..): flat things -/
def tInT (neg : Bool) (tl : TE) (t : TA) : TE := fun σ H Q => tl σ H fun x H1 => t σ H1 fun vs H2 => vs.length ≤ 1000 ∧ flatV x = true ∧ vs.all flatV = true ∧ Q (.bl (if neg then !inV x vs else inV x vs)) H2
theorem inT_run {neg : Bool} {op : CmpOp} (hop : op = if neg then .NotIn else .In) (hl : PE X l tl) (he : PA X es t) {x1 : Nat} {pins : List (Addr × Obj)} {s : Shared} {σ : L2.St} {H : Hp} {Q : VK} (I : Inv X pins σ H s) (h : tInT neg tl t σ H Q) :
    wpAny (model X.prog X.w) X.A (eval l X.env) (fun v s1 => wpAny (model X.prog X.w) X.A (eval (.Tuple es x1 pos1) X.env) (fun u s2 => wpAny (model X.prog X.w) X.A (compareOp op v u) (EP X pins σ Q) X.xe s2) X.xe s1) X.xe s := by
  refine thn (hl.run pins s σ H _ I h) ?_
  rintro v s1 ⟨x, H1, I1, rx, q1⟩
  refine wpAny_Tuple_spliced (thn (he.run pos1 pins s1 σ H1 _ I1 q1) ?_)
  rintro us s2 ⟨vs, H2, I2, r, z, f1, f2, q⟩
  have z1 : us.length ≤ sizeLine := by rw [← r.length]; exact Nat.le_trans z (by decide)
  refine ⟨z1, ?_⟩
  have hf : H2 s2.heap.objs.size = none := I2.hok.fresh (Nat.le_refl _)
  have kp : ∀ (b : Addr) (o : Obj), s2.heap.get? b = some o → (s2.heap.push { cls := .type "tuple", data := .seq us.toArray }).get? b = some o := fun b o e => Heap.get?_push_of_some _ e
  have IU : Inv X pins σ H2 { s2 with heap := s2.heap.push { cls := .type "tuple", data := .seq us.toArray } } := I2.kept (t' := s2.toks) kp
  have IT : Inv X pins σ (upd H2 s2.heap.objs.size (.tup vs)) { s2 with heap := s2.heap.push { cls := .type "tuple", data := .seq us.toArray } } :=
    I2.laid (t' := s2.toks) kp (Nat.le_refl _) ⟨Nat.le_trans z (by decide), us, r, ⟨_, Heap.get?_push_size _ rfl, rfl, _, rfl⟩⟩
  obtain ⟨its, r', pl, hz⟩ := IT.tuple (SqT.of (K := X.K) (upd_same (a := s2.heap.objs.size) (o := .tup vs)))
  subst hop
  cases neg with
  | true =>
    refine SeqAt.notIn_tupleAt (eqU x) pl (fun w hw => mem_eqAt rx f1 r' f2 w (by simpa using hw)) ⟨.bl _, H2, IU, rfl, ?_⟩
    rw [show its.toArray.any (eqU x) = its.any (eqU x) by simp, any_eqU r' f2]
    exact q
  | false =>
    refine SeqAt.in_tupleAt (eqU x) pl (fun w hw => mem_eqAt rx f1 r' f2 w (by simpa using hw)) ⟨.bl _, H2, IU, rfl, ?_⟩
    rw [show its.toArray.any (eqU x) = its.any (eqU x) by simp, any_eqU r' f2]
    exact q
theorem pc_inT {x1 : Nat} (hl : PE X l tl) (he : PA X es t) : PC X .In l (.Tuple es x1 pos1) (tInT false tl t) := ⟨fun pins s σ H Q I h => inT_run (neg := false) rfl hl he I h⟩
theorem pc_notInT {x1 : Nat} (hl : PE X l tl) (he : PA X es t) : PC X .NotIn l (.Tuple es x1 pos1) (tInT true tl t) := ⟨fun pins s σ H Q I h => inT_run (neg := true) rfl hl he I h⟩
end
theorem RDp :
    (∀ (t : TA) (tb : TE) (σ : L2.St) (H : Hp) (Q : VK), tPick t tb σ H Q = t σ H fun vs H1 => vs.length ≤ 1000 ∧ tb σ H1 fun y H2 => ∃ k v, y = .int k ∧ 0 ≤ k ∧ atI vs k = some v ∧ Q v H2) ∧
    (∀ (neg : Bool) (tl : TE) (t : TA) (σ : L2.St) (H : Hp) (Q : VK), tEqT neg tl t σ H Q = tl σ H fun x H1 => t σ H1 fun vs H2 => vs.length ≤ 1000 ∧ ∃ d ds, dat H2 8 x = some d ∧ mapO (dat H2 7) vs = some ds ∧ SeqAt.shaped d = true ∧ SeqAt.shaped (.tuple ds) = true ∧ Q (.bl (if neg then !PyData.eqv d (.tuple ds) else PyData.eqv d (.tuple ds))) H2) ∧
    (∀ (neg : Bool) (tl : TE) (t : TA) (σ : L2.St) (H : Hp) (Q : VK), tInT neg tl t σ H Q = tl σ H fun x H1 => t σ H1 fun vs H2 => vs.length ≤ 1000 ∧ flatV x = true ∧ vs.all flatV = true ∧ Q (.bl (if neg then !inV x vs else inV x vs)) H2) ∧
    (∀ i j : Int, CDiv i j = (0 < j ∧ j < 1073741824)) ∧ (∀ i j : Int, CPow i j = (0 ≤ j ∧ j ≤ 1000000 ∧ i.natAbs < 2 ^ 64)) :=
  ⟨fun _ _ _ _ _ => rfl, fun _ _ _ _ _ _ => rfl, fun _ _ _ _ _ _ => rfl, fun _ _ => rfl, fun _ _ => rfl⟩
theorem seq_gen {t u : TS} {D : Ends} {σ : L2.St} {H : Hp} (h : ∀ N : L2.St → Hp → Prop, (∀ σ H, u D σ H → N σ H) → t { D with nx := N } σ H) : tSeq t u D σ H := h _ fun _ _ z => z
theorem cut_int {ns : List Int} {lo hi : Option Int} {i : Nat} {x : V} (h : (cutV (ns.map V.int) lo hi)[i]? = some x) : ∃ c, x = .int c := by
  have h1 : x ∈ cutV (ns.map V.int) lo hi := List.mem_of_getElem? h
  unfold cutV at h1
  have h2 := List.mem_of_mem_drop (List.mem_of_mem_take h1)
  obtain ⟨c, _, e⟩ := List.mem_map.mp h2
  exact ⟨c, e.symm⟩
theorem ite_merge {α : Sort _} {P R : Prop} [Decidable P] [Decidable R] {x y : α} : (if P then (if R then x else y) else y) = if P ∧ R then x else y := by
  by_cases p : P <;> by_cases r : R <;> simp [p, r]
theorem ite_or' {α : Sort _} {P R : Prop} [Decidable P] [Decidable R] {x y : α} : (if P then x else (if R then x else y)) = if P ∨ R then x else y := by
  by_cases p : P <;> by_cases r : R <;> simp [p, r]
theorem getD_all {α : Type} {p : α → Prop} {xs : List α} {d : α} (h : ∀ x ∈ xs, p x) (hd : p d) (i : Nat) : p (xs.getD i d) := by
  rw [List.getD_eq_getElem?_getD]
  cases e : xs[i]? with
  | none => exact hd
  | some x => exact h x (List.mem_of_getElem? e)
theorem md_rng {n : Int} (x : Int) (h : 0 < n) : 0 ≤ x % n ∧ x % n < n := ⟨Int.emod_nonneg _ (by omega), Int.emod_lt_of_pos _ h⟩
theorem pick2 {x y : V} {k : Int} (h0 : 0 ≤ k) (h1 : k < 2) : atI [x, y] k = some (if k = 0 then x else y) := by
  rcases (show k = 0 ∨ k = 1 by omega) with rfl | rfl
  · rfl
  · rfl
theorem pickI2 {x y k : Int} (h0 : 0 ≤ k) (h1 : k < 2) : atI [V.int x, V.int y] k = some (.int (if k = 0 then x else y)) := by
  rcases (show k = 0 ∨ k = 1 by omega) with rfl | rfl
  · rfl
  · rfl
/-- an item of a list of whole numbers -/
theorem atInt {xs : List Int} {k : Int} (h0 : 0 ≤ k) (h1 : k < (xs.length : Int)) : atI (xs.map V.int) k = some (.int (xs.getD k.toNat 0)) := by
  have e2 : k = ((k.toNat : Nat) : Int) := by omega
  have e3 : k.toNat < xs.length := by omega
  rw [e2]
  refine atI_nat ?_
  rw [List.getElem?_map, List.getElem?_eq_getElem e3, List.getD_eq_getElem?_getD, Int.toNat_natCast, List.getElem?_eq_getElem e3]
  rfl
/-- the law's own def -/
theorem fn_law {P : Program} {w : World} {K : PySem.W.Frag} {mg : Str → Option Value} {base : Heap} {x : Str} {st : Stmt} {N ps : List Str} {k : Nat} {sp : Sp} {f0 : Addr} {fd : FuncData} (F : FunD K x x (defArgs st) (defBody st) (defScope st) [] [] f0 fd) (S : FnScope N ps (defScope st)) (len : ∀ vs H Q E, sp vs H Q E → vs.length = ps.length)
    (hbody : ∀ (f : Addr) (cdv : Value) (A : Around) (outer : List Env) (s : Shared) (H : Hp) (vs : List V) (Q : VK) (E : XK), Room k (A.deeper (envOfC x (defScope st) s.heap.objs.size f cdv)) → sp vs H Q E →
      ∃ t, PSs (cxOf (L2N.CX P w) P w K mg base N x (defScope st) f cdv A outer s H E) (defBody st) t ∧ t { nx := fun _ H' => Q .non H', rt := Q } (start N vs) H) : FnOk P w K mg base (L2N.CX P w) (k + 1) f0 fd ps sp :=
  F.ok S len fun cdv A outer s H vs Q E hr h => hbody _ cdv A outer s H vs Q E hr h
/-- the end of a law, its air leaning on the world -/
theorem walk_W {l : PySem.W.OpenLaw} {n k : Nat} {q : Program} {loose : List Str} {XP : (Str → Option Value) → Heap → Prop} {YP : World → Heap → Prop} {d : DefRec} {CX : World → CXT} {x : Str}
    (hn : l.most = some n) (hn2 : n ≤ sizeLine) (hdf : d.params.defaults = []) (hr : Room k callerA)
    (F : ∀ (w : World) (mg : Str → Option Value) (fa : Addr) (h : Heap), YP w h → h.Ns mainGlobals mg → mg d.name = some (.ref fa) →
      ∃ (K : PySem.W.Frag) (fd : FuncData) (sp : Sp), K.In h ∧ (∀ (s : Shared) (u : Value), BindsTo s fd ⟨[u], []⟩ [(x, u)]) ∧
        (∀ (H : Hp) (a : Addr) (ns : List Int), ns.length ≤ n → Only H → SqL K H a (ns.map V.int) → sp [.ref a] H (fun v _ => v = .bl true) fun _ _ _ => False) ∧
        ∀ base : Heap, K.In base → base.Ns mainGlobals mg → FnOk l.prog w K mg base (CX w) k fa fd [x] sp)
    (hCX : ∀ (w : World) (H : Hp) (s : Shared) (e : Value) (s' : Shared), CX w [] H s (fun _ _ _ => False) e s' → False) :
    PySem.W.WalkO q loose XP YP l.row.toRowW d [] (fun f vs => PySem.call f vs) := by
  refine Att.attach_call hn hdf fun w s₀ s₁ mg mb fa o pm cd doc a vs ns G Y ho hd hcd hmg hobj hints hlen hg => ?_
  obtain ⟨K, fd, sp, KX, hb, hsp, hF⟩ := F w mg fa _ Y G.T.g hmg
  exact law_call KX G.T.g G.T.b G.T.builtins G.T.nolimit hg hobj hints (Nat.le_trans hlen hn2) hr hF hb (fun H hO hS => hsp H a ns hlen hO hS) fun H e s' => hCX w H s₁ e s'
/-- a whole number between two -/
def amongV (x : V) (lo hi : Int) : Bool := match x with
  | .int n => decide (lo ≤ n) && decide (n ≤ hi)
  | _ => false
/-- things that may be handed in anywhere -/
def Kn (H : Hp) (x : V) : Prop := (tyN H x).isSome = true
theorem Kn.cases {H : Hp} {x : V} (h : Kn H x) : x = .non ∨ (∃ b, x = .bl b) ∨ (∃ n, x = .int n) ∨ (∃ z, x = .str z) ∨ ∃ a t, x = .ref a ∧ tyN H (.ref a) = some t ∧ (t = "list" ∨ t = "tuple" ∨ t = "dict") := by
  unfold Kn at h
  cases x with
  | non => exact .inl rfl
  | bl b => exact .inr (.inl ⟨b, rfl⟩)
  | int n => exact .inr (.inr (.inl ⟨n, rfl⟩))
  | str z => exact .inr (.inr (.inr (.inl ⟨z, rfl⟩)))
  | byt b => cases h
  | flt b => cases h
  | ty n => cases h
  | ref a =>
    refine .inr (.inr (.inr (.inr ?_)))
    unfold tyN at h
    dsimp only at h
    split at h
    · rename_i xs e
      exact ⟨a, "list", rfl, by unfold tyN; dsimp only; rw [e], .inl rfl⟩
    · rename_i xs e
      exact ⟨a, "tuple", rfl, by unfold tyN; dsimp only; rw [e], .inr (.inl rfl)⟩
    · rename_i xs e
      exact ⟨a, "dict", rfl, by unfold tyN; dsimp only; rw [e], .inr (.inr rfl)⟩
    · cases h
end RP

/-! ### frames, comprehensions by what they give, texts -/
namespace RP
open PySem PySem.Spec PyProof.Rows L2
/-- what is outside A stays -/
def Fr (A : List Addr) (H H' : Hp) : Prop := ∀ b o, b ∉ A → H b = some o → H' b = some o
theorem Fr.refl (A : List Addr) (H : Hp) : Fr A H H := fun _ _ _ h => h
theorem Fr.trans {A : List Addr} {H H1 H2 : Hp} (a : Fr A H H1) (b : Fr A H1 H2) : Fr A H H2 := fun c o n h => b c o n (a c o n h)
theorem Fr.of {A : List Addr} {H H1 : Hp} (a : Same H H1) : Fr A H H1 := fun c o _ h => a c o h
theorem Fr.upd {A : List Addr} {H H1 : Hp} {p : Addr} {o : HO} (a : Fr A H H1) (m : p ∈ A) : Fr A H (L2.upd H1 p o) := fun c u n h => by
  rw [upd_ne (fun e => n (by rw [e]; exact m))]
  exact a c u n h
theorem Fr.new {A : List Addr} {H H1 : Hp} {p : Addr} {o : HO} (a : Fr A H H1) (m : H1 p = none) : Fr A H (L2.upd H1 p o) := a.trans (.of (same_new m))
theorem Fr.mono {A B : List Addr} {H H1 : Hp} (a : Fr A H H1) (s : ∀ x ∈ A, x ∈ B) : Fr B H H1 := fun c o n h => a c o (fun m => n (s c m)) h
theorem Same.fr {H H1 : Hp} (a : Fr [] H H1) : Same H H1 := fun c o h => a c o (by simp) h
theorem ne_of_obj {H : Hp} {a b : Addr} {o u : HO} (h : H a = some o) (h2 : H b = some u) (n : o ≠ u) : a ≠ b := fun e => by
  rw [e, h2] at h
  exact n (Option.some.inj h).symm
/-- two lists, item by item -/
inductive All2 {α β : Type} (R : α → β → Prop) : List α → List β → Prop
  | nil : All2 R [] []
  | cons {x y xs ys} : R x y → All2 R xs ys → All2 R (x :: xs) (y :: ys)
theorem All2.mono {α β : Type} {R S : α → β → Prop} (i : ∀ x y, R x y → S x y) : ∀ {xs : List α} {ys : List β}, All2 R xs ys → All2 S xs ys
  | _, _, .nil => .nil
  | _, _, .cons h t => .cons (i _ _ h) (t.mono i)
theorem All2.snoc {α β : Type} {R : α → β → Prop} {x : α} {y : β} (h : R x y) : ∀ {xs : List α} {ys : List β}, All2 R xs ys → All2 R (xs ++ [x]) (ys ++ [y])
  | _, _, .nil => .cons h .nil
  | _, _, .cons h1 t => .cons h1 (t.snoc h)
theorem All2.length {α β : Type} {R : α → β → Prop} : ∀ {xs : List α} {ys : List β}, All2 R xs ys → xs.length = ys.length
  | _, _, .nil => rfl
  | _, _, .cons _ t => by rw [List.length_cons, List.length_cons, t.length]
theorem All2.get {α β : Type} {R : α → β → Prop} : ∀ {xs : List α} {ys : List β} {i : Nat} {y : β}, All2 R xs ys → ys[i]? = some y → ∃ x, xs[i]? = some x ∧ R x y
  | _, _, 0, y, .cons h _, e => ⟨_, rfl, by cases e; exact h⟩
  | _, _, i + 1, y, .cons _ t, e => by
    obtain ⟨x, e1, r⟩ := t.get (i := i) (by simpa using e)
    exact ⟨x, by simpa using e1, r⟩
  | _, _, i, y, .nil, e => by simp at e
theorem All2.getL {α β : Type} {R : α → β → Prop} : ∀ {xs : List α} {ys : List β} {i : Nat} {x : α}, All2 R xs ys → xs[i]? = some x → ∃ y, ys[i]? = some y ∧ R x y
  | _, _, 0, y, .cons h _, e => ⟨_, rfl, by cases e; exact h⟩
  | _, _, i + 1, y, .cons _ t, e => by
    obtain ⟨x, e1, r⟩ := t.getL (i := i) (by simpa using e)
    exact ⟨x, by simpa using e1, r⟩
  | _, _, i, y, .nil, e => by simp at e
theorem All2.of_map {α β : Type} {R : α → β → Prop} {f : α → β} (h : ∀ x, R x (f x)) : ∀ (xs : List α), All2 R xs (xs.map f)
  | [] => .nil
  | x :: r => .cons (h x) (All2.of_map h r)
theorem All2.map_eq {α β : Type} {f : α → β} : ∀ {xs : List α} {ys : List β}, All2 (fun x y => y = f x) xs ys → ys = xs.map f
  | _, _, .nil => rfl
  | _, _, .cons h t => by rw [h, t.map_eq]; rfl
theorem All2.map_l {α β γ : Type} {f : γ → α} {R : α → β → Prop} : ∀ {xs : List γ} {ys : List β}, All2 R (xs.map f) ys → All2 (fun x y => R (f x) y) xs ys
  | [], _, .nil => .nil
  | _ :: _, _, .cons h t => .cons h t.map_l
theorem All2.mapO_eq {f : V → Option PyData} {g : α → PyData} : ∀ {xs : List α} {ys : List V}, All2 (fun x y => f y = some (g x)) xs ys → mapO f ys = some (xs.map g)
  | _, _, .nil => rfl
  | _, _, .cons h t => by
    unfold mapO
    rw [h, t.mapO_eq]
    rfl
/-- what stays told, whatever becomes of the new list -/
def Keeps (R : Hp → α → V → Prop) : Prop := ∀ H H' D xs x y, H D = some (.lst xs) → Fr [D] H H' → R H x y → R H' x y
theorem keeps_pure {R : α → V → Prop} : Keeps (fun _ => R) := fun _ _ _ _ _ _ _ _ r => r
theorem keeps_tup {f : α → List V} : Keeps (fun H x y => ∃ q, y = .ref q ∧ H q = some (.tup (f x))) := fun H H' D xs x y hD fr ⟨q, e, h⟩ =>
  ⟨q, e, fr q _ (fun m => by
    have e2 : q = D := by simpa using m
    rw [e2, hD] at h
    cases h) h⟩
section
variable {K : PySem.W.Frag} {tl te : TE} {ta : TA} {g : TG} {tb : TS} {D : Ends} {σ : L2.St} {H : Hp} {vs : List Nat} {Q : VK}
/-- [e for x in a list] -/
theorem lcut {tl : TE} (G : Addr → Hp → Prop) (R : Hp → V → V → Prop) (xs : List V) (hk : Keeps R) (h1 : ∀ Z : VK, (∀ a H1, G a H1 → Z (.ref a) H1) → tl σ H Z) (h0 : ∀ a H1, G a H1 → SqL K H1 a xs) (hlen : xs.length ≤ sizeLine)
    (hs : ∀ a H1 H2 (i : Nat) x (Z : VK), G a H1 → xs[i]? = some x → Same H1 H2 → (∀ y H3, Same H2 H3 → R H3 x y → Z y H3) → g x (wipe σ vs) H2 fun σ2 H3' => wipe σ2 vs = wipe σ vs ∧ te σ2 H3' Z)
    (hd : ∀ a H1 H3 D rs, G a H1 → H1 D = none → Same H1 H3 → H3 D = some (.lst rs) → All2 (R H3) xs rs → Q (.ref D) H3) : tLc (iList K tl) g tYes te vs σ H Q := by
  refine h1 _ fun a H1 hG => ⟨a, rfl, ⟨xs, h0 a H1 hG⟩, fun D nD => ?_⟩
  refine lc_list (xs := xs) (fun i H' => Same H1 H' ∧ ∃ rs, H' D = some (.lst rs) ∧ All2 (R H') (xs.take i) rs) ⟨same_new nD, [], upd_same, by rw [List.take_zero]; exact .nil⟩ (fun i H' _ h => h.1.seq (h0 a H1 hG)) ?_ ?_
  · rintro i x H' hx ⟨s1, rs, hD, ar⟩
    obtain ⟨hi, hx2⟩ := List.getElem?_eq_some_iff.mp hx
    simp only [tYes, if_true]
    refine hs a H1 H' i x _ hG hx s1 fun y H3 s3 r3 => ?_
    have hl : rs.length < sizeLine := by
      rw [← ar.length, List.length_take]
      omega
    refine ⟨rs, s3 _ _ hD, hl, fun c o ec => ?_, rs ++ [y], upd_same, ?_⟩
    · rw [upd_ne (ne_of_none ec nD)]
      exact s3 _ _ (s1 _ _ ec)
    · have f3 : Fr [D] H3 (upd H3 D (.lst (rs ++ [y]))) := (Fr.refl _ _).upd (by simp)
      have e : xs.take (i + 1) = xs.take i ++ [x] := by rw [List.take_succ, hx]; rfl
      rw [e]
      exact (ar.mono fun u v r => hk _ _ D _ u v (s3 _ _ hD) f3 (hk _ _ D _ u v hD (.of s3) r)).snoc (hk _ _ D _ x y (s3 _ _ hD) f3 r3)
  · rintro H' ⟨s1, rs, hD, ar⟩
    rw [List.take_length] at ar
    exact hd a H1 H' D rs hG nD s1 hD ar
/-- [e for x in range(n)] -/
theorem rcut {wi : TI} (lo : Int) (n : Nat) (G : Hp → Prop) (R : Hp → Nat → V → Prop) (hk : Keeps R) (h1 : ∀ Z : It → Hp → Prop, (∀ H1, G H1 → Z (Itr lo n) H1) → wi σ H Z) (hlen : n ≤ sizeLine)
    (hs : ∀ H1 H2 i (Z : VK), G H1 → i < n → Same H1 H2 → (∀ y H3, Same H2 H3 → R H3 i y → Z y H3) → g (.int (lo + i)) (wipe σ vs) H2 fun σ2 H3' => wipe σ2 vs = wipe σ vs ∧ te σ2 H3' Z)
    (hd : ∀ H1 H3 D rs, G H1 → H1 D = none → Same H1 H3 → H3 D = some (.lst rs) → All2 (R H3) (List.range n) rs → Q (.ref D) H3) : tLc wi g tYes te vs σ H Q := by
  refine h1 _ fun H1 hG => fun D nD => ?_
  refine lc_range (fun i H' => Same H1 H' ∧ ∃ rs, H' D = some (.lst rs) ∧ All2 (R H') (List.range i) rs) ⟨same_new nD, [], upd_same, .nil⟩ ?_ ?_
  · rintro i H' hi ⟨s1, rs, hD, ar⟩
    simp only [tYes, if_true]
    refine hs H1 H' i _ hG hi s1 fun y H3 s3 r3 => ?_
    have hl : rs.length < sizeLine := by
      rw [← ar.length, List.length_range]
      omega
    refine ⟨rs, s3 _ _ hD, hl, fun c o ec => ?_, rs ++ [y], upd_same, ?_⟩
    · rw [upd_ne (ne_of_none ec nD)]
      exact s3 _ _ (s1 _ _ ec)
    · have f3 : Fr [D] H3 (upd H3 D (.lst (rs ++ [y]))) := (Fr.refl _ _).upd (by simp)
      rw [List.range_succ]
      exact (ar.mono fun u v r => hk _ _ D _ u v (s3 _ _ hD) f3 (hk _ _ D _ u v hD (.of s3) r)).snoc (hk _ _ D _ i y (s3 _ _ hD) f3 r3)
  · rintro H' ⟨s1, rs, hD, ar⟩
    exact hd H1 H' D rs hG nD s1 hD ar
/-- [e for i, x in enumerate(a list)] -/
theorem ecut {ta : TA} (G : Addr → Hp → Prop) (R : Hp → Nat × V → V → Prop) (xs : List V) (hk : Keeps R) (h1 : ∀ Z : List V → Hp → Prop, (∀ a H1, G a H1 → Z [.ref a] H1) → ta σ H Z) (h0 : ∀ a H1, G a H1 → SqL K H1 a xs) (hlen : xs.length ≤ sizeLine)
    (hs : ∀ a H1 H2 (i : Nat) x T (Z : VK), G a H1 → xs[i]? = some x → Same H1 H2 → H2 T = some (.tup [.int (i : Nat), x]) → (∀ y H3, Same H2 H3 → R H3 (i, x) y → Z y H3) → g (.ref T) (wipe σ vs) H2 fun σ2 H3' => wipe σ2 vs = wipe σ vs ∧ te σ2 H3' Z)
    (hd : ∀ a H1 H3 D rs, G a H1 → H1 D = none → Same H1 H3 → H3 D = some (.lst rs) → All2 (R H3) ((List.range xs.length).zip xs) rs → Q (.ref D) H3) : tLc (iEnum K ta) g tYes te vs σ H Q := by
  refine h1 _ fun a H1 hG => ⟨a, xs, rfl, h0 a H1 hG, fun D nD => ?_⟩
  refine ⟨fun i m H' => m = xs.length - i ∧ i ≤ xs.length ∧ Same H1 H' ∧ ∃ rs, H' D = some (.lst rs) ∧ All2 (R H') ((List.range i).zip (xs.take i)) rs, ⟨xs.length, by simp, Nat.zero_le _, same_new nD, [], upd_same, .nil⟩, ?_⟩
  rintro i m H' ⟨rfl, hi, s1, rs, hD, ar⟩
  have q := s1.seq (h0 a H1 hG)
  by_cases hlt : i < xs.length
  · refine .inr ⟨⟨xs, xs[i], q, by simp [hlt]⟩, fun H' => i + 1 ≤ xs.length ∧ Same H1 H' ∧ ∃ rs, H' D = some (.lst rs) ∧ All2 (R H') ((List.range (i + 1)).zip (xs.take (i + 1))) rs, fun H' p' => ⟨xs.length - (i + 1), by omega, rfl, hlt, p'.2⟩, fun v H'' y => ?_⟩
    obtain ⟨T, x, rfl, nT, rfl, hx⟩ := y
    have hx := hx xs q
    have sT : Same H' (upd H' T (.tup [.int (i : Nat), x])) := same_new nT
    simp only [tYes, if_true]
    refine hs a H1 _ i x T _ hG hx (s1.trans sT) upd_same fun y H3 s3 r3 => ?_
    have hl : rs.length < sizeLine := by
      rw [← ar.length, List.length_zip, List.length_take, List.length_range]
      omega
    have s4 := sT.trans s3
    refine ⟨rs, s4 _ _ hD, hl, hlt, fun c o ec => ?_, rs ++ [y], upd_same, ?_⟩
    · rw [upd_ne (ne_of_none ec nD)]
      exact s4 _ _ (s1 _ _ ec)
    · have f3 : Fr [D] H3 (upd H3 D (.lst (rs ++ [y]))) := (Fr.refl _ _).upd (by simp)
      have e : xs.take (i + 1) = xs.take i ++ [x] := by rw [List.take_succ, hx]; rfl
      rw [e, List.range_succ, List.zip_append (by rw [List.length_range, List.length_take]; omega)]
      exact (ar.mono fun u v r => hk _ _ D _ u v (s4 _ _ hD) f3 (hk _ _ D _ u v hD (.of s4) r)).snoc (hk _ _ D _ (i, x) y (s4 _ _ hD) f3 r3)
  · have e : i = xs.length := by omega
    subst e
    rw [List.take_length] at ar
    exact .inl ⟨⟨xs, q, Nat.le_refl _⟩, hd a H1 H' D rs hG nD s1 hD ar⟩
/-- [e for x in range(n) if ..] -/
theorem rcutF {tt : TT} {wi : TI} (lo : Int) (n : Nat) (c : Nat → Bool) (G : Hp → Prop) (R : Hp → Nat → V → Prop) (hk : Keeps R) (h1 : ∀ Z : It → Hp → Prop, (∀ H1, G H1 → Z (Itr lo n) H1) → wi σ H Z) (hlen : n ≤ sizeLine)
    (hs : ∀ H1 H2 i (Z : VK) (W : Hp → Prop), G H1 → i < n → Same H1 H2 → (c i = true → ∀ y H3, Same H2 H3 → R H3 i y → Z y H3) → (c i = false → ∀ H3, Same H2 H3 → W H3) → g (.int (lo + i)) (wipe σ vs) H2 fun σ2 H3' => wipe σ2 vs = wipe σ vs ∧ tt σ2 H3' fun b H3 => if b = true then te σ2 H3 Z else W H3)
    (hd : ∀ H1 H3 D rs, G H1 → H1 D = none → Same H1 H3 → H3 D = some (.lst rs) → All2 (R H3) ((List.range n).filter c) rs → Q (.ref D) H3) : tLc wi g tt te vs σ H Q := by
  refine h1 _ fun H1 hG => fun D nD => ?_
  refine lc_range (fun i H' => i ≤ n ∧ Same H1 H' ∧ ∃ rs, H' D = some (.lst rs) ∧ All2 (R H') ((List.range i).filter c) rs) ⟨Nat.zero_le _, same_new nD, [], upd_same, .nil⟩ ?_ ?_
  · rintro i H' hi ⟨_, s1, rs, hD, ar⟩
    refine hs H1 H' i _ _ hG hi s1 (fun hc y H3 s3 r3 => ?_) (fun hc H3 s3 => ?_)
    · have hl : rs.length < sizeLine := by
        rw [← ar.length]
        exact Nat.lt_of_le_of_lt (List.length_filter_le _ _) (by rw [List.length_range]; omega)
      refine ⟨rs, s3 _ _ hD, hl, hi, fun c o ec => ?_, rs ++ [y], upd_same, ?_⟩
      · rw [upd_ne (ne_of_none ec nD)]
        exact s3 _ _ (s1 _ _ ec)
      · have f3 : Fr [D] H3 (upd H3 D (.lst (rs ++ [y]))) := (Fr.refl _ _).upd (by simp)
        rw [List.range_succ, List.filter_append, List.filter_cons, if_pos hc]
        exact (ar.mono fun u v r => hk _ _ D _ u v (s3 _ _ hD) f3 (hk _ _ D _ u v hD (.of s3) r)).snoc (hk _ _ D _ i y (s3 _ _ hD) f3 r3)
    · refine ⟨hi, s1.trans s3, rs, s3 _ _ hD, ?_⟩
      rw [List.range_succ, List.filter_append, List.filter_cons, if_neg (by rw [hc]; exact Bool.false_ne_true), List.filter_nil, List.append_nil]
      exact ar.mono fun u v r => hk _ _ D _ u v hD (.of s3) r
  · rintro H' ⟨_, s1, rs, hD, ar⟩
    exact hd H1 H' D rs hG nD s1 hD ar
/-- [e for x in a list if ..], none of which is taken -/
theorem lcut0 {tt : TT} {tl : TE} (G : Addr → Hp → Prop) (xs : List V) (h1 : ∀ Z : VK, (∀ a H1, G a H1 → Z (.ref a) H1) → tl σ H Z) (h0 : ∀ a H1, G a H1 → SqL K H1 a xs)
    (hs : ∀ a H1 H2 (i : Nat) x (Z : VK) (W : Hp → Prop), G a H1 → xs[i]? = some x → Same H1 H2 → (∀ H3, Same H2 H3 → W H3) → g x (wipe σ vs) H2 fun σ2 H3' => wipe σ2 vs = wipe σ vs ∧ tt σ2 H3' fun b H3 => if b = true then te σ2 H3 Z else W H3)
    (hd : ∀ a H1 H3 D, G a H1 → H1 D = none → Same H1 H3 → H3 D = some (.lst []) → Q (.ref D) H3) : tLc (iList K tl) g tt te vs σ H Q := by
  refine h1 _ fun a H1 hG => ⟨a, rfl, ⟨xs, h0 a H1 hG⟩, fun D nD => ?_⟩
  refine lc_list (xs := xs) (fun i H' => Same H1 H' ∧ H' D = some (.lst [])) ⟨same_new nD, upd_same⟩ (fun i H' _ h => h.1.seq (h0 a H1 hG)) ?_ ?_
  · rintro i x H' hx ⟨s1, hD⟩
    exact hs a H1 H' i x _ _ hG hx s1 fun H3 s3 => ⟨s1.trans s3, s3 _ _ hD⟩
  · rintro H' ⟨s1, hD⟩
    exact hd a H1 H' D hG nD s1 hD
/-- for x in range(..) -/
theorem for_rcut {wi : TI} (lo : Int) (n : Nat) (G : Hp → Prop) (h1 : ∀ Z : It → Hp → Prop, (∀ H1, G H1 → Z (Itr lo n) H1) → wi σ H Z) (Pv : Nat → L2.St → Hp → Prop) (h0 : ∀ H1, G H1 → Pv 0 σ H1)
    (hs : ∀ i σ H, i < n → Pv i σ H → g (.int (lo + i)) σ H fun σ2 H2 => tb { D with nx := Pv (i + 1), ct := Pv (i + 1), bk := D.nx } σ2 H2) (hd : ∀ σ H, Pv n σ H → D.nx σ H) : tFor wi g tb D σ H :=
  h1 _ fun H1 q => for_range Pv (h0 H1 q) hs hd
end
/-! #### sorted of a dict with int keys -/
def srt (ks : List Int) : List Int := ks.mergeSort fun a b => decide (a ≤ b)
theorem srt_perm (ks : List Int) : (srt ks).Perm ks := List.mergeSort_perm ..
theorem srt_mem {ks : List Int} {k : Int} : k ∈ srt ks ↔ k ∈ ks := (srt_perm ks).mem_iff
theorem srt_length (ks : List Int) : (srt ks).length = ks.length := (srt_perm ks).length_eq
theorem call_sortedC {X : Cx} (hcalm : X.calm = true) : CallR X (.builtin "sorted") (fun xs H Q => ∃ (a : Addr) (kvs : List (Key × V)) (ks : List Int), xs = [.ref a] ∧ H a = some (.dK kvs) ∧ kvs.map (·.1) = ks.map Sum.inl ∧ ks.length < 64 ∧
    ∀ p : Addr, H p = none → Q (.ref p) (upd H p (.lst ((srt ks).map V.int)))) :=
  call_imp (call_sortedDI hcalm) fun xs H Q ⟨a, kvs, ks, e, h, hk, l, q⟩ => ⟨a, kvs, ks, e, Rd.of h, hk, l, fun ys p pm so n => by
    have e : ys = srt ks := by
      refine List.Perm.eq_of_pairwise (le := fun a b => a ≤ b) (fun a b _ _ h1 h2 => Int.le_antisymm h1 h2) so ?_ (pm.trans (srt_perm ks).symm)
      have z := List.pairwise_mergeSort (le := fun a b : Int => decide (a ≤ b)) (fun a b c h1 h2 => by simp only [decide_eq_true_eq] at *; omega) (fun a b => by simp only [Bool.or_eq_true, decide_eq_true_eq]; omega) ks
      exact z.imp fun h => of_decide_eq_true h
    rw [e]
    exact q p n⟩
/-! #### texts -/
def TxtOk (n : Nat) (x : Str) : Prop := PyData.strOk x = true ∧ x.length ≤ n
theorem TxtOk.mono {n m : Nat} {x : Str} (h : TxtOk n x) (l : n ≤ m) : TxtOk m x := ⟨h.1, Nat.le_trans h.2 l⟩
theorem strOk_iff {x : Str} : PyData.strOk x = true ↔ ∀ c ∈ x.cps.toList, c < 0x110000 := by
  unfold PyData.strOk
  rw [Array.all_eq_true_iff_forall_mem]
  simp only [decide_eq_true_eq]
  exact ⟨fun h c m => h c (by simpa using m), fun h c m => h c (by simpa using m)⟩
theorem append_cps (x y : Str) : (x ++ y).cps.toList = x.cps.toList ++ y.cps.toList := by
  show (x.cps ++ y.cps).toList = _
  simp
theorem length_append (x y : Str) : (x ++ y).length = x.length + y.length := by
  show (x.cps ++ y.cps).size = _
  rw [Array.size_append]; rfl
theorem TxtOk.app {n m : Nat} {x y : Str} (h : TxtOk n x) (h2 : TxtOk m y) : TxtOk (n + m) (x ++ y) := by
  refine ⟨strOk_iff.mpr fun c hc => ?_, by rw [length_append]; exact Nat.add_le_add h.2 h2.2⟩
  rw [append_cps] at hc
  rcases List.mem_append.mp hc with z | z
  · exact strOk_iff.mp h.1 c z
  · exact strOk_iff.mp h2.1 c z
/-- an attribute, within a block: the reading names no block -/
theorem pe_fldK {X : Cx} {K : PySem.W.Frag} {e : Expr} {ta : TE} {f : Str} {pos : Pos} (hK : X.K = K) (he : PE X e ta) (hb : attributeBase e f X.env (eval e X.env) = eval e X.env) : PE X (.Attribute e f pos) (tFld K ta f) := by
  subst hK
  exact pe_fld he hb
/-- a, b = a tuple -/
def gTupC (n : Nat) (t : TGs) : TG := fun v σ H Q => ∃ a, v = .ref a ∧ ∃ xs, H a = some (.tup xs) ∧ xs.length = n ∧ t xs σ H Q
theorem pg_tupC {X : Cx} {pos : Pos} {es : List Expr} {k : Nat} {t : TGs} {n : Nat} (hc : X.calm = true) (h : PGs X es t)
    (hn : (assignEach es X.env).length = n := by rfl) (hst : (assignEach es X.env).findIdx? (·.1) = none := by rfl) : PG X (.Tuple es k pos) (gTupC n t) :=
  ⟨fun pins s σ H v u Q I r ⟨a, e, xs, ha, hl, q⟩ => (pg_tup hc h hn hst).run pins s σ H v u Q I r ⟨a, xs, e, SqT.of ha, hl, q⟩⟩
/-- b if c else d, as a test -/
def tIfT (c a b : TT) : TT := fun σ H Q => c σ H fun d H1 => if d = true then a σ H1 Q else b σ H1 Q
theorem pt_ifExp {X : Cx} {pos : Pos} {c a b : Expr} {tc ta tb : TT} (hc : PT X c tc) (ha : PT X a ta) (hb : PT X b tb) : PT X (.IfExp c a b pos) (tIfT tc ta tb) := by
  refine ⟨fun pins s σ H Q I h => ?_⟩
  refine PyProof.Rows.isTrue_IfExp (thn (hc.run pins s σ H _ I h) fun d s1 ⟨H1, I1, q1⟩ => ?_)
  cases d with
  | true => exact ha.run pins s1 σ H1 Q I1 q1
  | false => exact hb.run pins s1 σ H1 Q I1 q1
/-- one statement, by where it gets to -/
theorem seq_rel {t u : TS} {D : Ends} {σ : L2.St} {H : Hp} (R : L2.St → Hp → Prop) (h1 : ∀ N : L2.St → Hp → Prop, (∀ σ1 H1, R σ1 H1 → N σ1 H1) → t { D with nx := N } σ H) (h2 : ∀ σ1 H1, R σ1 H1 → u D σ1 H1) : tSeq t u D σ H := h1 _ h2
theorem seq_to {t u : TS} {D : Ends} {σ : L2.St} {H : Hp} (σ1 : L2.St) (H1 : Hp) (h1 : ∀ N : L2.St → Hp → Prop, N σ1 H1 → t { D with nx := N } σ H) (h2 : u D σ1 H1) : tSeq t u D σ H := h1 _ h2
theorem call_listC {X : Cx} : CallR X (.type "list") (fun xs H Q => ∃ p ys, xs = [.ref p] ∧ seqO H p = some ys ∧ ∀ l, H l = none → Q (.ref l) (upd H l (.lst ys))) :=
  call_imp call_list_of fun vs H Q ⟨p, ys, e, h, q⟩ => ⟨p, ys, e, seqO_ok h, q⟩
theorem call_tupleC {X : Cx} : CallR X (.type "tuple") (fun xs H Q => ∃ p ys, xs = [.ref p] ∧ H p = some (.lst ys) ∧ ∀ l, H l = none → Q (.ref l) (upd H l (.tup ys))) :=
  call_imp call_tuple_of fun vs H Q ⟨p, ys, e, h, q⟩ => ⟨p, ys, e, .inl ⟨SqL.of h, q⟩⟩
theorem call_dictC {X : Cx} : CallR X (.type "dict") (fun xs H Q => ∃ p kvs, xs = [.ref p] ∧ H p = some (.dK kvs) ∧ ∀ l : Addr, H l = none → Q (.ref l) (upd H l (.dK kvs))) :=
  call_imp call_dictD fun vs H Q ⟨p, ys, e, h, q⟩ => ⟨p, ys, e, Rd.of h, q⟩
/-- texts: one sign -/
theorem ix_strC {X : Cx} : IxR X (fun x y H Q => ∃ z i, x = .str z ∧ y = .int i ∧ z.length ≤ sizeLine ∧ ∃ c, atI z.cps.toList i = some c ∧ Q (.str ⟨#[c]⟩) H) := ix_imp ix_str fun x y H Q ⟨z, i, e1, e2, l, c, h, q⟩ => ⟨z, i, c, e1, e2, l, h, q⟩
theorem RDq :
    (∀ (σ : L2.St) (H : Hp) (Q : VK), tDNewK σ H Q = ∀ p, H p = none → Q (.ref p) (upd H p (.dK []))) ∧
    (∀ (trs : List (TE × TE)) (σ : L2.St) (H : Hp) (Q : VK), tDisp trs σ H Q = ∀ p, H p = none → tPairs trs σ (upd H p (.dK [])) fun ps H2 => H2 p = some (.dK []) ∧ ∃ kvs : List (Key × V), ps = kvs.map (fun kv => (kV kv.1, kv.2)) ∧ kvs.length ≤ 15 ∧ Q (.ref p) (upd H2 p (.dK (mergeK [] kvs)))) ∧
    (∀ (σ : L2.St) (H : Hp) (Q : List (V × V) → Hp → Prop), tPairs [] σ H Q = Q [] H) ∧
    (∀ (tk tv : TE) (r : List (TE × TE)) (σ : L2.St) (H : Hp) (Q : List (V × V) → Hp → Prop), tPairs ((tk, tv) :: r) σ H Q = tk σ H fun x H1 => tv σ H1 fun y H2 => tPairs r σ H2 fun ps H3 => Q ((x, y) :: ps) H3) ∧
    (∀ (x y : V) (H : Hp) (Q : VK), rCat x y H Q = ∃ l b xs zs, x = .ref l ∧ y = .ref b ∧ H l = some (.lst xs) ∧ H b = some (.lst zs) ∧ xs.length + zs.length ≤ sizeLine ∧ ∀ p, H p = none → Q (.ref p) (upd H p (.lst (xs ++ zs)))) ∧
    (∀ (x y : V) (H : Hp) (Q : VK), rRep x y H Q = ∃ l k xs, x = .ref l ∧ y = .int k ∧ H l = some (.lst xs) ∧ -(2 ^ 63) ≤ k ∧ k < 2 ^ 63 ∧ xs.length * k.toNat ≤ sizeLine ∧ ∀ p, H p = none → Q (.ref p) (upd H p (.lst (List.replicate k.toNat xs).flatten))) ∧
    (∀ (K : PySem.W.Frag) (vs : List V) (H : Hp) (Q : VK), rAll K vs H Q = ∃ (a : Addr) (bs : List Bool), vs = [V.ref a] ∧ SqL K H a (bs.map V.bl) ∧ Q (.bl (bs.all id)) H) ∧
    (∀ (te : L2.St → Hp → (Int → Int → Hp → Prop) → Prop) (σ : L2.St) (H : Hp) (Q : VK), tLstRg te σ H Q = te σ H fun a b H1 => RgOk a b ∧ ∀ q, H1 q = none → Q (.ref q) (upd H1 q (.lst (rgV a b)))) ∧
    (∀ (ta : TE) (σ : L2.St) (H : Hp) (Q : Int → Int → Hp → Prop), tRg1 ta σ H Q = ta σ H fun x H1 => ∃ n, x = .int n ∧ Q 0 n H1) ∧
    (∀ (ta tb : TE) (σ : L2.St) (H : Hp) (Q : Int → Int → Hp → Prop), tRg2 ta tb σ H Q = ta σ H fun x H1 => tb σ H1 fun y H2 => ∃ i j, x = .int i ∧ y = .int j ∧ Q i j H2) ∧
    (∀ (r : V → List V → Hp → VK → Prop) (to te : TE) (σ : L2.St) (H : Hp) (Q : VK), tM1 r to te σ H Q = to σ H fun x H1 => (∃ a, x = .str a) ∧ te σ H1 fun y H2 => r x [y] H2 Q) ∧
    (∀ (x : V) (lo hi : Option Int) (H : Hp) (Q : VK), rSlS x lo hi H Q = ∃ z, x = .str z ∧ z.length ≤ sizeLine ∧ Q (.str (cutS z lo hi)) H) ∧
    (∀ (K : PySem.W.Frag) (x : V) (lo hi : Option Int) (H : Hp) (Q : VK), rSlL K x lo hi H Q = ∃ a xs, x = .ref a ∧ SqL K H a xs ∧ ∀ p, H p = none → Q (.ref p) (upd H p (.lst (cutV xs lo hi)))) ∧
    (∀ (α : Type) (f : α → V), ([] : List α).map f = []) ∧
    (∀ (ta : TA) (σ : L2.St) (H : Hp) (R : It → Hp → Prop), iRng1 ta σ H R = ta σ H fun vs H1 => ∃ j : Int, vs = [.int j] ∧ -(2 ^ 62) ≤ j ∧ j < 2 ^ 62 ∧ R (Itr 0 j.toNat) H1) ∧
    (∀ (ta : TA) (σ : L2.St) (H : Hp) (R : It → Hp → Prop), iRng2 ta σ H R = ta σ H fun vs H1 => ∃ i j : Int, vs = [.int i, .int j] ∧ (-(2 ^ 62) ≤ i ∧ i < 2 ^ 62 ∧ -(2 ^ 62) ≤ j ∧ j < 2 ^ 62) ∧ R (Itr i (j - i).toNat) H1) ∧
    (∀ (n : Nat) (t : TGs) (v : V) (σ : L2.St) (H : Hp) (Q : L2.St → Hp → Prop), gTupC n t v σ H Q = ∃ a, v = .ref a ∧ ∃ xs, H a = some (.tup xs) ∧ xs.length = n ∧ t xs σ H Q) ∧
    (∀ (c a b : TT) (σ : L2.St) (H : Hp) (Q : Bool → Hp → Prop), tIfT c a b σ H Q = c σ H fun d H1 => if d = true then a σ H1 Q else b σ H1 Q) ∧
    (∀ (K : PySem.W.Frag) (neg : Bool) (x y : V) (H : Hp) (Q : VK), rIn K neg x y H Q = ∃ p xs, y = .ref p ∧ (SqL K H p xs ∨ SqT K H p xs) ∧ flatV x = true ∧ xs.all flatV = true ∧ Q (.bl (if neg then !inV x xs else inV x xs)) H) ∧
    (∀ (σ : L2.St), wipe σ [] = σ) ∧ (∀ (σ : L2.St) (v : Nat) (vs : List Nat), wipe σ (v :: vs) = (wipe σ vs).set v none) :=
  ⟨fun _ _ _ => rfl, fun _ _ _ _ => rfl, fun _ _ _ => rfl, fun _ _ _ _ _ _ => rfl, fun _ _ _ _ => rfl, fun _ _ _ _ => rfl, fun _ _ _ _ => rfl, fun _ _ _ _ => rfl, fun _ _ _ _ => rfl, fun _ _ _ _ _ => rfl, fun _ _ _ _ _ _ => rfl, fun _ _ _ _ _ => rfl, fun _ _ _ _ _ _ => rfl, fun _ _ => rfl, fun _ _ _ _ => rfl, fun _ _ _ _ => rfl, fun _ _ _ _ _ _ => rfl, fun _ _ _ _ _ _ => rfl, fun _ _ _ _ _ _ => rfl, fun _ => rfl, fun _ _ _ => rfl⟩
/-! #### data under frames -/
theorem mapO_same {f f' : V → Option PyData} (hf : ∀ v d, f v = some d → f' v = some d) : ∀ (xs : List V) (ds : List PyData), mapO f xs = some ds → mapO f' xs = some ds
  | [], ds, h => h
  | v :: r, ds, h => by
    unfold mapO at h ⊢
    split at h
    · rename_i d ds' h1 h2
      cases h
      rw [hf _ _ h1, mapO_same hf r _ h2]
    · cases h
theorem dat_same {H H' : Hp} (s : Same H H') : ∀ (n : Nat) (v : V) (d : PyData), dat H n v = some d → dat H' n v = some d := by
  intro n
  induction n with
  | zero =>
    intro v d h
    cases v <;> exact h
  | succ n ih =>
    intro v d h
    cases v with
    | ref a =>
      unfold dat at h ⊢
      split at h
      · rename_i xs e1
        obtain ⟨ds, e2, rfl⟩ := Option.map_eq_some_iff.mp h
        rw [s _ _ e1]
        dsimp only
        rw [mapO_same ih _ _ e2]
        rfl
      · rename_i xs e1
        obtain ⟨ds, e2, rfl⟩ := Option.map_eq_some_iff.mp h
        rw [s _ _ e1]
        dsimp only
        rw [mapO_same ih _ _ e2]
        rfl
      · rename_i ob xs e1
        obtain ⟨ds, e2, rfl⟩ := Option.map_eq_some_iff.mp h
        rw [s _ _ e1]
        dsimp only
        rw [mapO_same ih _ _ e2]
        rfl
      · cases h
    | _ => exact h
/-- the heap but for A -/
def hm (A : List Addr) (H : Hp) : Hp := fun c => if c ∈ A then none else H c
theorem hm_in {A : List Addr} {H : Hp} {c : Addr} (h : c ∉ A) : hm A H c = H c := if_neg h
theorem hm_same {A : List Addr} {H : Hp} : Same (hm A H) H := fun c o h => by
  unfold hm at h
  split at h
  · cases h
  · exact h
theorem hm_fr {A : List Addr} {H H' : Hp} (f : Fr A H H') : Same (hm A H) (hm A H') := fun c o h => by
  unfold hm at h ⊢
  split at h
  · cases h
  · rename_i n
    rw [if_neg n]
    exact f c o n h
/-- the data of a list of texts -/
theorem dat_strs (H : Hp) (n : Nat) : ∀ (g : List Str), mapO (dat H n) (g.map V.str) = some (g.map PyData.str)
  | [] => rfl
  | x :: r => by
    have e : dat H n (.str x) = some (.str x) := (datE H).2.2.2.1 n x
    rw [List.map_cons]
    unfold mapO
    rw [e, dat_strs H n r]
    rfl
theorem dat_ints (H : Hp) (n : Nat) : ∀ (g : List Int), mapO (dat H n) (g.map V.int) = some (g.map PyData.int)
  | [] => rfl
  | x :: r => by
    have e : dat H n (.int x) = some (.int x) := (datE H).2.2.1 n x
    rw [List.map_cons]
    unfold mapO
    rw [e, dat_ints H n r]
    rfl
theorem mapO_append {f : V → Option PyData} : ∀ {xs ys : List V} {ds es : List PyData}, mapO f xs = some ds → mapO f ys = some es → mapO f (xs ++ ys) = some (ds ++ es)
  | [], ys, ds, es, h1, h2 => by cases h1; exact h2
  | x :: r, ys, ds, es, h1, h2 => by
    unfold mapO at h1
    split at h1
    · rename_i d ds' e1 e2
      cases h1
      rw [List.cons_append, List.cons_append]
      conv => lhs; unfold mapO
      rw [e1, mapO_append e2 h2]
    · cases h1
theorem shp_str {n m : Nat} {x : Str} (h : TxtOk n x) : Shp m (.str x) := (shp_s m).2.2.2 x h.1
theorem Shp.lay {n : Nat} {d : PyData} (h : Shp n d) : d.canLay0 = true := h.1
def mx2 (a b : Int) : Int := if b > a then b else a
end RP

namespace RP
open PySem PySem.Spec PyProof.Rows L2
def top (i : Nat) : Stmt := PySem.Challenge.pw_ringpost_k06_steps_by_plain_numbers.main.body.getD i (.Pass ⟨0, 0, 0, 0⟩)
/-- what the top says of an own error class -/
structure ErrC (K : PySem.W.Frag) (mg : Str → Option Value) (n : Str) : Prop where
  g : mg n = some (.ref (He.ga K n))
  ex : PySem.W.excIn K (He.ga K n) He.veBase "ValueError.__new__" = true
  k : PySem.W.keepIn K (.ref (He.ga K n)) = true
  s : PySem.W.subIn K (.ref (He.ga K n)) (.type "BaseException") = some true
  t : PySem.W.typeIn K (.ref (He.ga K n)) = some (.type "type")
end RP

namespace RP
open PySem PySem.Spec PyProof.Rows L2
abbrev s_is_among : Stmt := top 15
abbrev N_is_among : List Str := ["thing", "least", "most"]
theorem sc_is_among : FnScope N_is_among ["thing", "least", "most"] (defScope s_is_among) := ⟨rfl, rfl, rfl, by decide +kernel, rfl, by decide +kernel, by decide +kernel⟩
def sp_is_among (K : PySem.W.Frag) : Sp := fun vs H Q _ => ∃ x lo hi, vs = [x, .int lo, .int hi] ∧ Kn H x ∧ Q (.bl (amongV x lo hi)) H
theorem ok_is_among {P : Program} {w : World} {K : PySem.W.Frag} {mg : Str → Option Value} {base : Heap} (F : FnP K ("is_among", none) "is_among" "is_among" s_is_among) (hm : mg "is_among" = some (.ref (He.ga K "is_among"))) (bl : Blt mg) : Cal P w K mg base 1 "is_among" (sp_is_among K) := by
  refine fn_cal F hm sc_is_among (fun vs H Q E => by walk_at "len") (fun _ _ _ _ _ _ us hl => match us, hl with | [_, _, _], _ => rfl) (fun f cdv A outer s H vs Q E hr h => ?_)
  have hu := hu_of hr
  obtain ⟨x, lo, hi, rfl, hk, q⟩ := h
  refine ⟨_, (pss_one (ps_ret (pe_and (pe_callB call_isC (by rfl) (bl.isi) (by decide +kernel) (pa_cons (pv 0) (pa_cons (pe_bltn (v := .ty "int") (u := .type "int") rfl (bl.int) (by decide +kernel) rfl) pa_nil))) (pe_and (pe_not (pe_callB call_isC (by rfl) (bl.isi) (by decide +kernel) (pa_cons (pv 0) (pa_cons (pe_bltn (v := .ty "bool") (u := .type "bool") rfl (bl.bool) (by decide +kernel) rfl) pa_nil)))) (pe_one (pe_chain op_le op_le (pv 1) (pv 0) (pv 2))))))), ?_⟩
  walk_at "st0"
  simp only [RDa, RDb, RDv, RDk, RDx, RDe, RDd, RDp, RDq, List.getElem?_cons_zero, List.getElem?_cons_succ, List.set_cons_zero, List.set_cons_succ, List.cons.injEq, List.cons_ne_nil, reduceCtorEq, exists_eq_left', exists_eq_left, exists_and_left, and_assoc, exists_const, true_and, and_true, if_true, if_false, false_and, and_false, exists_false, false_or, or_false, true_implies, false_implies, implies_true, forall_eq, forall_eq', Bool.false_eq_true, if_neg, decide_eq_true_eq, Bool.not_eq_true', decide_eq_false_iff_not, Bool.not_true, Bool.not_false, List.length_cons, List.length_nil, sizeLine_eq, Nat.reduceAdd, Nat.reduceLeDiff, Nat.reduceLT, Int.reduceLT, Int.reduceLE, Int.emod_nonneg, ne_eq, Int.reduceEq, not_false_eq_true, not_true_eq_false]
  rcases hk.cases with rfl | ⟨b, rfl⟩ | ⟨n, rfl⟩ | ⟨z, rfl⟩ | ⟨a, t, rfl, ht, rfl | rfl | rfl⟩
  · simp only [RDa, RDb, RDv, RDk, RDx, RDe, RDd, RDp, RDq, List.getElem?_cons_zero, List.getElem?_cons_succ, List.set_cons_zero, List.set_cons_succ, List.cons.injEq, List.cons_ne_nil, reduceCtorEq, exists_eq_left', exists_eq_left, exists_and_left, and_assoc, exists_const, true_and, and_true, if_true, if_false, false_and, and_false, exists_false, false_or, or_false, true_implies, false_implies, implies_true, forall_eq, forall_eq', Bool.false_eq_true, if_neg, decide_eq_true_eq, Bool.not_eq_true', decide_eq_false_iff_not, Bool.not_true, Bool.not_false, List.length_cons, List.length_nil, sizeLine_eq, Nat.reduceAdd, Nat.reduceLeDiff, Nat.reduceLT, Int.reduceLT, Int.reduceLE, Int.emod_nonneg, ne_eq, Int.reduceEq, not_false_eq_true, not_true_eq_false]
    exact q
  · simp only [RDa, RDb, RDv, RDk, RDx, RDe, RDd, RDp, RDq, List.getElem?_cons_zero, List.getElem?_cons_succ, List.set_cons_zero, List.set_cons_succ, List.cons.injEq, List.cons_ne_nil, reduceCtorEq, exists_eq_left', exists_eq_left, exists_and_left, and_assoc, exists_const, true_and, and_true, if_true, if_false, false_and, and_false, exists_false, false_or, or_false, true_implies, false_implies, implies_true, forall_eq, forall_eq', Bool.false_eq_true, if_neg, decide_eq_true_eq, Bool.not_eq_true', decide_eq_false_iff_not, Bool.not_true, Bool.not_false, List.length_cons, List.length_nil, sizeLine_eq, Nat.reduceAdd, Nat.reduceLeDiff, Nat.reduceLT, Int.reduceLT, Int.reduceLE, Int.emod_nonneg, ne_eq, Int.reduceEq, not_false_eq_true, not_true_eq_false]
    exact q
  · simp only [RDa, RDb, RDv, RDk, RDx, RDe, RDd, RDp, RDq, List.getElem?_cons_zero, List.getElem?_cons_succ, List.set_cons_zero, List.set_cons_succ, List.cons.injEq, List.cons_ne_nil, reduceCtorEq, exists_eq_left', exists_eq_left, exists_and_left, and_assoc, exists_const, true_and, and_true, if_true, if_false, false_and, and_false, exists_false, false_or, or_false, true_implies, false_implies, implies_true, forall_eq, forall_eq', Bool.false_eq_true, if_neg, decide_eq_true_eq, Bool.not_eq_true', decide_eq_false_iff_not, Bool.not_true, Bool.not_false, List.length_cons, List.length_nil, sizeLine_eq, Nat.reduceAdd, Nat.reduceLeDiff, Nat.reduceLT, Int.reduceLT, Int.reduceLE, Int.emod_nonneg, ne_eq, Int.reduceEq, not_false_eq_true, not_true_eq_false]
    unfold amongV at q
    by_cases h1 : lo ≤ n
    · rw [if_pos h1]
      simpa [h1] using q
    · rw [if_neg h1]
      simpa [h1] using q
  · simp only [RDa, RDb, RDv, RDk, RDx, RDe, RDd, RDp, RDq, List.getElem?_cons_zero, List.getElem?_cons_succ, List.set_cons_zero, List.set_cons_succ, List.cons.injEq, List.cons_ne_nil, reduceCtorEq, exists_eq_left', exists_eq_left, exists_and_left, and_assoc, exists_const, true_and, and_true, if_true, if_false, false_and, and_false, exists_false, false_or, or_false, true_implies, false_implies, implies_true, forall_eq, forall_eq', Bool.false_eq_true, if_neg, decide_eq_true_eq, Bool.not_eq_true', decide_eq_false_iff_not, Bool.not_true, Bool.not_false, List.length_cons, List.length_nil, sizeLine_eq, Nat.reduceAdd, Nat.reduceLeDiff, Nat.reduceLT, Int.reduceLT, Int.reduceLE, Int.emod_nonneg, ne_eq, Int.reduceEq, not_false_eq_true, not_true_eq_false]
    exact q
  · simp only [RDa, RDb, RDv, RDk, RDx, RDe, RDd, RDp, RDq, List.getElem?_cons_zero, List.getElem?_cons_succ, List.set_cons_zero, List.set_cons_succ, List.cons.injEq, List.cons_ne_nil, reduceCtorEq, exists_eq_left', exists_eq_left, exists_and_left, and_assoc, exists_const, true_and, and_true, if_true, if_false, false_and, and_false, exists_false, false_or, or_false, true_implies, false_implies, implies_true, forall_eq, forall_eq', Bool.false_eq_true, if_neg, decide_eq_true_eq, Bool.not_eq_true', decide_eq_false_iff_not, Bool.not_true, Bool.not_false, List.length_cons, List.length_nil, sizeLine_eq, Nat.reduceAdd, Nat.reduceLeDiff, Nat.reduceLT, Int.reduceLT, Int.reduceLE, Int.emod_nonneg, ne_eq, Int.reduceEq, not_false_eq_true, not_true_eq_false, ht]
    exact q
  · simp only [RDa, RDb, RDv, RDk, RDx, RDe, RDd, RDp, RDq, List.getElem?_cons_zero, List.getElem?_cons_succ, List.set_cons_zero, List.set_cons_succ, List.cons.injEq, List.cons_ne_nil, reduceCtorEq, exists_eq_left', exists_eq_left, exists_and_left, and_assoc, exists_const, true_and, and_true, if_true, if_false, false_and, and_false, exists_false, false_or, or_false, true_implies, false_implies, implies_true, forall_eq, forall_eq', Bool.false_eq_true, if_neg, decide_eq_true_eq, Bool.not_eq_true', decide_eq_false_iff_not, Bool.not_true, Bool.not_false, List.length_cons, List.length_nil, sizeLine_eq, Nat.reduceAdd, Nat.reduceLeDiff, Nat.reduceLT, Int.reduceLT, Int.reduceLE, Int.emod_nonneg, ne_eq, Int.reduceEq, not_false_eq_true, not_true_eq_false, ht]
    exact q
  · simp only [RDa, RDb, RDv, RDk, RDx, RDe, RDd, RDp, RDq, List.getElem?_cons_zero, List.getElem?_cons_succ, List.set_cons_zero, List.set_cons_succ, List.cons.injEq, List.cons_ne_nil, reduceCtorEq, exists_eq_left', exists_eq_left, exists_and_left, and_assoc, exists_const, true_and, and_true, if_true, if_false, false_and, and_false, exists_false, false_or, or_false, true_implies, false_implies, implies_true, forall_eq, forall_eq', Bool.false_eq_true, if_neg, decide_eq_true_eq, Bool.not_eq_true', decide_eq_false_iff_not, Bool.not_true, Bool.not_false, List.length_cons, List.length_nil, sizeLine_eq, Nat.reduceAdd, Nat.reduceLeDiff, Nat.reduceLT, Int.reduceLT, Int.reduceLE, Int.emod_nonneg, ne_eq, Int.reduceEq, not_false_eq_true, not_true_eq_false, ht]
    exact q
end RP

namespace RP
open PySem PySem.Spec PyProof.Rows L2
/-- a thing that may be handed in, with its items -/
def KnI (H : Hp) (x : V) : Prop := Kn H x ∧ ∀ a xs, x = .ref a → seqO H a = some xs → ∀ y ∈ xs, Kn H y
theorem Kn.same {H H' : Hp} {x : V} (h : Kn H x) (s : Same H H') : Kn H' x := by
  rcases h.cases with rfl | ⟨b, rfl⟩ | ⟨n, rfl⟩ | ⟨z, rfl⟩ | ⟨a, t, rfl, ht, _⟩
  · rfl
  · rfl
  · rfl
  · rfl
  · unfold tyN at ht
    dsimp only at ht
    unfold Kn tyN
    dsimp only
    split at ht
    · rename_i e; rw [s _ _ e]; rfl
    · rename_i e; rw [s _ _ e]; rfl
    · rename_i e; rw [s _ _ e]; rfl
    · cases ht
theorem amongV_int {x : V} {lo hi : Int} (h : amongV x lo hi = true) : ∃ n, x = .int n ∧ lo ≤ n ∧ n ≤ hi := by
  cases x <;> simp only [amongV, Bool.false_eq_true, reduceCtorEq, Bool.and_eq_true, decide_eq_true_eq] at h
  exact ⟨_, rfl, h.1, h.2⟩
end RP

namespace RP
open PySem PySem.Spec PyProof.Rows L2
def intV : V → Int
  | .int n => n
  | _ => 0
/-- bounds, by the things themselves -/
def bnd4 : List V → Bool
  | [a0, a1, a2, a3] => amongV a0 1 20 && amongV a1 1 (intV a0) && amongV a2 0 20 && amongV a3 0 20
  | _ => false
def boundsV (H : Hp) (x : V) : Bool := match x with
  | .ref a => match H a with
    | some (.tup xs) => bnd4 xs
    | _ => false
  | _ => false
theorem bnd4_len {xs : List V} (h : xs.length ≠ 4) : bnd4 xs = false := by
  match xs with
  | [] => rfl
  | [_] => rfl
  | [_, _] => rfl
  | [_, _, _] => rfl
  | [_, _, _, _] => exact absurd rfl h
  | _ :: _ :: _ :: _ :: _ :: _ => rfl
abbrev s_is_bounds : Stmt := top 16
abbrev N_is_bounds : List Str := ["thing"]
theorem sc_is_bounds : FnScope N_is_bounds ["thing"] (defScope s_is_bounds) := ⟨rfl, rfl, rfl, by decide +kernel, rfl, by decide +kernel, by decide +kernel⟩
def sp_is_bounds (K : PySem.W.Frag) : Sp := fun vs H Q _ => ∃ x, vs = [x] ∧ KnI H x ∧ Q (.bl (boundsV H x)) H
theorem ok_is_bounds {P : Program} {w : World} {K : PySem.W.Frag} {mg : Str → Option Value} {base : Heap} (F : FnP K ("is_bounds", none) "is_bounds" "is_bounds" s_is_bounds) (hm : mg "is_bounds" = some (.ref (He.ga K "is_bounds"))) (bl : Blt mg) (c_is_among : Cal P w K mg base 1 "is_among" (sp_is_among K)) (G_MOST_DELAY : ∃ t, mg "MOST_DELAY" = some (.int 20 t)) (G_MOST_WINDOW : ∃ t, mg "MOST_WINDOW" = some (.int 20 t)) : Cal P w K mg base 2 "is_bounds" (sp_is_bounds K) := by
  refine fn_cal F hm sc_is_bounds (fun vs H Q E => by walk_at "len") (fun _ _ _ _ _ _ us hl => match us, hl with | [_], _ => rfl) (fun f cdv A outer s H vs Q E hr h => ?_)
  have hu := hu_of hr
  obtain ⟨t_MOST_DELAY, g_MOST_DELAY⟩ := G_MOST_DELAY
  obtain ⟨t_MOST_WINDOW, g_MOST_WINDOW⟩ := G_MOST_WINDOW
  obtain ⟨x, rfl, hk, q⟩ := h
  refine ⟨_, (pss_cons (ps_if (PW.pt (pw_or (pt_not (pt_val (pe_callB call_isC (by rfl) (bl.isi) (by decide +kernel) (pa_cons (pv 0) (pa_cons (pe_bltn (v := .ty "tuple") (u := .type "tuple") rfl (bl.tuple) (by decide +kernel) rfl) pa_nil))))) (pw_or1 (pt_cmpR op_ne (pe_callB call_lenC (by rfl) (bl.len) (by decide +kernel) (pa_cons (pv 0) pa_nil)) pe_int (nomark _)))))
  (pss_one (ps_ret pe_bl))
  pss_nil)
  (pss_cons (ps_if (PW.pt (pw_or (pt_not (pt_val (pe_fn c_is_among (hr.mono (by decide)) (L2N.takes_of rfl rfl rfl rfl) (pa_cons (pe_ix ix_C (pv 0) pe_int (fun _ _ => rfl)) (pa_cons pe_int (pa_cons (pe_glob (v := .int 20) rfl g_MOST_WINDOW ⟨_, rfl⟩) pa_nil)))))) (pw_or1 (pt_not (pt_val (pe_fn c_is_among (hr.mono (by decide)) (L2N.takes_of rfl rfl rfl rfl) (pa_cons (pe_ix ix_C (pv 0) pe_int (fun _ _ => rfl)) (pa_cons pe_int (pa_cons (pe_ix ix_C (pv 0) pe_int (fun _ _ => rfl)) pa_nil)))))))))
  (pss_one (ps_ret pe_bl))
  pss_nil)
  (pss_one (ps_ret (pe_and (pe_fn c_is_among (hr.mono (by decide)) (L2N.takes_of rfl rfl rfl rfl) (pa_cons (pe_ix ix_C (pv 0) pe_int (fun _ _ => rfl)) (pa_cons pe_int (pa_cons (pe_glob (v := .int 20) rfl g_MOST_DELAY ⟨_, rfl⟩) pa_nil)))) (pe_one (pe_fn c_is_among (hr.mono (by decide)) (L2N.takes_of rfl rfl rfl rfl) (pa_cons (pe_ix ix_C (pv 0) pe_int (fun _ _ => rfl)) (pa_cons pe_int (pa_cons (pe_glob (v := .int 20) rfl g_MOST_DELAY ⟨_, rfl⟩) pa_nil)))))))))), ?_⟩
  walk_at "st0"
  simp only [RDa, RDb, RDv, RDk, RDx, RDe, RDd, RDp, RDq, List.getElem?_cons_zero, List.getElem?_cons_succ, List.set_cons_zero, List.set_cons_succ, List.cons.injEq, List.cons_ne_nil, reduceCtorEq, exists_eq_left', exists_eq_left, exists_and_left, and_assoc, exists_const, true_and, and_true, if_true, if_false, false_and, and_false, exists_false, false_or, or_false, true_implies, false_implies, implies_true, forall_eq, forall_eq', Bool.false_eq_true, if_neg, decide_eq_true_eq, Bool.not_eq_true', decide_eq_false_iff_not, Bool.not_true, Bool.not_false, List.length_cons, List.length_nil, sizeLine_eq, Nat.reduceAdd, Nat.reduceLeDiff, Nat.reduceLT, Int.reduceLT, Int.reduceLE, Int.emod_nonneg, ne_eq, Int.reduceEq, not_false_eq_true, not_true_eq_false]
  have nb : (∀ a xs, x = .ref a → H a ≠ some (.tup xs)) → boundsV H x = false := fun hn => by
    unfold boundsV
    cases x with
    | ref a =>
      dsimp only
      split
      · rename_i xs e; exact absurd e (hn a xs rfl)
      · rfl
    | _ => rfl
  rcases hk.1.cases with rfl | ⟨b, rfl⟩ | ⟨n, rfl⟩ | ⟨z, rfl⟩ | ⟨a, t, rfl, ht, rfl | rfl | rfl⟩
  · simp only [RDa, RDb, RDv, RDk, RDx, RDe, RDd, RDp, RDq, List.getElem?_cons_zero, List.getElem?_cons_succ, List.set_cons_zero, List.set_cons_succ, List.cons.injEq, List.cons_ne_nil, reduceCtorEq, exists_eq_left', exists_eq_left, exists_and_left, and_assoc, exists_const, true_and, and_true, if_true, if_false, false_and, and_false, exists_false, false_or, or_false, true_implies, false_implies, implies_true, forall_eq, forall_eq', Bool.false_eq_true, if_neg, decide_eq_true_eq, Bool.not_eq_true', decide_eq_false_iff_not, Bool.not_true, Bool.not_false, List.length_cons, List.length_nil, sizeLine_eq, Nat.reduceAdd, Nat.reduceLeDiff, Nat.reduceLT, Int.reduceLT, Int.reduceLE, Int.emod_nonneg, ne_eq, Int.reduceEq, not_false_eq_true, not_true_eq_false]
    exact q
  · simp only [RDa, RDb, RDv, RDk, RDx, RDe, RDd, RDp, RDq, List.getElem?_cons_zero, List.getElem?_cons_succ, List.set_cons_zero, List.set_cons_succ, List.cons.injEq, List.cons_ne_nil, reduceCtorEq, exists_eq_left', exists_eq_left, exists_and_left, and_assoc, exists_const, true_and, and_true, if_true, if_false, false_and, and_false, exists_false, false_or, or_false, true_implies, false_implies, implies_true, forall_eq, forall_eq', Bool.false_eq_true, if_neg, decide_eq_true_eq, Bool.not_eq_true', decide_eq_false_iff_not, Bool.not_true, Bool.not_false, List.length_cons, List.length_nil, sizeLine_eq, Nat.reduceAdd, Nat.reduceLeDiff, Nat.reduceLT, Int.reduceLT, Int.reduceLE, Int.emod_nonneg, ne_eq, Int.reduceEq, not_false_eq_true, not_true_eq_false]
    exact q
  · simp only [RDa, RDb, RDv, RDk, RDx, RDe, RDd, RDp, RDq, List.getElem?_cons_zero, List.getElem?_cons_succ, List.set_cons_zero, List.set_cons_succ, List.cons.injEq, List.cons_ne_nil, reduceCtorEq, exists_eq_left', exists_eq_left, exists_and_left, and_assoc, exists_const, true_and, and_true, if_true, if_false, false_and, and_false, exists_false, false_or, or_false, true_implies, false_implies, implies_true, forall_eq, forall_eq', Bool.false_eq_true, if_neg, decide_eq_true_eq, Bool.not_eq_true', decide_eq_false_iff_not, Bool.not_true, Bool.not_false, List.length_cons, List.length_nil, sizeLine_eq, Nat.reduceAdd, Nat.reduceLeDiff, Nat.reduceLT, Int.reduceLT, Int.reduceLE, Int.emod_nonneg, ne_eq, Int.reduceEq, not_false_eq_true, not_true_eq_false]
    exact q
  · simp only [RDa, RDb, RDv, RDk, RDx, RDe, RDd, RDp, RDq, List.getElem?_cons_zero, List.getElem?_cons_succ, List.set_cons_zero, List.set_cons_succ, List.cons.injEq, List.cons_ne_nil, reduceCtorEq, exists_eq_left', exists_eq_left, exists_and_left, and_assoc, exists_const, true_and, and_true, if_true, if_false, false_and, and_false, exists_false, false_or, or_false, true_implies, false_implies, implies_true, forall_eq, forall_eq', Bool.false_eq_true, if_neg, decide_eq_true_eq, Bool.not_eq_true', decide_eq_false_iff_not, Bool.not_true, Bool.not_false, List.length_cons, List.length_nil, sizeLine_eq, Nat.reduceAdd, Nat.reduceLeDiff, Nat.reduceLT, Int.reduceLT, Int.reduceLE, Int.emod_nonneg, ne_eq, Int.reduceEq, not_false_eq_true, not_true_eq_false]
    exact q
  · rw [nb (fun a' xs e h2 => by cases e; rw [tyN_tup h2] at ht; exact absurd ht (by decide))] at q
    simp only [RDa, RDb, RDv, RDk, RDx, RDe, RDd, RDp, RDq, List.getElem?_cons_zero, List.getElem?_cons_succ, List.set_cons_zero, List.set_cons_succ, List.cons.injEq, List.cons_ne_nil, reduceCtorEq, exists_eq_left', exists_eq_left, exists_and_left, and_assoc, exists_const, true_and, and_true, if_true, if_false, false_and, and_false, exists_false, false_or, or_false, true_implies, false_implies, implies_true, forall_eq, forall_eq', Bool.false_eq_true, if_neg, decide_eq_true_eq, Bool.not_eq_true', decide_eq_false_iff_not, Bool.not_true, Bool.not_false, List.length_cons, List.length_nil, sizeLine_eq, Nat.reduceAdd, Nat.reduceLeDiff, Nat.reduceLT, Int.reduceLT, Int.reduceLE, Int.emod_nonneg, ne_eq, Int.reduceEq, not_false_eq_true, not_true_eq_false, ht]
    exact q
  · obtain ⟨xs, hxs⟩ : ∃ xs, H a = some (.tup xs) := by
      unfold tyN at ht
      dsimp only at ht
      split at ht
      · exact absurd ht (by decide)
      · exact ⟨_, by assumption⟩
      · exact absurd ht (by decide)
      · cases ht
    have eb : boundsV H (.ref a) = bnd4 xs := by unfold boundsV; dsimp only; rw [hxs]
    rw [eb] at q
    have hy := hk.2 a xs rfl (seqO_tup hxs)
    simp only [RDa, RDb, RDv, RDk, RDx, RDe, RDd, RDp, RDq, List.getElem?_cons_zero, List.getElem?_cons_succ, List.set_cons_zero, List.set_cons_succ, List.cons.injEq, List.cons_ne_nil, reduceCtorEq, exists_eq_left', exists_eq_left, exists_and_left, and_assoc, exists_const, true_and, and_true, if_true, if_false, false_and, and_false, exists_false, false_or, or_false, true_implies, false_implies, implies_true, forall_eq, forall_eq', Bool.false_eq_true, if_neg, decide_eq_true_eq, Bool.not_eq_true', decide_eq_false_iff_not, Bool.not_true, Bool.not_false, List.length_cons, List.length_nil, sizeLine_eq, Nat.reduceAdd, Nat.reduceLeDiff, Nat.reduceLT, Int.reduceLT, Int.reduceLE, Int.emod_nonneg, ne_eq, Int.reduceEq, not_false_eq_true, not_true_eq_false, ht, lenO_tup hxs, seqO_tup hxs]
    by_cases l4 : xs.length = 4
    · rw [if_neg (by omega)]
      match xs, l4, hxs, hy, q with
      | [a0, a1, a2, a3], _, hxs, hy, q =>
        have k0 := hy a0 (by simp)
        have k1 := hy a1 (by simp)
        have k2 := hy a2 (by simp)
        have k3 := hy a3 (by simp)
        have eb4 : bnd4 [a0, a1, a2, a3] = (amongV a0 1 20 && amongV a1 1 (intV a0) && amongV a2 0 20 && amongV a3 0 20) := rfl
        rw [eb4] at q
        simp only [RDa, RDb, RDv, RDk, RDx, RDe, RDd, RDp, RDq, List.getElem?_cons_zero, List.getElem?_cons_succ, List.set_cons_zero, List.set_cons_succ, List.cons.injEq, List.cons_ne_nil, reduceCtorEq, exists_eq_left', exists_eq_left, exists_and_left, and_assoc, exists_const, true_and, and_true, if_true, if_false, false_and, and_false, exists_false, false_or, or_false, true_implies, false_implies, implies_true, forall_eq, forall_eq', Bool.false_eq_true, if_neg, decide_eq_true_eq, Bool.not_eq_true', decide_eq_false_iff_not, Bool.not_true, Bool.not_false, List.length_cons, List.length_nil, sizeLine_eq, Nat.reduceAdd, Nat.reduceLeDiff, Nat.reduceLT, Int.reduceLT, Int.reduceLE, Int.emod_nonneg, ne_eq, Int.reduceEq, not_false_eq_true, not_true_eq_false, sp_is_among, k0, k1, k2, k3, seqO_tup hxs]
        cases h0 : amongV a0 1 20 with
        | false =>
          rw [h0] at q
          rw [if_pos rfl]
          exact q
        | true =>
          obtain ⟨w0, rfl, _, _⟩ := amongV_int h0
          rw [h0] at q
          rw [if_neg (by decide)]
          refine ⟨w0, rfl, ?_⟩
          have ei : intV (.int w0) = w0 := rfl
          rw [ei] at q
          cases h1 : amongV a1 1 w0 with
          | false =>
            rw [h1] at q
            rw [if_pos rfl]
            exact q
          | true =>
            rw [h1] at q
            rw [if_neg (by decide)]
            cases h2 : amongV a2 0 20 with
            | false =>
              rw [h2] at q
              rw [if_neg (by decide)]
              exact q
            | true =>
              rw [h2] at q
              rw [if_pos rfl]
              exact q
    · rw [if_pos (by omega)]
      rw [bnd4_len l4] at q
      exact q
  · rw [nb (fun a' xs e h2 => by cases e; rw [tyN_tup h2] at ht; exact absurd ht (by decide))] at q
    simp only [RDa, RDb, RDv, RDk, RDx, RDe, RDd, RDp, RDq, List.getElem?_cons_zero, List.getElem?_cons_succ, List.set_cons_zero, List.set_cons_succ, List.cons.injEq, List.cons_ne_nil, reduceCtorEq, exists_eq_left', exists_eq_left, exists_and_left, and_assoc, exists_const, true_and, and_true, if_true, if_false, false_and, and_false, exists_false, false_or, or_false, true_implies, false_implies, implies_true, forall_eq, forall_eq', Bool.false_eq_true, if_neg, decide_eq_true_eq, Bool.not_eq_true', decide_eq_false_iff_not, Bool.not_true, Bool.not_false, List.length_cons, List.length_nil, sizeLine_eq, Nat.reduceAdd, Nat.reduceLeDiff, Nat.reduceLT, Int.reduceLT, Int.reduceLE, Int.emod_nonneg, ne_eq, Int.reduceEq, not_false_eq_true, not_true_eq_false, ht]
    exact q
abbrev s_need_bounds : Stmt := top 18
abbrev N_need_bounds : List Str := ["thing"]
theorem sc_need_bounds : FnScope N_need_bounds ["thing"] (defScope s_need_bounds) := ⟨rfl, rfl, rfl, by decide +kernel, rfl, by decide +kernel, by decide +kernel⟩
def sp_need_bounds (K : PySem.W.Frag) : Sp := fun vs H Q E => ∃ x, vs = [x] ∧ KnI H x ∧ (boundsV H x = true → Q .non H) ∧ (boundsV H x = false → E (.ref (He.ga K "BadBounds")) none H)
theorem ok_need_bounds {P : Program} {w : World} {K : PySem.W.Frag} {mg : Str → Option Value} {base : Heap} (F : FnP K ("need_bounds", none) "need_bounds" "need_bounds" s_need_bounds) (hm : mg "need_bounds" = some (.ref (He.ga K "need_bounds"))) (bl : Blt mg) (c_is_bounds : Cal P w K mg base 2 "is_bounds" (sp_is_bounds K)) (e_BadBounds : ErrC K mg "BadBounds") : Cal P w K mg base 3 "need_bounds" (sp_need_bounds K) := by
  refine fn_cal F hm sc_need_bounds (fun vs H Q E => by walk_at "len") (fun _ _ _ _ _ _ us hl => match us, hl with | [_], _ => rfl) (fun f cdv A outer s H vs Q E hr h => ?_)
  have hu := hu_of hr
  obtain ⟨x, rfl, hk, q1, q2⟩ := h
  refine ⟨_, (pss_one (ps_if (pt_not (pt_val (pe_fn c_is_bounds (hr.mono (by decide)) (L2N.takes_of rfl rfl rfl rfl) (pa_cons (pv 0) pa_nil))))
  (pss_one (L2N.ps_raise rfl (L2N.takes_of rfl rfl rfl rfl) (L2N.pmk_own PySem.F.excBase_ValueError e_BadBounds.ex e_BadBounds.g e_BadBounds.k (raises_own e_BadBounds.s e_BadBounds.t) rfl)))
  pss_nil)), ?_⟩
  walk_at "st0"
  simp only [RDa, RDb, RDv, RDk, RDx, RDe, RDd, RDp, RDq, List.getElem?_cons_zero, List.getElem?_cons_succ, List.set_cons_zero, List.set_cons_succ, List.cons.injEq, List.cons_ne_nil, reduceCtorEq, exists_eq_left', exists_eq_left, exists_and_left, and_assoc, exists_const, true_and, and_true, if_true, if_false, false_and, and_false, exists_false, false_or, or_false, true_implies, false_implies, implies_true, forall_eq, forall_eq', Bool.false_eq_true, if_neg, decide_eq_true_eq, Bool.not_eq_true', decide_eq_false_iff_not, Bool.not_true, Bool.not_false, List.length_cons, List.length_nil, sizeLine_eq, Nat.reduceAdd, Nat.reduceLeDiff, Nat.reduceLT, Int.reduceLT, Int.reduceLE, Int.emod_nonneg, ne_eq, Int.reduceEq, not_false_eq_true, not_true_eq_false, sp_is_bounds, hk]
  cases hb : boundsV H x with
  | false => rw [if_pos rfl]; exact q2 hb
  | true => rw [if_neg (by decide)]; exact q1 hb
abbrev s_need_ring : Stmt := top 19
abbrev N_need_ring : List Str := ["thing"]
theorem sc_need_ring : FnScope N_need_ring ["thing"] (defScope s_need_ring) := ⟨rfl, rfl, rfl, by decide +kernel, rfl, by decide +kernel, by decide +kernel⟩
def sp_need_ring (K : PySem.W.Frag) : Sp := fun vs H Q E => ∃ x, vs = [x] ∧ Kn H x ∧ (amongV x 1 200 = true → Q .non H) ∧ (amongV x 1 200 = false → E (.ref (He.ga K "BadRing")) none H)
theorem ok_need_ring {P : Program} {w : World} {K : PySem.W.Frag} {mg : Str → Option Value} {base : Heap} (F : FnP K ("need_ring", none) "need_ring" "need_ring" s_need_ring) (hm : mg "need_ring" = some (.ref (He.ga K "need_ring"))) (bl : Blt mg) (c_is_among : Cal P w K mg base 1 "is_among" (sp_is_among K)) (e_BadRing : ErrC K mg "BadRing") (G_MOST_RING : ∃ t, mg "MOST_RING" = some (.int 200 t)) : Cal P w K mg base 2 "need_ring" (sp_need_ring K) := by
  refine fn_cal F hm sc_need_ring (fun vs H Q E => by walk_at "len") (fun _ _ _ _ _ _ us hl => match us, hl with | [_], _ => rfl) (fun f cdv A outer s H vs Q E hr h => ?_)
  have hu := hu_of hr
  obtain ⟨t_MOST_RING, g_MOST_RING⟩ := G_MOST_RING
  obtain ⟨x, rfl, hk, q1, q2⟩ := h
  refine ⟨_, (pss_one (ps_if (pt_not (pt_val (pe_fn c_is_among (hr.mono (by decide)) (L2N.takes_of rfl rfl rfl rfl) (pa_cons (pv 0) (pa_cons pe_int (pa_cons (pe_glob (v := .int 200) rfl g_MOST_RING ⟨_, rfl⟩) pa_nil))))))
  (pss_one (L2N.ps_raise rfl (L2N.takes_of rfl rfl rfl rfl) (L2N.pmk_own PySem.F.excBase_ValueError e_BadRing.ex e_BadRing.g e_BadRing.k (raises_own e_BadRing.s e_BadRing.t) rfl)))
  pss_nil)), ?_⟩
  walk_at "st0"
  simp only [RDa, RDb, RDv, RDk, RDx, RDe, RDd, RDp, RDq, List.getElem?_cons_zero, List.getElem?_cons_succ, List.set_cons_zero, List.set_cons_succ, List.cons.injEq, List.cons_ne_nil, reduceCtorEq, exists_eq_left', exists_eq_left, exists_and_left, and_assoc, exists_const, true_and, and_true, if_true, if_false, false_and, and_false, exists_false, false_or, or_false, true_implies, false_implies, implies_true, forall_eq, forall_eq', Bool.false_eq_true, if_neg, decide_eq_true_eq, Bool.not_eq_true', decide_eq_false_iff_not, Bool.not_true, Bool.not_false, List.length_cons, List.length_nil, sizeLine_eq, Nat.reduceAdd, Nat.reduceLeDiff, Nat.reduceLT, Int.reduceLT, Int.reduceLE, Int.emod_nonneg, ne_eq, Int.reduceEq, not_false_eq_true, not_true_eq_false, sp_is_among, hk]
  cases hb : amongV x 1 200 with
  | false => rw [if_pos rfl]; exact q2 hb
  | true => rw [if_neg (by decide)]; exact q1 hb
theorem boundsV_ints {H : Hp} {x : V} (h : boundsV H x = true) : ∃ a w r d b, x = .ref a ∧ H a = some (.tup [.int w, .int r, .int d, .int b]) ∧ 1 ≤ w ∧ w ≤ 20 ∧ 1 ≤ r ∧ r ≤ w ∧ 0 ≤ d ∧ d ≤ 20 ∧ 0 ≤ b ∧ b ≤ 20 := by
  unfold boundsV at h
  split at h
  · rename_i a
    split at h
    · rename_i xs e
      unfold bnd4 at h
      split at h
      · rename_i a0 a1 a2 a3
        simp only [Bool.and_eq_true] at h
        obtain ⟨⟨⟨h0, h1⟩, h2⟩, h3⟩ := h
        obtain ⟨w, rfl, _, _⟩ := amongV_int h0
        obtain ⟨r, rfl, _, _⟩ := amongV_int h1
        obtain ⟨d, rfl, _, _⟩ := amongV_int h2
        obtain ⟨b, rfl, _, _⟩ := amongV_int h3
        exact ⟨a, w, r, d, b, rfl, e, by assumption, by assumption, by assumption, by assumption, by assumption, by assumption, by assumption, by assumption⟩
      · cases h
    · cases h
  · cases h
theorem boundsV_of {H : Hp} {a : Addr} {w r d b : Int} (h : H a = some (.tup [.int w, .int r, .int d, .int b])) (c : 1 ≤ w ∧ w ≤ 20 ∧ 1 ≤ r ∧ r ≤ w ∧ 0 ≤ d ∧ d ≤ 20 ∧ 0 ≤ b ∧ b ≤ 20) : boundsV H (.ref a) = true := by
  unfold boundsV
  dsimp only
  rw [h]
  show ((decide (1 ≤ w) && decide (w ≤ 20)) && (decide (1 ≤ r) && decide (r ≤ w)) && (decide (0 ≤ d) && decide (d ≤ 20)) && (decide (0 ≤ b) && decide (b ≤ 20))) = true
  simp only [Bool.and_eq_true, decide_eq_true_eq]
  omega
theorem KnI_ints {H : Hp} {a : Addr} {w r d b : Int} (h : H a = some (.tup [.int w, .int r, .int d, .int b])) : KnI H (.ref a) := by
  refine ⟨by unfold Kn; rw [tyN_tup h]; rfl, fun a' xs e hx y hy => ?_⟩
  cases e
  rw [seqO_tup h] at hx
  cases hx
  simp only [List.mem_cons, List.not_mem_nil, or_false] at hy
  rcases hy with rfl | rfl | rfl | rfl <;> rfl
end RP

namespace RP
open PySem PySem.Spec PyProof.Rows L2
abbrev s_least_ring : Stmt := top 21
abbrev N_least_ring : List Str := ["bounds"]
theorem sc_least_ring : FnScope N_least_ring ["bounds"] (defScope s_least_ring) := ⟨rfl, rfl, rfl, by decide +kernel, rfl, by decide +kernel, by decide +kernel⟩
def sp_least_ring (K : PySem.W.Frag) : Sp := fun vs H Q E => ∃ x, vs = [x] ∧ KnI H x ∧ (∀ a w r d b, x = .ref a → H a = some (.tup [.int w, .int r, .int d, .int b]) → boundsV H x = true → Q (.int (w + r + mx2 d b)) H) ∧ (boundsV H x = false → E (.ref (He.ga K "BadBounds")) none H)
theorem ok_least_ring {P : Program} {w : World} {K : PySem.W.Frag} {mg : Str → Option Value} {base : Heap} (F : FnP K ("least_ring", none) "least_ring" "least_ring" s_least_ring) (hm : mg "least_ring" = some (.ref (He.ga K "least_ring"))) (bl : Blt mg) (c_need_bounds : Cal P w K mg base 3 "need_bounds" (sp_need_bounds K)) : Cal P w K mg base 4 "least_ring" (sp_least_ring K) := by
  refine fn_cal F hm sc_least_ring (fun vs H Q E => by walk_at "len") (fun _ _ _ _ _ _ us hl => match us, hl with | [_], _ => rfl) (fun f cdv A outer s H vs Q E hr h => ?_)
  have hu := hu_of hr
  obtain ⟨x, rfl, hk, q1, q2⟩ := h
  refine ⟨_, (pss_cons (ps_expr (pe_fn c_need_bounds (hr.mono (by decide)) (L2N.takes_of rfl rfl rfl rfl) (pa_cons (pv 0) pa_nil)))
  (pss_one (ps_ret (pe_op op_add (pe_op op_add (pe_ix ix_C (pv 0) pe_int (fun _ _ => rfl)) (pe_ix ix_C (pv 0) pe_int (fun _ _ => rfl))) (pe_callB (call_max2 rfl) (by rfl) (bl.max) (by decide +kernel) (pa_cons (pe_ix ix_C (pv 0) pe_int (fun _ _ => rfl)) (pa_cons (pe_ix ix_C (pv 0) pe_int (fun _ _ => rfl)) pa_nil))))))), ?_⟩
  walk_at "st0"
  simp only [RDa, RDb, RDv, RDk, RDx, RDe, RDd, RDp, RDq, List.getElem?_cons_zero, List.getElem?_cons_succ, List.set_cons_zero, List.set_cons_succ, List.cons.injEq, List.cons_ne_nil, reduceCtorEq, exists_eq_left', exists_eq_left, exists_and_left, and_assoc, exists_const, true_and, and_true, if_true, if_false, false_and, and_false, exists_false, false_or, or_false, true_implies, false_implies, implies_true, forall_eq, forall_eq', Bool.false_eq_true, if_neg, decide_eq_true_eq, Bool.not_eq_true', decide_eq_false_iff_not, Bool.not_true, Bool.not_false, List.length_cons, List.length_nil, sizeLine_eq, Nat.reduceAdd, Nat.reduceLeDiff, Nat.reduceLT, Int.reduceLT, Int.reduceLE, Int.emod_nonneg, ne_eq, Int.reduceEq, not_false_eq_true, not_true_eq_false, sp_need_bounds, hk]
  refine ⟨fun hb => ?_, q2⟩
  obtain ⟨a, w', r, d, b, rfl, ha, _⟩ := boundsV_ints hb
  simp only [RDa, RDb, RDv, RDk, RDx, RDe, RDd, RDp, RDq, List.getElem?_cons_zero, List.getElem?_cons_succ, List.set_cons_zero, List.set_cons_succ, List.cons.injEq, List.cons_ne_nil, reduceCtorEq, exists_eq_left', exists_eq_left, exists_and_left, and_assoc, exists_const, true_and, and_true, if_true, if_false, false_and, and_false, exists_false, false_or, or_false, true_implies, false_implies, implies_true, forall_eq, forall_eq', Bool.false_eq_true, if_neg, decide_eq_true_eq, Bool.not_eq_true', decide_eq_false_iff_not, Bool.not_true, Bool.not_false, List.length_cons, List.length_nil, sizeLine_eq, Nat.reduceAdd, Nat.reduceLeDiff, Nat.reduceLT, Int.reduceLT, Int.reduceLE, Int.emod_nonneg, ne_eq, Int.reduceEq, not_false_eq_true, not_true_eq_false, seqO_tup ha]
  exact q1 a w' r d b rfl ha hb
end RP

namespace RP
open PySem PySem.Spec PyProof.Rows L2
def textV : V → Bool
  | .str z => decide (z.length ≤ 40)
  | _ => false
abbrev s_is_text : Stmt := top 17
abbrev N_is_text : List Str := ["thing"]
theorem sc_is_text : FnScope N_is_text ["thing"] (defScope s_is_text) := ⟨rfl, rfl, rfl, by decide +kernel, rfl, by decide +kernel, by decide +kernel⟩
def sp_is_text (K : PySem.W.Frag) : Sp := fun vs H Q _ => ∃ x, vs = [x] ∧ Kn H x ∧ (∀ z, x = .str z → z.length ≤ 100000) ∧ Q (.bl (textV x)) H
theorem ok_is_text {P : Program} {w : World} {K : PySem.W.Frag} {mg : Str → Option Value} {base : Heap} (F : FnP K ("is_text", none) "is_text" "is_text" s_is_text) (hm : mg "is_text" = some (.ref (He.ga K "is_text"))) (bl : Blt mg) (G_MOST_SIGNS : ∃ t, mg "MOST_SIGNS" = some (.int 40 t)) : Cal P w K mg base 1 "is_text" (sp_is_text K) := by
  refine fn_cal F hm sc_is_text (fun vs H Q E => by walk_at "len") (fun _ _ _ _ _ _ us hl => match us, hl with | [_], _ => rfl) (fun f cdv A outer s H vs Q E hr h => ?_)
  have hu := hu_of hr
  obtain ⟨t_MOST_SIGNS, g_MOST_SIGNS⟩ := G_MOST_SIGNS
  obtain ⟨x, rfl, hk, hz, q⟩ := h
  refine ⟨_, (pss_one (ps_ret (pe_and (pe_callB call_isC (by rfl) (bl.isi) (by decide +kernel) (pa_cons (pv 0) (pa_cons (pe_bltn (v := .ty "str") (u := .type "str") rfl (bl.str) (by decide +kernel) rfl) pa_nil))) (pe_one (pe_cmpR op_le (pe_callB call_len_str (by rfl) (bl.len) (by decide +kernel) (pa_cons (pv 0) pa_nil)) (pe_glob (v := .int 40) rfl g_MOST_SIGNS ⟨_, rfl⟩) (nomark _)))))), ?_⟩
  walk_at "st0"
  simp only [RDa, RDb, RDv, RDk, RDx, RDe, RDd, RDp, RDq, List.getElem?_cons_zero, List.getElem?_cons_succ, List.set_cons_zero, List.set_cons_succ, List.cons.injEq, List.cons_ne_nil, reduceCtorEq, exists_eq_left', exists_eq_left, exists_and_left, and_assoc, exists_const, true_and, and_true, if_true, if_false, false_and, and_false, exists_false, false_or, or_false, true_implies, false_implies, implies_true, forall_eq, forall_eq', Bool.false_eq_true, if_neg, decide_eq_true_eq, Bool.not_eq_true', decide_eq_false_iff_not, Bool.not_true, Bool.not_false, List.length_cons, List.length_nil, sizeLine_eq, Nat.reduceAdd, Nat.reduceLeDiff, Nat.reduceLT, Int.reduceLT, Int.reduceLE, Int.emod_nonneg, ne_eq, Int.reduceEq, not_false_eq_true, not_true_eq_false]
  rcases hk.cases with rfl | ⟨b, rfl⟩ | ⟨n, rfl⟩ | ⟨z, rfl⟩ | ⟨a, t, rfl, ht, rfl | rfl | rfl⟩
  · simp only [RDa, RDb, RDv, RDk, RDx, RDe, RDd, RDp, RDq, List.getElem?_cons_zero, List.getElem?_cons_succ, List.set_cons_zero, List.set_cons_succ, List.cons.injEq, List.cons_ne_nil, reduceCtorEq, exists_eq_left', exists_eq_left, exists_and_left, and_assoc, exists_const, true_and, and_true, if_true, if_false, false_and, and_false, exists_false, false_or, or_false, true_implies, false_implies, implies_true, forall_eq, forall_eq', Bool.false_eq_true, if_neg, decide_eq_true_eq, Bool.not_eq_true', decide_eq_false_iff_not, Bool.not_true, Bool.not_false, List.length_cons, List.length_nil, sizeLine_eq, Nat.reduceAdd, Nat.reduceLeDiff, Nat.reduceLT, Int.reduceLT, Int.reduceLE, Int.emod_nonneg, ne_eq, Int.reduceEq, not_false_eq_true, not_true_eq_false]
    exact q
  · simp only [RDa, RDb, RDv, RDk, RDx, RDe, RDd, RDp, RDq, List.getElem?_cons_zero, List.getElem?_cons_succ, List.set_cons_zero, List.set_cons_succ, List.cons.injEq, List.cons_ne_nil, reduceCtorEq, exists_eq_left', exists_eq_left, exists_and_left, and_assoc, exists_const, true_and, and_true, if_true, if_false, false_and, and_false, exists_false, false_or, or_false, true_implies, false_implies, implies_true, forall_eq, forall_eq', Bool.false_eq_true, if_neg, decide_eq_true_eq, Bool.not_eq_true', decide_eq_false_iff_not, Bool.not_true, Bool.not_false, List.length_cons, List.length_nil, sizeLine_eq, Nat.reduceAdd, Nat.reduceLeDiff, Nat.reduceLT, Int.reduceLT, Int.reduceLE, Int.emod_nonneg, ne_eq, Int.reduceEq, not_false_eq_true, not_true_eq_false]
    exact q
  · simp only [RDa, RDb, RDv, RDk, RDx, RDe, RDd, RDp, RDq, List.getElem?_cons_zero, List.getElem?_cons_succ, List.set_cons_zero, List.set_cons_succ, List.cons.injEq, List.cons_ne_nil, reduceCtorEq, exists_eq_left', exists_eq_left, exists_and_left, and_assoc, exists_const, true_and, and_true, if_true, if_false, false_and, and_false, exists_false, false_or, or_false, true_implies, false_implies, implies_true, forall_eq, forall_eq', Bool.false_eq_true, if_neg, decide_eq_true_eq, Bool.not_eq_true', decide_eq_false_iff_not, Bool.not_true, Bool.not_false, List.length_cons, List.length_nil, sizeLine_eq, Nat.reduceAdd, Nat.reduceLeDiff, Nat.reduceLT, Int.reduceLT, Int.reduceLE, Int.emod_nonneg, ne_eq, Int.reduceEq, not_false_eq_true, not_true_eq_false]
    exact q
  · simp only [RDa, RDb, RDv, RDk, RDx, RDe, RDd, RDp, RDq, List.getElem?_cons_zero, List.getElem?_cons_succ, List.set_cons_zero, List.set_cons_succ, List.cons.injEq, List.cons_ne_nil, reduceCtorEq, exists_eq_left', exists_eq_left, exists_and_left, and_assoc, exists_const, true_and, and_true, if_true, if_false, false_and, and_false, exists_false, false_or, or_false, true_implies, false_implies, implies_true, forall_eq, forall_eq', Bool.false_eq_true, if_neg, decide_eq_true_eq, Bool.not_eq_true', decide_eq_false_iff_not, Bool.not_true, Bool.not_false, List.length_cons, List.length_nil, sizeLine_eq, Nat.reduceAdd, Nat.reduceLeDiff, Nat.reduceLT, Int.reduceLT, Int.reduceLE, Int.emod_nonneg, ne_eq, Int.reduceEq, not_false_eq_true, not_true_eq_false]
    have := hz z rfl
    refine ⟨by omega, ?_⟩
    have e : decide ((z.length : Int) ≤ 40) = decide (z.length ≤ 40) := by
      rw [Bool.eq_iff_iff]
      simp only [decide_eq_true_eq]
      omega
    rw [e]
    exact q
  · simp only [RDa, RDb, RDv, RDk, RDx, RDe, RDd, RDp, RDq, List.getElem?_cons_zero, List.getElem?_cons_succ, List.set_cons_zero, List.set_cons_succ, List.cons.injEq, List.cons_ne_nil, reduceCtorEq, exists_eq_left', exists_eq_left, exists_and_left, and_assoc, exists_const, true_and, and_true, if_true, if_false, false_and, and_false, exists_false, false_or, or_false, true_implies, false_implies, implies_true, forall_eq, forall_eq', Bool.false_eq_true, if_neg, decide_eq_true_eq, Bool.not_eq_true', decide_eq_false_iff_not, Bool.not_true, Bool.not_false, List.length_cons, List.length_nil, sizeLine_eq, Nat.reduceAdd, Nat.reduceLeDiff, Nat.reduceLT, Int.reduceLT, Int.reduceLE, Int.emod_nonneg, ne_eq, Int.reduceEq, not_false_eq_true, not_true_eq_false, ht]
    exact q
  · simp only [RDa, RDb, RDv, RDk, RDx, RDe, RDd, RDp, RDq, List.getElem?_cons_zero, List.getElem?_cons_succ, List.set_cons_zero, List.set_cons_succ, List.cons.injEq, List.cons_ne_nil, reduceCtorEq, exists_eq_left', exists_eq_left, exists_and_left, and_assoc, exists_const, true_and, and_true, if_true, if_false, false_and, and_false, exists_false, false_or, or_false, true_implies, false_implies, implies_true, forall_eq, forall_eq', Bool.false_eq_true, if_neg, decide_eq_true_eq, Bool.not_eq_true', decide_eq_false_iff_not, Bool.not_true, Bool.not_false, List.length_cons, List.length_nil, sizeLine_eq, Nat.reduceAdd, Nat.reduceLeDiff, Nat.reduceLT, Int.reduceLT, Int.reduceLE, Int.emod_nonneg, ne_eq, Int.reduceEq, not_false_eq_true, not_true_eq_false, ht]
    exact q
  · simp only [RDa, RDb, RDv, RDk, RDx, RDe, RDd, RDp, RDq, List.getElem?_cons_zero, List.getElem?_cons_succ, List.set_cons_zero, List.set_cons_succ, List.cons.injEq, List.cons_ne_nil, reduceCtorEq, exists_eq_left', exists_eq_left, exists_and_left, and_assoc, exists_const, true_and, and_true, if_true, if_false, false_and, and_false, exists_false, false_or, or_false, true_implies, false_implies, implies_true, forall_eq, forall_eq', Bool.false_eq_true, if_neg, decide_eq_true_eq, Bool.not_eq_true', decide_eq_false_iff_not, Bool.not_true, Bool.not_false, List.length_cons, List.length_nil, sizeLine_eq, Nat.reduceAdd, Nat.reduceLeDiff, Nat.reduceLT, Int.reduceLT, Int.reduceLE, Int.emod_nonneg, ne_eq, Int.reduceEq, not_false_eq_true, not_true_eq_false, ht]
    exact q
/-- texts, by the thing itself -/
def textsV (H : Hp) (x : V) : Bool := match x with
  | .ref a => match H a with
    | some (.lst xs) => decide (xs.length ≤ 400) && xs.all textV
    | _ => false
  | _ => false
abbrev s_need_texts : Stmt := top 20
abbrev N_need_texts : List Str := ["thing", "one"]
theorem sc_need_texts : FnScope N_need_texts ["thing"] (defScope s_need_texts) := ⟨rfl, rfl, rfl, by decide +kernel, rfl, by decide +kernel, by decide +kernel⟩
def sp_need_texts (K : PySem.W.Frag) : Sp := fun vs H Q E => ∃ x, vs = [x] ∧ KnI H x ∧ (∀ a xs z, x = .ref a → H a = some (.lst xs) → .str z ∈ xs → z.length ≤ 100000) ∧ (textsV H x = true → Q .non H) ∧ (textsV H x = false → E (.ref (He.ga K "BadTexts")) none H)
theorem ok_need_texts {P : Program} {w : World} {K : PySem.W.Frag} {mg : Str → Option Value} {base : Heap} (F : FnP K ("need_texts", none) "need_texts" "need_texts" s_need_texts) (hm : mg "need_texts" = some (.ref (He.ga K "need_texts"))) (bl : Blt mg) (c_is_text : Cal P w K mg base 1 "is_text" (sp_is_text K)) (e_BadTexts : ErrC K mg "BadTexts") (G_MOST_TEXTS : ∃ t, mg "MOST_TEXTS" = some (.int 400 t)) : Cal P w K mg base 2 "need_texts" (sp_need_texts K) := by
  refine fn_cal F hm sc_need_texts (fun vs H Q E => by walk_at "len") (fun _ _ _ _ _ _ us hl => match us, hl with | [_], _ => rfl) (fun f cdv A outer s H vs Q E hr h => ?_)
  have hu := hu_of hr
  obtain ⟨t_MOST_TEXTS, g_MOST_TEXTS⟩ := G_MOST_TEXTS
  obtain ⟨x, rfl, hk, hz, q1, q2⟩ := h
  refine ⟨_, (pss_cons (ps_if (PW.pt (pw_or (pt_not (pt_val (pe_callB call_isC (by rfl) (bl.isi) (by decide +kernel) (pa_cons (pv 0) (pa_cons (pe_bltn (v := .ty "list") (u := .type "list") rfl (bl.list) (by decide +kernel) rfl) pa_nil))))) (pw_or1 (pt_cmpR op_gt (pe_callB call_lenC (by rfl) (bl.len) (by decide +kernel) (pa_cons (pv 0) pa_nil)) (pe_glob (v := .int 400) rfl g_MOST_TEXTS ⟨_, rfl⟩) (nomark _)))))
  (pss_one (L2N.ps_raise rfl (L2N.takes_of rfl rfl rfl rfl) (L2N.pmk_own PySem.F.excBase_ValueError e_BadTexts.ex e_BadTexts.g e_BadTexts.k (raises_own e_BadTexts.s e_BadTexts.t) rfl)))
  pss_nil)
  (pss_one (ps_for (passes_of rfl) rfl (pi_list (pv 0)) (pg_name (i := 1) sc_need_texts.nd rfl (Or.inl rfl))
  (pss_one (ps_if (pt_not (pt_val (pe_fn c_is_text (hr.mono (by decide)) (L2N.takes_of rfl rfl rfl rfl) (pa_cons (pv 1) pa_nil))))
  (pss_one (L2N.ps_raise rfl (L2N.takes_of rfl rfl rfl rfl) (L2N.pmk_own PySem.F.excBase_ValueError e_BadTexts.ex e_BadTexts.g e_BadTexts.k (raises_own e_BadTexts.s e_BadTexts.t) rfl)))
  pss_nil))))), ?_⟩
  walk_at "st0"
  have nb : (∀ a xs, x = .ref a → H a ≠ some (.lst xs)) → textsV H x = false := fun hn => by
    unfold textsV
    cases x with
    | ref a =>
      dsimp only
      split
      · rename_i xs e; exact absurd e (hn a xs rfl)
      · rfl
    | _ => rfl
  refine seq_gen fun N_a h_a => ?_
  simp only [RDa, RDb, RDv, RDk, RDx, RDe, RDd, RDp, RDq, List.getElem?_cons_zero, List.getElem?_cons_succ, List.set_cons_zero, List.set_cons_succ, List.cons.injEq, List.cons_ne_nil, reduceCtorEq, exists_eq_left', exists_eq_left, exists_and_left, and_assoc, exists_const, true_and, and_true, if_true, if_false, false_and, and_false, exists_false, false_or, or_false, true_implies, false_implies, implies_true, forall_eq, forall_eq', Bool.false_eq_true, if_neg, decide_eq_true_eq, Bool.not_eq_true', decide_eq_false_iff_not, Bool.not_true, Bool.not_false, List.length_cons, List.length_nil, sizeLine_eq, Nat.reduceAdd, Nat.reduceLeDiff, Nat.reduceLT, Int.reduceLT, Int.reduceLE, Int.emod_nonneg, ne_eq, Int.reduceEq, not_false_eq_true, not_true_eq_false]
  rcases hk.1.cases with rfl | ⟨b, rfl⟩ | ⟨n, rfl⟩ | ⟨z, rfl⟩ | ⟨a, t, rfl, ht, rfl | rfl | rfl⟩
  · simp only [RDa, RDb, RDv, RDk, RDx, RDe, RDd, RDp, RDq, List.getElem?_cons_zero, List.getElem?_cons_succ, List.set_cons_zero, List.set_cons_succ, List.cons.injEq, List.cons_ne_nil, reduceCtorEq, exists_eq_left', exists_eq_left, exists_and_left, and_assoc, exists_const, true_and, and_true, if_true, if_false, false_and, and_false, exists_false, false_or, or_false, true_implies, false_implies, implies_true, forall_eq, forall_eq', Bool.false_eq_true, if_neg, decide_eq_true_eq, Bool.not_eq_true', decide_eq_false_iff_not, Bool.not_true, Bool.not_false, List.length_cons, List.length_nil, sizeLine_eq, Nat.reduceAdd, Nat.reduceLeDiff, Nat.reduceLT, Int.reduceLT, Int.reduceLE, Int.emod_nonneg, ne_eq, Int.reduceEq, not_false_eq_true, not_true_eq_false]
    exact q2 rfl
  · simp only [RDa, RDb, RDv, RDk, RDx, RDe, RDd, RDp, RDq, List.getElem?_cons_zero, List.getElem?_cons_succ, List.set_cons_zero, List.set_cons_succ, List.cons.injEq, List.cons_ne_nil, reduceCtorEq, exists_eq_left', exists_eq_left, exists_and_left, and_assoc, exists_const, true_and, and_true, if_true, if_false, false_and, and_false, exists_false, false_or, or_false, true_implies, false_implies, implies_true, forall_eq, forall_eq', Bool.false_eq_true, if_neg, decide_eq_true_eq, Bool.not_eq_true', decide_eq_false_iff_not, Bool.not_true, Bool.not_false, List.length_cons, List.length_nil, sizeLine_eq, Nat.reduceAdd, Nat.reduceLeDiff, Nat.reduceLT, Int.reduceLT, Int.reduceLE, Int.emod_nonneg, ne_eq, Int.reduceEq, not_false_eq_true, not_true_eq_false]
    exact q2 rfl
  · simp only [RDa, RDb, RDv, RDk, RDx, RDe, RDd, RDp, RDq, List.getElem?_cons_zero, List.getElem?_cons_succ, List.set_cons_zero, List.set_cons_succ, List.cons.injEq, List.cons_ne_nil, reduceCtorEq, exists_eq_left', exists_eq_left, exists_and_left, and_assoc, exists_const, true_and, and_true, if_true, if_false, false_and, and_false, exists_false, false_or, or_false, true_implies, false_implies, implies_true, forall_eq, forall_eq', Bool.false_eq_true, if_neg, decide_eq_true_eq, Bool.not_eq_true', decide_eq_false_iff_not, Bool.not_true, Bool.not_false, List.length_cons, List.length_nil, sizeLine_eq, Nat.reduceAdd, Nat.reduceLeDiff, Nat.reduceLT, Int.reduceLT, Int.reduceLE, Int.emod_nonneg, ne_eq, Int.reduceEq, not_false_eq_true, not_true_eq_false]
    exact q2 rfl
  · simp only [RDa, RDb, RDv, RDk, RDx, RDe, RDd, RDp, RDq, List.getElem?_cons_zero, List.getElem?_cons_succ, List.set_cons_zero, List.set_cons_succ, List.cons.injEq, List.cons_ne_nil, reduceCtorEq, exists_eq_left', exists_eq_left, exists_and_left, and_assoc, exists_const, true_and, and_true, if_true, if_false, false_and, and_false, exists_false, false_or, or_false, true_implies, false_implies, implies_true, forall_eq, forall_eq', Bool.false_eq_true, if_neg, decide_eq_true_eq, Bool.not_eq_true', decide_eq_false_iff_not, Bool.not_true, Bool.not_false, List.length_cons, List.length_nil, sizeLine_eq, Nat.reduceAdd, Nat.reduceLeDiff, Nat.reduceLT, Int.reduceLT, Int.reduceLE, Int.emod_nonneg, ne_eq, Int.reduceEq, not_false_eq_true, not_true_eq_false]
    exact q2 rfl
  · obtain ⟨xs, hxs⟩ : ∃ xs, H a = some (.lst xs) := by
      unfold tyN at ht
      dsimp only at ht
      split at ht
      · exact ⟨_, by assumption⟩
      · exact absurd ht (by decide)
      · exact absurd ht (by decide)
      · cases ht
    have eb : textsV H (.ref a) = (decide (xs.length ≤ 400) && xs.all textV) := by unfold textsV; dsimp only; rw [hxs]
    rw [eb] at q1 q2
    have hy := hk.2 a xs rfl (seqO_lst hxs)
    simp only [RDa, RDb, RDv, RDk, RDx, RDe, RDd, RDp, RDq, List.getElem?_cons_zero, List.getElem?_cons_succ, List.set_cons_zero, List.set_cons_succ, List.cons.injEq, List.cons_ne_nil, reduceCtorEq, exists_eq_left', exists_eq_left, exists_and_left, and_assoc, exists_const, true_and, and_true, if_true, if_false, false_and, and_false, exists_false, false_or, or_false, true_implies, false_implies, implies_true, forall_eq, forall_eq', Bool.false_eq_true, if_neg, decide_eq_true_eq, Bool.not_eq_true', decide_eq_false_iff_not, Bool.not_true, Bool.not_false, List.length_cons, List.length_nil, sizeLine_eq, Nat.reduceAdd, Nat.reduceLeDiff, Nat.reduceLT, Int.reduceLT, Int.reduceLE, Int.emod_nonneg, ne_eq, Int.reduceEq, not_false_eq_true, not_true_eq_false, ht, lenO_lst hxs]
    by_cases l4 : xs.length ≤ 400
    · rw [if_neg (by omega)]
      refine h_a _ _ ?_
      rw [decide_eq_true l4, Bool.true_and] at q1 q2
      refine for_lcut (fun a' H1 => a' = a ∧ H = H1) xs (fun Z hZ => ?_) (fun a' i σ H' => a' = a ∧ (∃ u, σ = [some (.ref a), u]) ∧ H = H' ∧ ∀ y ∈ xs.take i, textV y = true) ?_ ?_ ?_ ?_
      · simp only [RDa, RDb, RDv, RDk, RDx, RDe, RDd, RDp, RDq, List.getElem?_cons_zero, List.getElem?_cons_succ, List.set_cons_zero, List.set_cons_succ, List.cons.injEq, List.cons_ne_nil, reduceCtorEq, exists_eq_left', exists_eq_left, exists_and_left, and_assoc, exists_const, true_and, and_true, if_true, if_false, false_and, and_false, exists_false, false_or, or_false, true_implies, false_implies, implies_true, forall_eq, forall_eq', Bool.false_eq_true, if_neg, decide_eq_true_eq, Bool.not_eq_true', decide_eq_false_iff_not, Bool.not_true, Bool.not_false, List.length_cons, List.length_nil, sizeLine_eq, Nat.reduceAdd, Nat.reduceLeDiff, Nat.reduceLT, Int.reduceLT, Int.reduceLE, Int.emod_nonneg, ne_eq, Int.reduceEq, not_false_eq_true, not_true_eq_false]
        exact hZ _ _ ⟨rfl, rfl⟩
      · rintro a' H1 ⟨rfl, rfl⟩
        exact ⟨SqL.of hxs, rfl, ⟨_, rfl⟩, rfl, by simp⟩
      · rintro a' i σ H1 _ ⟨rfl, _, rfl, _⟩
        exact SqL.of hxs
      · rintro a' i y σ H1 hy' ⟨rfl, ⟨u, rfl⟩, rfl, all⟩
        have my := List.mem_of_getElem? hy'
        simp only [RDa, RDb, RDv, RDk, RDx, RDe, RDd, RDp, RDq, List.getElem?_cons_zero, List.getElem?_cons_succ, List.set_cons_zero, List.set_cons_succ, List.cons.injEq, List.cons_ne_nil, reduceCtorEq, exists_eq_left', exists_eq_left, exists_and_left, and_assoc, exists_const, true_and, and_true, if_true, if_false, false_and, and_false, exists_false, false_or, or_false, true_implies, false_implies, implies_true, forall_eq, forall_eq', Bool.false_eq_true, if_neg, decide_eq_true_eq, Bool.not_eq_true', decide_eq_false_iff_not, Bool.not_true, Bool.not_false, List.length_cons, List.length_nil, sizeLine_eq, Nat.reduceAdd, Nat.reduceLeDiff, Nat.reduceLT, Int.reduceLT, Int.reduceLE, Int.emod_nonneg, ne_eq, Int.reduceEq, not_false_eq_true, not_true_eq_false, sp_is_text, hy y my]
        refine ⟨fun z e => hz a' xs z rfl hxs (e ▸ my), ?_⟩
        cases ty : textV y with
        | false =>
          rw [if_pos rfl]
          refine q2 ?_
          rw [List.all_eq_false]
          exact ⟨y, my, by rw [ty]; decide⟩
        | true =>
          rw [if_neg (by decide)]
          refine ⟨⟨_, rfl⟩, fun y' m' => ?_⟩
          rw [List.take_succ, hy'] at m'
          rcases List.mem_append.mp m' with z | z
          · exact all y' z
          · have e : y' = y := by simpa using z
            rw [e]; exact ty
      · rintro a' σ H1 ⟨rfl, ⟨u, rfl⟩, rfl, all⟩
        rw [List.take_length] at all
        exact q1 (List.all_eq_true.mpr all)
    · rw [if_pos (by omega)]
      rw [decide_eq_false l4, Bool.false_and] at q2
      exact q2 rfl
  · rw [nb (fun a' xs e h2 => by cases e; rw [tyN_lst h2] at ht; exact absurd ht (by decide))] at q2
    simp only [RDa, RDb, RDv, RDk, RDx, RDe, RDd, RDp, RDq, List.getElem?_cons_zero, List.getElem?_cons_succ, List.set_cons_zero, List.set_cons_succ, List.cons.injEq, List.cons_ne_nil, reduceCtorEq, exists_eq_left', exists_eq_left, exists_and_left, and_assoc, exists_const, true_and, and_true, if_true, if_false, false_and, and_false, exists_false, false_or, or_false, true_implies, false_implies, implies_true, forall_eq, forall_eq', Bool.false_eq_true, if_neg, decide_eq_true_eq, Bool.not_eq_true', decide_eq_false_iff_not, Bool.not_true, Bool.not_false, List.length_cons, List.length_nil, sizeLine_eq, Nat.reduceAdd, Nat.reduceLeDiff, Nat.reduceLT, Int.reduceLT, Int.reduceLE, Int.emod_nonneg, ne_eq, Int.reduceEq, not_false_eq_true, not_true_eq_false, ht]
    exact q2 rfl
  · rw [nb (fun a' xs e h2 => by cases e; rw [tyN_lst h2] at ht; exact absurd ht (by decide))] at q2
    simp only [RDa, RDb, RDv, RDk, RDx, RDe, RDd, RDp, RDq, List.getElem?_cons_zero, List.getElem?_cons_succ, List.set_cons_zero, List.set_cons_succ, List.cons.injEq, List.cons_ne_nil, reduceCtorEq, exists_eq_left', exists_eq_left, exists_and_left, and_assoc, exists_const, true_and, and_true, if_true, if_false, false_and, and_false, exists_false, false_or, or_false, true_implies, false_implies, implies_true, forall_eq, forall_eq', Bool.false_eq_true, if_neg, decide_eq_true_eq, Bool.not_eq_true', decide_eq_false_iff_not, Bool.not_true, Bool.not_false, List.length_cons, List.length_nil, sizeLine_eq, Nat.reduceAdd, Nat.reduceLeDiff, Nat.reduceLT, Int.reduceLT, Int.reduceLE, Int.emod_nonneg, ne_eq, Int.reduceEq, not_false_eq_true, not_true_eq_false, ht]
    exact q2 rfl
end RP

namespace RP
open PySem PySem.Spec PyProof.Rows L2
def cell (ns : List Int) (k : Int) : Int := ns.getD k.toNat 0
abbrev s__law_at : Stmt := top 38
abbrev N__law_at : List Str := ["_law_script", "_law_k"]
theorem sc__law_at : FnScope N__law_at ["_law_script", "_law_k"] (defScope s__law_at) := ⟨rfl, rfl, rfl, by decide +kernel, rfl, by decide +kernel, by decide +kernel⟩
def sp__law_at (K : PySem.W.Frag) (a : Addr) (ns : List Int) : Sp := fun vs H Q _ => ∃ k, vs = [.ref a, .int k] ∧ SqL K H a (ns.map V.int) ∧ 0 ≤ k ∧ Q (.int (cell ns k)) H
theorem ok__law_at {P : Program} {w : World} {K : PySem.W.Frag} {mg : Str → Option Value} {base : Heap} (F : FnP K ("_law_at", none) "_law_at" "_law_at" s__law_at) (hm : mg "_law_at" = some (.ref (He.ga K "_law_at"))) (bl : Blt mg) (a : Addr) (ns : List Int) : Cal P w K mg base 1 "_law_at" (sp__law_at K a ns) := by
  refine fn_cal F hm sc__law_at (fun vs H Q E => by walk_at "len") (fun _ _ _ _ _ _ us hl => match us, hl with | [_, _], _ => rfl) (fun f cdv A outer s H vs Q E hr h => ?_)
  have hu := hu_of hr
  obtain ⟨k, rfl, hS, hk, q⟩ := h
  refine ⟨_, (pss_cons (ps_if (pt_cmpR op_lt (pv 1) (pe_callB call_len_seq (by rfl) (bl.len) (by decide +kernel) (pa_cons (pv 0) pa_nil)) (nomark _))
  (pss_one (ps_ret (pe_ix ix_list (pv 0) (pv 1) (fun _ _ => rfl))))
  pss_nil)
  (pss_one (ps_ret pe_int))), ?_⟩
  walk_at "st0"
  simp only [RDa, RDb, RDv, RDk, RDx, RDe, RDd, RDp, RDq, List.getElem?_cons_zero, List.getElem?_cons_succ, List.set_cons_zero, List.set_cons_succ, List.cons.injEq, List.cons_ne_nil, reduceCtorEq, exists_eq_left', exists_eq_left, exists_and_left, and_assoc, exists_const, true_and, and_true, if_true, if_false, false_and, and_false, exists_false, false_or, or_false, true_implies, false_implies, implies_true, forall_eq, forall_eq', Bool.false_eq_true, if_neg, decide_eq_true_eq, Bool.not_eq_true', decide_eq_false_iff_not, Bool.not_true, Bool.not_false, List.length_cons, List.length_nil, sizeLine_eq, Nat.reduceAdd, Nat.reduceLeDiff, Nat.reduceLT, Int.reduceLT, Int.reduceLE, Int.emod_nonneg, ne_eq, Int.reduceEq, not_false_eq_true, not_true_eq_false, hS]
  refine ⟨_, .inl hS, ?_⟩
  rw [List.length_map]
  by_cases e : k < (ns.length : Int)
  · rw [if_pos e]
    refine ⟨_, _, k, V.int (cell ns k), rfl, rfl, hS, ?_, q⟩
    have e2 : k = ((k.toNat : Nat) : Int) := by omega
    have e3 : k.toNat < ns.length := by omega
    rw [e2]
    refine atI_nat ?_
    unfold cell
    rw [List.getElem?_map, List.getElem?_eq_getElem e3, List.getD_eq_getElem?_getD, Int.toNat_natCast, List.getElem?_eq_getElem e3]
    rfl
  · rw [if_neg e]
    have e3 : ns.length ≤ k.toNat := by omega
    have e4 : cell ns k = 0 := by
      unfold cell
      rw [List.getD_eq_getElem?_getD, List.getElem?_eq_none e3]
      rfl
    rw [e4] at q
    exact q
def mixed (c k : Int) : Int := (c * 48271 + 7919 * (k + 1) * (k + 3)) % 2147483647
abbrev s__law_mixed : Stmt := top 39
abbrev N__law_mixed : List Str := ["_law_cell", "_law_k"]
theorem sc__law_mixed : FnScope N__law_mixed ["_law_cell", "_law_k"] (defScope s__law_mixed) := ⟨rfl, rfl, rfl, by decide +kernel, rfl, by decide +kernel, by decide +kernel⟩
def sp__law_mixed (K : PySem.W.Frag) : Sp := fun vs H Q _ => ∃ c k : Int, vs = [.int c, .int k] ∧ 0 ≤ k ∧ k < 100 ∧ Q (.int (mixed c k)) H
theorem ok__law_mixed {P : Program} {w : World} {K : PySem.W.Frag} {mg : Str → Option Value} {base : Heap} (F : FnP K ("_law_mixed", none) "_law_mixed" "_law_mixed" s__law_mixed) (hm : mg "_law_mixed" = some (.ref (He.ga K "_law_mixed"))) (bl : Blt mg) : Cal P w K mg base 1 "_law_mixed" (sp__law_mixed K) := by
  refine fn_cal F hm sc__law_mixed (fun vs H Q E => by walk_at "len") (fun _ _ _ _ _ _ us hl => match us, hl with | [_, _], _ => rfl) (fun f cdv A outer s H vs Q E hr h => ?_)
  have hu := hu_of hr
  obtain ⟨c, k, rfl, h0, h1, q⟩ := h
  refine ⟨_, (pss_one (ps_ret (pe_op op_mod (pe_op op_add (pe_op op_mul (pv 0) pe_int) (pe_op op_mul (pe_op op_mul pe_int (pe_op op_add (pv 1) pe_int)) (pe_op op_add (pv 1) pe_int))) pe_int))), ?_⟩
  walk_at "st0"
  simp only [RDa, RDb, RDv, RDk, RDx, RDe, RDd, RDp, RDq, List.getElem?_cons_zero, List.getElem?_cons_succ, List.set_cons_zero, List.set_cons_succ, List.cons.injEq, List.cons_ne_nil, reduceCtorEq, exists_eq_left', exists_eq_left, exists_and_left, and_assoc, exists_const, true_and, and_true, if_true, if_false, false_and, and_false, exists_false, false_or, or_false, true_implies, false_implies, implies_true, forall_eq, forall_eq', Bool.false_eq_true, if_neg, decide_eq_true_eq, Bool.not_eq_true', decide_eq_false_iff_not, Bool.not_true, Bool.not_false, List.length_cons, List.length_nil, sizeLine_eq, Nat.reduceAdd, Nat.reduceLeDiff, Nat.reduceLT, Int.reduceLT, Int.reduceLE, Int.emod_nonneg, ne_eq, Int.reduceEq, not_false_eq_true, not_true_eq_false]
  refine ⟨.inr ⟨by decide, by decide⟩, .inl ⟨by decide, by decide⟩, .inr ⟨by omega, by omega⟩, q⟩
theorem mixed_pos (c k : Int) : 0 ≤ mixed c k := Int.emod_nonneg _ (by decide)
abbrev s__law_whole : Stmt := top 40
abbrev N__law_whole : List Str := ["_law_thing"]
theorem sc__law_whole : FnScope N__law_whole ["_law_thing"] (defScope s__law_whole) := ⟨rfl, rfl, rfl, by decide +kernel, rfl, by decide +kernel, by decide +kernel⟩
def wholeV (x : V) : Bool := match x with
  | .int _ => true
  | _ => false
def sp__law_whole (K : PySem.W.Frag) : Sp := fun vs H Q _ => ∃ x, vs = [x] ∧ Kn H x ∧ Q (.bl (wholeV x)) H
theorem ok__law_whole {P : Program} {w : World} {K : PySem.W.Frag} {mg : Str → Option Value} {base : Heap} (F : FnP K ("_law_whole", none) "_law_whole" "_law_whole" s__law_whole) (hm : mg "_law_whole" = some (.ref (He.ga K "_law_whole"))) (bl : Blt mg) : Cal P w K mg base 1 "_law_whole" (sp__law_whole K) := by
  refine fn_cal F hm sc__law_whole (fun vs H Q E => by walk_at "len") (fun _ _ _ _ _ _ us hl => match us, hl with | [_], _ => rfl) (fun f cdv A outer s H vs Q E hr h => ?_)
  have hu := hu_of hr
  obtain ⟨x, rfl, hk, q⟩ := h
  refine ⟨_, (pss_one (ps_ret (pe_and (pe_callB call_isC (by rfl) (bl.isi) (by decide +kernel) (pa_cons (pv 0) (pa_cons (pe_bltn (v := .ty "int") (u := .type "int") rfl (bl.int) (by decide +kernel) rfl) pa_nil))) (pe_one (pe_not (pe_callB call_isC (by rfl) (bl.isi) (by decide +kernel) (pa_cons (pv 0) (pa_cons (pe_bltn (v := .ty "bool") (u := .type "bool") rfl (bl.bool) (by decide +kernel) rfl) pa_nil)))))))), ?_⟩
  walk_at "st0"
  simp only [RDa, RDb, RDv, RDk, RDx, RDe, RDd, RDp, RDq, List.getElem?_cons_zero, List.getElem?_cons_succ, List.set_cons_zero, List.set_cons_succ, List.cons.injEq, List.cons_ne_nil, reduceCtorEq, exists_eq_left', exists_eq_left, exists_and_left, and_assoc, exists_const, true_and, and_true, if_true, if_false, false_and, and_false, exists_false, false_or, or_false, true_implies, false_implies, implies_true, forall_eq, forall_eq', Bool.false_eq_true, if_neg, decide_eq_true_eq, Bool.not_eq_true', decide_eq_false_iff_not, Bool.not_true, Bool.not_false, List.length_cons, List.length_nil, sizeLine_eq, Nat.reduceAdd, Nat.reduceLeDiff, Nat.reduceLT, Int.reduceLT, Int.reduceLE, Int.emod_nonneg, ne_eq, Int.reduceEq, not_false_eq_true, not_true_eq_false]
  rcases hk.cases with rfl | ⟨b, rfl⟩ | ⟨n, rfl⟩ | ⟨z, rfl⟩ | ⟨a, t, rfl, ht, rfl | rfl | rfl⟩
  · simp only [RDv, RDk, exists_eq_left', if_true, Bool.false_eq_true, if_false]; exact q
  · simp only [RDv, RDk, exists_eq_left', if_true, Bool.false_eq_true, if_false, Bool.not_true]; exact q
  · simp only [RDv, RDk, exists_eq_left', if_true, Bool.false_eq_true, if_false, Bool.not_false]; exact q
  · simp only [RDv, RDk, exists_eq_left', if_true, Bool.false_eq_true, if_false]; exact q
  · simp only [ht, RDv, RDk, exists_eq_left', if_true, Bool.false_eq_true, if_false]; exact q
  · simp only [ht, RDv, RDk, exists_eq_left', if_true, Bool.false_eq_true, if_false]; exact q
  · simp only [ht, RDv, RDk, exists_eq_left', if_true, Bool.false_eq_true, if_false]; exact q
end RP

namespace RP
open PySem PySem.Spec PyProof.Rows L2
theorem toList_ofString (s : String) : (Str.ofString s).cps.toList = s.toList.map Char.toNat := by
  unfold Str.ofString
  rw [← cpsOfBytes_string]
theorem strOk_lit (s : String) : PyData.strOk (Str.ofString s) = true := by
  refine strOk_iff.mpr fun c hc => ?_
  rw [toList_ofString] at hc
  obtain ⟨ch, _, rfl⟩ := List.mem_map.mp hc
  have v := ch.valid
  rcases v with v | ⟨_, v⟩
  · show ch.val.toNat < _
    have : ch.val.toNat < 55296 := v
    omega
  · exact v
theorem length_lit (s : String) : (Str.ofString s).length = s.toList.length := by
  show (Str.ofString s).cps.size = _
  rw [← Array.length_toList, toList_ofString, List.length_map]
theorem int_txt {i : Int} (h0 : 0 ≤ i) (h1 : i < 1000000) : TxtOk 6 (Str.ofString (toString i)) := by
  obtain ⟨n, rfl⟩ := Int.eq_ofNat_of_zero_le h0
  refine ⟨strOk_lit _, ?_⟩
  rw [length_lit]
  have e : (toString (n : Int)).toList = Nat.toDigits 10 n := by
    show (toString n).toList = _
    simp [Nat.repr, toString]
  rw [e]
  exact PyProof.Rows.digits10_le (by decide) (by omega)
theorem log_small {i : Int} (h0 : 0 ≤ i) (h1 : i < 1000000) : i.natAbs.log2 < 1920 := by
  by_cases e : i.natAbs = 0
  · rw [e]; decide
  · exact (Nat.log2_lt e).mpr (Nat.lt_of_lt_of_le (show i.natAbs < 2 ^ 20 by omega) (Nat.pow_le_pow_right (by decide) (by decide)))
theorem join_ok {n : Nat} (sep : Str) (hs : sep.length = 0) : ∀ (ys : List Str), (∀ y ∈ ys, TxtOk n y) → TxtOk (ys.length * n) (PySem.Str.join sep ys)
  | [], _ => by
    exact ⟨strOk_iff.mpr fun c hc => (by cases hc), Nat.zero_le _⟩
  | [x], h => by
    rw [List.length_singleton, Nat.one_mul]
    exact h x List.mem_cons_self
  | x :: y :: r, h => by
    have ih := join_ok sep hs (y :: r) fun z hz => h z (List.mem_cons_of_mem _ hz)
    have e : PySem.Str.join sep (x :: y :: r) = x ++ sep ++ PySem.Str.join sep (y :: r) := rfl
    have hsep : TxtOk 0 sep := ⟨strOk_iff.mpr fun c hc => by
      have : sep.cps.toList.length = 0 := by rw [Array.length_toList]; exact hs
      rw [List.length_eq_zero_iff.mp this] at hc
      exact absurd hc (by simp), by omega⟩
    rw [e]
    refine ((h x List.mem_cons_self).app hsep |>.app ih).mono ?_
    simp only [List.length_cons, Nat.succ_mul]
    omega
theorem cutS_ok {n : Nat} {z : Str} (h : TxtOk n z) (lo hi : Option Int) : TxtOk n (cutS z lo hi) := by
  refine ⟨strOk_iff.mpr fun c hc => ?_, ?_⟩
  · unfold cutS at hc
    exact strOk_iff.mp h.1 c (List.mem_of_mem_drop (List.mem_of_mem_take (by simpa using hc)))
  · refine Nat.le_trans ?_ h.2
    show (cutS z lo hi).cps.size ≤ z.cps.size
    unfold cutS
    rw [List.size_toArray, List.length_take, List.length_drop, Array.length_toList]
    omega
end RP

namespace RP
open PySem PySem.Spec PyProof.Rows L2
abbrev s__law_texts : Stmt := top 42
abbrev N__law_texts : List Str := ["_law_cell", "_law_many", "_law_sorts", "_law_some", "_law_number", "_law_tail", "_law_at_here", "_law_found", "_law_j", "_law_k", "_law_one"]
theorem sc__law_texts : FnScope N__law_texts ["_law_cell", "_law_many", "_law_sorts"] (defScope s__law_texts) := ⟨rfl, rfl, rfl, by decide +kernel, rfl, by decide +kernel, by decide +kernel⟩
abbrev someS : Str := " !\"#$&'()*+,-./:;<=>?@ABCDEFGHIJKLMNOPQRSTUVWXYZ[\\]^_abcdefghijklmnopqrstuvwxyz{|}~"
theorem someS_len : someS.length = 83 := by decide +kernel
/-- the text k, of n: the mixed cell -/
def lawTail (n : Int) : Str := Txt.join "" ((List.range (n / 77 % 39).toNat).map fun j : Nat => (⟨#[someS.cps.toList.getD ((n / 7 + (j : Int) * (1 + n % 11)) % 83).toNat 0]⟩ : Str))
def lawTxt0 (n sorts : Int) (k : Nat) : Str := cutS (lawTail n) none (some (n / 5000 % ((lawTail n).length + 1))) ++ Str.ofString (toString ((k : Int) % sorts)) ++ cutS (lawTail n) (some (n / 5000 % ((lawTail n).length + 1))) none
def lawTxt (n sorts : Int) (k : Nat) : Str := if n / 200 % 4 = 1 ∧ (k : Int) % sorts = n / 800 % sorts then "" else lawTxt0 n sorts k
theorem lawTail_ok (n : Int) : TxtOk 38 (lawTail n) := by
  unfold lawTail Txt.join
  rw [StrLaws.glued_eq_join]
  refine (join_ok (n := 1) "" (by decide +kernel) _ fun y hy => ?_).mono ?_
  · obtain ⟨j, _, rfl⟩ := List.mem_map.mp hy
    refine ⟨strOk_iff.mpr fun c hc => ?_, Nat.le_refl _⟩
    have e : c = someS.cps.toList.getD ((n / 7 + (j : Int) * (1 + n % 11)) % 83).toNat 0 := by simpa using hc
    rw [e]
    exact getD_all (p := fun x => x < 1114112) (by decide +kernel) (by decide) _
  · rw [List.length_map, List.length_range]
    have := md_rng (n / 77) (show (0 : Int) < 39 by decide)
    omega
theorem lawTxt0_ok {n sorts : Int} (h : 0 < sorts) (hs : sorts < 1000000) (k : Nat) : TxtOk 82 (lawTxt0 n sorts k) := by
  have m := md_rng (k : Int) h
  exact ((cutS_ok (lawTail_ok n) _ _).app (int_txt m.1 (by omega))).app (cutS_ok (lawTail_ok n) _ _)
theorem lawTxt_ok {n sorts : Int} (h : 0 < sorts) (hs : sorts < 1000000) (k : Nat) : TxtOk 82 (lawTxt n sorts k) := by
  unfold lawTxt
  split
  · exact ⟨by decide +kernel, by decide +kernel⟩
  · exact lawTxt0_ok h hs k
theorem cut2_len {z : Str} {m : Int} (h0 : 0 ≤ m) (h1 : m ≤ z.length) : (cutS z none (some m)).length + (cutS z (some m) none).length = z.length := by
  obtain ⟨k, rfl⟩ := Int.eq_ofNat_of_zero_le h0
  have hz : z.cps.toList.length = z.length := Array.length_toList
  have l1 : ∀ l : List Nat, (⟨l.toArray⟩ : Str).length = l.length := fun l => by show l.toArray.size = _; simp
  have a1 : (cutS z none (some (k : Int))).length = ((z.cps.toList.drop (HT.sIx z.length 0 none)).take (HT.sIx z.length z.length (some (k : Int)) - HT.sIx z.length 0 none)).length := l1 _
  have a2 : (cutS z (some (k : Int)) none).length = ((z.cps.toList.drop (HT.sIx z.length 0 (some (k : Int)))).take (HT.sIx z.length z.length none - HT.sIx z.length 0 (some (k : Int)))).length := l1 _
  rw [List.length_take, List.length_drop, hz] at a1 a2
  have e1 : HT.sIx z.length 0 none = 0 := rfl
  have e2 : HT.sIx z.length z.length none = z.length := rfl
  have e3 : ∀ d, HT.sIx z.length d (some (k : Int)) = min k z.length := fun d => HT.sIx_nat _ _ _
  rw [e1, e3] at a1
  rw [e2, e3] at a2
  show (cutS z none (some (k : Int))).length + (cutS z (some (k : Int)) none).length = z.length
  have h2 : k ≤ z.length := by omega
  omega
theorem int_txt2 {i : Int} (h0 : 0 ≤ i) (h1 : i < 100) : TxtOk 2 (Str.ofString (toString i)) := by
  obtain ⟨n, rfl⟩ := Int.eq_ofNat_of_zero_le h0
  refine ⟨strOk_lit _, ?_⟩
  rw [length_lit]
  have e : (toString (n : Int)).toList = Nat.toDigits 10 n := by
    show (toString n).toList = _
    simp [Nat.repr, toString]
  rw [e]
  exact PyProof.Rows.digits10_le (by decide) (by omega)
/-- no more than forty signs -/
theorem lawTxt_40 {n sorts : Int} (h : 0 < sorts) (hs : sorts ≤ 100) (k : Nat) : TxtOk 40 (lawTxt n sorts k) := by
  unfold lawTxt
  split
  · exact ⟨by decide +kernel, by decide +kernel⟩
  · have m := md_rng (k : Int) h
    have o := lawTxt0_ok (n := n) h (by omega) k
    refine ⟨o.1, ?_⟩
    unfold lawTxt0
    have m2 := md_rng (n / 5000) (show (0 : Int) < ((lawTail n).length : Int) + 1 by omega)
    have c := cut2_len (z := lawTail n) m2.1 (by omega)
    have t := (lawTail_ok n).2
    have d := (int_txt2 m.1 (by omega)).2
    rw [length_append, length_append]
    omega
def lawTexts (n sorts : Int) (many : Nat) : List Str := (List.range many).map (lawTxt n sorts)
def sp__law_texts (K : PySem.W.Frag) : Sp := fun vs H Q _ => ∃ c many sorts : Int, vs = [.int c, .int many, .int sorts] ∧ 0 ≤ many ∧ many < 1000 ∧ 0 < sorts ∧ sorts < 1000000 ∧
  ∀ l H', H l = none → Same H H' → H' l = some (.lst ((lawTexts (mixed c 5) sorts many.toNat).map V.str)) → Q (.ref l) H'
theorem ok__law_texts {P : Program} {w : World} {K : PySem.W.Frag} {mg : Str → Option Value} {base : Heap} (F : FnP K ("_law_texts", none) "_law_texts" "_law_texts" s__law_texts) (hm : mg "_law_texts" = some (.ref (He.ga K "_law_texts"))) (bl : Blt mg) (c__law_mixed : Cal P w K mg base 1 "_law_mixed" (sp__law_mixed K)) : Cal P w K mg base 2 "_law_texts" (sp__law_texts K) := by
  refine fn_cal F hm sc__law_texts (fun vs H Q E => by walk_at "len") (fun _ _ _ _ _ _ us hl => match us, hl with | [_, _, _], _ => rfl) (fun f cdv A outer s H vs Q E hr h => ?_)
  have hu := hu_of hr
  obtain ⟨c, many, sorts, rfl, hm0, hm1, hs0, hs1, q⟩ := h
  have hn := mixed_pos c 5
  generalize en : mixed c 5 = n at hn q
  refine ⟨_, (pss_cons (ps_set (i := 3) sc__law_texts.nd rfl (Or.inr rfl) pe_str)
  (pss_cons (ps_set (i := 4) sc__law_texts.nd rfl (Or.inr rfl) (pe_fn c__law_mixed (hr.mono (by decide)) (L2N.takes_of rfl rfl rfl rfl) (pa_cons (pv 0) (pa_cons pe_int pa_nil))))
  (pss_cons (ps_set (i := 5) sc__law_texts.nd rfl (Or.inr rfl) (pe_join pe_str (pe_lc (own := [("_law_j", 8)]) rfl sc__law_texts.nd (pi_range1 rfl (bl.range) (pa_cons (pe_op op_mod (pe_op op_fdiv (pv 4) pe_int) pe_int) pa_nil)) (blkOk_by (own := [("_law_j", 8)]) (N := N__law_texts) (sc := defScope s__law_texts) (by decide +kernel)) (fun _ _ _ _ _ =>  by exact (pg_name (i := 8) sc__law_texts.nd rfl (Or.inl rfl))) (fun _ _ _ _ _ =>  by exact pts_nil) (fun _ _ _ _ _ =>  by exact (pe_ix ix_strC (pv 3) (pe_op op_mod (pe_op op_add (pe_op op_fdiv (pv 4) pe_int) (pe_op op_mul (pv 8) (pe_op op_add pe_int (pe_op op_mod (pv 4) pe_int)))) (pe_callB call_len_str (by rfl) (bl.len) (by decide +kernel) (pa_cons (pv 3) pa_nil))) (fun _ _ => rfl))))))
  (pss_cons (ps_set (i := 6) sc__law_texts.nd rfl (Or.inr rfl) (pe_op op_mod (pe_op op_fdiv (pv 4) pe_int) (pe_op op_add (pe_callB call_len_str (by rfl) (bl.len) (by decide +kernel) (pa_cons (pv 5) pa_nil)) pe_int)))
  (pss_cons (ps_setLc (i := 7) (own := [("_law_k", 9)]) rfl sc__law_texts.nd rfl rfl (sw_true rfl rfl rfl (by decide +kernel)) (pi_range1 rfl (bl.range) (pa_cons (pv 1) pa_nil)) (blkOk_by (own := [("_law_k", 9)]) (N := N__law_texts) (sc := defScope s__law_texts) (by decide +kernel)) (fun _ _ _ _ _ =>  by exact (pg_name (i := 9) sc__law_texts.nd rfl (Or.inl rfl))) (fun _ _ _ _ _ =>  by exact pts_nil) (fun _ _ _ _ _ =>  by exact (pe_op op_add_str (pe_op op_add_str (pe_slice sl_str (pv 5) po_none (po_some (pv 6))) (pe_callTy call_str_int (by rfl) (bl.str) (by decide +kernel) (pa_cons (pe_op op_mod (pv 9) (pv 2)) pa_nil))) (pe_slice sl_str (pv 5) (po_some (pv 6)) po_none))))
  (pss_cons (ps_if (pt_cmpR op_eq (pe_op op_mod (pe_op op_fdiv (pv 4) pe_int) pe_int) pe_int (nomark _))
  (pss_one (ps_setLc (i := 7) (own := [("_law_k", 9), ("_law_one", 10)]) rfl sc__law_texts.nd rfl rfl (sw_true rfl rfl rfl (by decide +kernel)) (pi_enum (by rfl) (bl.enumerate) (pa_cons (pv 7) pa_nil)) (blkOk_by (own := [("_law_k", 9), ("_law_one", 10)]) (N := N__law_texts) (sc := defScope s__law_texts) (by decide +kernel)) (fun _ _ _ _ _ =>  by exact (pg_tupC (n := 2) rfl (pgs_cons (pg_name (i := 9) sc__law_texts.nd rfl (Or.inl rfl)) (pgs_cons (pg_name (i := 10) sc__law_texts.nd rfl (Or.inl rfl)) pgs_nil)))) (fun _ _ _ _ _ =>  by exact pts_nil) (fun _ _ _ _ _ =>  by exact (pe_pick (pa_cons (pv 10) (pa_cons pe_str pa_nil)) (pe_callTy call_int1 (by rfl) (bl.int) (by decide +kernel) (pa_cons (pe_cmpR op_eq (pe_op op_mod (pv 9) (pv 2)) (pe_op op_mod (pe_op op_fdiv (pv 4) pe_int) (pv 2)) (nomark _)) pa_nil)) (fun _ _ => rfl)))))
  pss_nil)
  (pss_one (ps_ret (pv 7))))))))), ?_⟩
  walk_at "st0"
  refine seq_gen fun N_a h_a => ?_
  simp only [RDa, RDb, RDv, RDk, RDx, RDe, RDd, RDp, RDq, List.getElem?_cons_zero, List.getElem?_cons_succ, List.set_cons_zero, List.set_cons_succ, List.cons.injEq, List.cons_ne_nil, reduceCtorEq, exists_eq_left', exists_eq_left, exists_and_left, and_assoc, exists_const, true_and, and_true, if_true, if_false, false_and, and_false, exists_false, false_or, or_false, true_implies, false_implies, implies_true, forall_eq, forall_eq', Bool.false_eq_true, if_neg, decide_eq_true_eq, Bool.not_eq_true', decide_eq_false_iff_not, Bool.not_true, Bool.not_false, List.length_cons, List.length_nil, sizeLine_eq, Nat.reduceAdd, Nat.reduceLeDiff, Nat.reduceLT, Int.reduceLT, Int.reduceLE, Int.emod_nonneg, ne_eq, Int.reduceEq, not_false_eq_true, not_true_eq_false]
  refine h_a _ _ ?_
  refine seq_gen fun N_b h_b => ?_
  simp only [RDa, RDb, RDv, RDk, RDx, RDe, RDd, RDp, RDq, List.getElem?_cons_zero, List.getElem?_cons_succ, List.set_cons_zero, List.set_cons_succ, List.cons.injEq, List.cons_ne_nil, reduceCtorEq, exists_eq_left', exists_eq_left, exists_and_left, and_assoc, exists_const, true_and, and_true, if_true, if_false, false_and, and_false, exists_false, false_or, or_false, true_implies, false_implies, implies_true, forall_eq, forall_eq', Bool.false_eq_true, if_neg, decide_eq_true_eq, Bool.not_eq_true', decide_eq_false_iff_not, Bool.not_true, Bool.not_false, List.length_cons, List.length_nil, sizeLine_eq, Nat.reduceAdd, Nat.reduceLeDiff, Nat.reduceLT, Int.reduceLT, Int.reduceLE, Int.emod_nonneg, ne_eq, Int.reduceEq, not_false_eq_true, not_true_eq_false, sp__law_mixed, en]
  refine h_b _ _ ?_
  clear h_a h_b
  refine seq_gen fun N_c h_c => ?_
  simp only [RDa, RDx, RDq]
  have h39 := md_rng (n / 77) (show (0 : Int) < 39 by decide)
  have h11 := md_rng n (show (0 : Int) < 11 by decide)
  have sl := someS_len
  have c83 : ((83 : Nat) : Int) = 83 := rfl
  refine ⟨⟨_, rfl⟩, ?_⟩
  refine rcut 0 (n / 77 % 39).toNat (fun H1 => H = H1) (fun _ j y => y = .str ⟨#[someS.cps.toList.getD ((n / 7 + (j : Int) * (1 + n % 11)) % 83).toNat 0]⟩) keeps_pure ?_ ?_ ?_ ?_
  · intro Z hZ
    simp only [RDa, RDb, RDv, RDk, RDx, RDe, RDd, RDp, RDq, List.getElem?_cons_zero, List.getElem?_cons_succ, List.set_cons_zero, List.set_cons_succ, List.cons.injEq, List.cons_ne_nil, reduceCtorEq, exists_eq_left', exists_eq_left, exists_and_left, and_assoc, exists_const, true_and, and_true, if_true, if_false, false_and, and_false, exists_false, false_or, or_false, true_implies, false_implies, implies_true, forall_eq, forall_eq', Bool.false_eq_true, if_neg, decide_eq_true_eq, Bool.not_eq_true', decide_eq_false_iff_not, Bool.not_true, Bool.not_false, List.length_cons, List.length_nil, sizeLine_eq, Nat.reduceAdd, Nat.reduceLeDiff, Nat.reduceLT, Int.reduceLT, Int.reduceLE, Int.emod_nonneg, ne_eq, Int.reduceEq, not_false_eq_true, not_true_eq_false]
    exact ⟨by omega, by omega, hZ H rfl⟩
  · rw [sizeLine_eq]
    omega
  · rintro H1 H2 j Z rfl hj s2 hZ
    simp only [RDa, RDb, RDv, RDk, RDx, RDe, RDd, RDp, RDq, List.getElem?_cons_zero, List.getElem?_cons_succ, List.set_cons_zero, List.set_cons_succ, List.cons.injEq, List.cons_ne_nil, reduceCtorEq, exists_eq_left', exists_eq_left, exists_and_left, and_assoc, exists_const, true_and, and_true, if_true, if_false, false_and, and_false, exists_false, false_or, or_false, true_implies, false_implies, implies_true, forall_eq, forall_eq', Bool.false_eq_true, if_neg, decide_eq_true_eq, Bool.not_eq_true', decide_eq_false_iff_not, Bool.not_true, Bool.not_false, List.length_cons, List.length_nil, sizeLine_eq, Nat.reduceAdd, Nat.reduceLeDiff, Nat.reduceLT, Int.reduceLT, Int.reduceLE, Int.emod_nonneg, ne_eq, Int.reduceEq, not_false_eq_true, not_true_eq_false, sl, c83, Int.zero_add]
    have hm := md_rng (n / 7 + (j : Int) * (1 + n % 11)) (show (0 : Int) < 83 by decide)
    refine ⟨.inr ⟨by omega, by omega⟩, _, ?_, hZ _ _ (Same.refl _) rfl⟩
    have hlen : someS.cps.toList.length = 83 := by rw [Array.length_toList]; exact someS_len
    generalize (n / 7 + (j : Int) * (1 + n % 11)) % 83 = k at hm
    rw [show k = ((k.toNat : Nat) : Int) by omega]
    refine atI_nat ?_
    have hk : k.toNat < someS.cps.toList.length := by omega
    rw [Int.toNat_natCast, List.getElem?_eq_getElem hk, List.getD_eq_getElem?_getD, List.getElem?_eq_getElem hk]
    rfl
  · rintro H1 H3 D rs rfl nD s3 hD ar
    have er := ar.map_eq
    refine ⟨_, D, (List.range (n / 77 % 39).toNat).map fun j : Nat => (⟨#[someS.cps.toList.getD ((n / 7 + (j : Int) * (1 + n % 11)) % 83).toNat 0]⟩ : Str), rfl, rfl, .inl (SqL.of (by rw [hD, er, List.map_map]; rfl)), ?_, ?_⟩
    · have hsum : ∀ (g : Nat → Nat) (m : Nat), (List.map (fun x : Str => x.length) (List.map (fun j => (⟨#[g j]⟩ : Str)) (List.range m))).sum = m := by
        intro g m
        rw [List.map_map]
        have e1 : ((fun x : Str => x.length) ∘ fun j => (⟨#[g j]⟩ : Str)) = fun _ => 1 := rfl
        rw [e1, List.map_const', List.sum_replicate_nat, List.length_range, Nat.mul_one]
      have e0 : (Str.ofString "").length = 0 := by decide +kernel
      rw [hsum fun j : Nat => someS.cps.toList.getD ((n / 7 + (j : Int) * (1 + n % 11)) % 83).toNat 0, e0, Nat.mul_zero]
      omega
    show N_c (List.set _ 5 (some (.str (lawTail n)))) H3
    refine h_c _ _ ?_
    clear h_c
    have ht := lawTail_ok n
    generalize et : lawTail n = tl at ht
    refine seq_gen fun N_d h_d => ?_
    simp only [RDa, RDb, RDv, RDk, RDx, RDe, RDd, RDp, RDq, List.getElem?_cons_zero, List.getElem?_cons_succ, List.set_cons_zero, List.set_cons_succ, List.cons.injEq, List.cons_ne_nil, reduceCtorEq, exists_eq_left', exists_eq_left, exists_and_left, and_assoc, exists_const, true_and, and_true, if_true, if_false, false_and, and_false, exists_false, false_or, or_false, true_implies, false_implies, implies_true, forall_eq, forall_eq', Bool.false_eq_true, if_neg, decide_eq_true_eq, Bool.not_eq_true', decide_eq_false_iff_not, Bool.not_true, Bool.not_false, List.length_cons, List.length_nil, sizeLine_eq, Nat.reduceAdd, Nat.reduceLeDiff, Nat.reduceLT, Int.reduceLT, Int.reduceLE, Int.emod_nonneg, ne_eq, Int.reduceEq, not_false_eq_true, not_true_eq_false]
    refine ⟨Nat.le_trans ht.2 (by decide), by omega, h_d _ _ ?_⟩
    clear h_d
    have hat := md_rng (n / 5000) (show (0 : Int) < (tl.length : Int) + 1 by omega)
    have elt : ∀ k : Nat, lawTxt0 n sorts k = cutS tl none (some (n / 5000 % ((tl.length : Int) + 1))) ++ Str.ofString (toString ((k : Int) % sorts)) ++ cutS tl (some (n / 5000 % ((tl.length : Int) + 1))) none := fun k => by
      unfold lawTxt0
      rw [et]
    have s1 : Same H H3 := s3
    refine seq_gen fun N_e h_e => ?_
    simp only [RDa, RDx, RDq]
    refine rcut 0 many.toNat (fun H1 => H3 = H1) (fun _ k y => y = .str (lawTxt0 n sorts k)) keeps_pure ?_ ?_ ?_ ?_
    · intro Z hZ
      simp only [RDa, RDb, RDv, RDk, RDx, RDe, RDd, RDp, RDq, List.getElem?_cons_zero, List.getElem?_cons_succ, List.set_cons_zero, List.set_cons_succ, List.cons.injEq, List.cons_ne_nil, reduceCtorEq, exists_eq_left', exists_eq_left, exists_and_left, and_assoc, exists_const, true_and, and_true, if_true, if_false, false_and, and_false, exists_false, false_or, or_false, true_implies, false_implies, implies_true, forall_eq, forall_eq', Bool.false_eq_true, if_neg, decide_eq_true_eq, Bool.not_eq_true', decide_eq_false_iff_not, Bool.not_true, Bool.not_false, List.length_cons, List.length_nil, sizeLine_eq, Nat.reduceAdd, Nat.reduceLeDiff, Nat.reduceLT, Int.reduceLT, Int.reduceLE, Int.emod_nonneg, ne_eq, Int.reduceEq, not_false_eq_true, not_true_eq_false]
      exact ⟨by omega, by omega, hZ H3 rfl⟩
    · rw [sizeLine_eq]
      omega
    · rintro H1 H2 k Z rfl hk s2 hZ
      simp only [RDa, RDb, RDv, RDk, RDx, RDe, RDd, RDp, RDq, List.getElem?_cons_zero, List.getElem?_cons_succ, List.set_cons_zero, List.set_cons_succ, List.cons.injEq, List.cons_ne_nil, reduceCtorEq, exists_eq_left', exists_eq_left, exists_and_left, and_assoc, exists_const, true_and, and_true, if_true, if_false, false_and, and_false, exists_false, false_or, or_false, true_implies, false_implies, implies_true, forall_eq, forall_eq', Bool.false_eq_true, if_neg, decide_eq_true_eq, Bool.not_eq_true', decide_eq_false_iff_not, Bool.not_true, Bool.not_false, List.length_cons, List.length_nil, sizeLine_eq, Nat.reduceAdd, Nat.reduceLeDiff, Nat.reduceLT, Int.reduceLT, Int.reduceLE, Int.emod_nonneg, ne_eq, Int.reduceEq, not_false_eq_true, not_true_eq_false, sl, c83, Int.zero_add]
      have hm := md_rng (k : Int) hs0
      have o1 := cutS_ok ht none (some (n / 5000 % ((tl.length : Int) + 1)))
      have o2 := cutS_ok ht (some (n / 5000 % ((tl.length : Int) + 1))) none
      have o3 := int_txt hm.1 (by omega)
      refine ⟨Nat.le_trans ht.2 (by decide), hs0, log_small hm.1 (by omega), ?_, Nat.le_trans ht.2 (by decide), ?_, hZ _ _ (Same.refl _) (by rw [elt])⟩
      · exact Nat.le_trans (Nat.add_le_add o1.2 o3.2) (by decide)
      · exact Nat.le_trans (Nat.add_le_add (o1.app o3).2 o2.2) (by decide)
    · rintro H1 H4 D2 rs2 rfl nD2 s4 hD2 ar2
      have er2 := ar2.map_eq
      show N_e (List.set _ 7 (some (.ref D2))) H4
      refine h_e _ _ ?_
      clear h_e
      refine seq_gen fun N_f h_f => ?_
      simp only [RDa, RDb, RDv, RDk, RDx, RDe, RDd, RDp, RDq, List.getElem?_cons_zero, List.getElem?_cons_succ, List.set_cons_zero, List.set_cons_succ, List.cons.injEq, List.cons_ne_nil, reduceCtorEq, exists_eq_left', exists_eq_left, exists_and_left, and_assoc, exists_const, true_and, and_true, if_true, if_false, false_and, and_false, exists_false, false_or, or_false, true_implies, false_implies, implies_true, forall_eq, forall_eq', Bool.false_eq_true, if_neg, decide_eq_true_eq, Bool.not_eq_true', decide_eq_false_iff_not, Bool.not_true, Bool.not_false, List.length_cons, List.length_nil, sizeLine_eq, Nat.reduceAdd, Nat.reduceLeDiff, Nat.reduceLT, Int.reduceLT, Int.reduceLE, Int.emod_nonneg, ne_eq, Int.reduceEq, not_false_eq_true, not_true_eq_false]
      have fin : ∀ (σ : L2.St) (D : Addr) (H5 : Hp), σ[7]? = some (some (.ref D)) → Same H H5 → H D = none → H5 D = some (.lst ((lawTexts n sorts many.toNat).map V.str)) → N_f σ H5 := by
        intro σ D H5 h7 s5 nD h5
        refine h_f _ _ ?_
        simp only [RDa, RDb, RDv, RDk, RDx, RDe, RDd, RDp, RDq, List.getElem?_cons_zero, List.getElem?_cons_succ, List.set_cons_zero, List.set_cons_succ, List.cons.injEq, List.cons_ne_nil, reduceCtorEq, exists_eq_left', exists_eq_left, exists_and_left, and_assoc, exists_const, true_and, and_true, if_true, if_false, false_and, and_false, exists_false, false_or, or_false, true_implies, false_implies, implies_true, forall_eq, forall_eq', Bool.false_eq_true, if_neg, decide_eq_true_eq, Bool.not_eq_true', decide_eq_false_iff_not, Bool.not_true, Bool.not_false, List.length_cons, List.length_nil, sizeLine_eq, Nat.reduceAdd, Nat.reduceLeDiff, Nat.reduceLT, Int.reduceLT, Int.reduceLE, Int.emod_nonneg, ne_eq, Int.reduceEq, not_false_eq_true, not_true_eq_false, h7]
        exact q D H5 nD s5 h5
      by_cases c1 : n / 200 % 4 = 1
      · rw [if_pos c1]
        refine ecut (fun a H1 => a = D2 ∧ H4 = H1) (fun _ x y => ∃ k : Nat, x.1 = k ∧ y = .str (lawTxt n sorts k)) ((List.range many.toNat).map fun k => V.str (lawTxt0 n sorts k)) ?_ ?_ ?_ ?_ ?_ ?_
        · exact keeps_pure
        · intro Z hZ
          simp only [RDa, RDb, RDv, RDk, RDx, RDe, RDd, RDp, RDq, List.getElem?_cons_zero, List.getElem?_cons_succ, List.set_cons_zero, List.set_cons_succ, List.cons.injEq, List.cons_ne_nil, reduceCtorEq, exists_eq_left', exists_eq_left, exists_and_left, and_assoc, exists_const, true_and, and_true, if_true, if_false, false_and, and_false, exists_false, false_or, or_false, true_implies, false_implies, implies_true, forall_eq, forall_eq', Bool.false_eq_true, if_neg, decide_eq_true_eq, Bool.not_eq_true', decide_eq_false_iff_not, Bool.not_true, Bool.not_false, List.length_cons, List.length_nil, sizeLine_eq, Nat.reduceAdd, Nat.reduceLeDiff, Nat.reduceLT, Int.reduceLT, Int.reduceLE, Int.emod_nonneg, ne_eq, Int.reduceEq, not_false_eq_true, not_true_eq_false]
          exact hZ _ _ ⟨rfl, rfl⟩
        · rintro a H1 ⟨rfl, rfl⟩
          rw [← er2]
          exact SqL.of hD2
        · rw [List.length_map, List.length_range, sizeLine_eq]
          omega
        · rintro a H1 H5 k x T Z ⟨rfl, rfl⟩ hx s5 hT hZ
          rw [List.getElem?_map] at hx
          obtain ⟨k', hk', rfl⟩ := Option.map_eq_some_iff.mp hx
          have ek : k' = k := by
            obtain ⟨hlt, e⟩ := List.getElem?_eq_some_iff.mp hk'
            rw [← e, List.getElem_range]
          subst ek
          simp only [RDa, RDb, RDv, RDk, RDx, RDe, RDd, RDp, RDq, List.getElem?_cons_zero, List.getElem?_cons_succ, List.set_cons_zero, List.set_cons_succ, List.cons.injEq, List.cons_ne_nil, reduceCtorEq, exists_eq_left', exists_eq_left, exists_and_left, and_assoc, exists_const, true_and, and_true, if_true, if_false, false_and, and_false, exists_false, false_or, or_false, true_implies, false_implies, implies_true, forall_eq, forall_eq', Bool.false_eq_true, if_neg, decide_eq_true_eq, Bool.not_eq_true', decide_eq_false_iff_not, Bool.not_true, Bool.not_false, List.length_cons, List.length_nil, sizeLine_eq, Nat.reduceAdd, Nat.reduceLeDiff, Nat.reduceLT, Int.reduceLT, Int.reduceLE, Int.emod_nonneg, ne_eq, Int.reduceEq, not_false_eq_true, not_true_eq_false, hT]
          have e01 : ∀ P : Prop, [Decidable P] → (0 : Int) ≤ if P then 1 else 0 := fun P _ => by split <;> decide
          refine ⟨hs0, hs0, e01 _, if (k' : Int) % sorts = n / 800 % sorts then .str "" else .str (lawTxt0 n sorts k'), by split <;> rfl, hZ _ _ (Same.refl _) ⟨k', rfl, ?_⟩⟩
          unfold lawTxt
          by_cases c2 : (k' : Int) % sorts = n / 800 % sorts
          · rw [if_pos c2, if_pos ⟨c1, c2⟩]
          · rw [if_neg c2, if_neg (fun h => c2 h.2)]
        · rintro a H1 H5 D3 rs3 ⟨rfl, rfl⟩ nD3 s5 hD3 ar3
          refine fin _ D3 H5 rfl (s1.trans (s4.trans s5)) (s1.free (s4.free nD3)) ?_
          have ez : rs3 = (lawTexts n sorts many.toNat).map V.str := by
            refine List.ext_getElem? fun i => ?_
            have hl := ar3.length
            rw [List.length_zip, List.length_range, List.length_map, List.length_range, Nat.min_self] at hl
            unfold lawTexts
            rw [List.getElem?_map, List.getElem?_map]
            by_cases hi : i < many.toNat
            · rw [List.getElem?_range hi]
              obtain ⟨y, hy⟩ : ∃ y, rs3[i]? = some y := ⟨_, List.getElem?_eq_getElem (by omega)⟩
              obtain ⟨x, hx, k, e1, e2⟩ := ar3.get hy
              obtain ⟨hz1, hz2⟩ := List.getElem?_zip_eq_some.mp hx
              have hlen : (List.map (fun k => V.str (lawTxt0 n sorts k)) (List.range many.toNat)).length = many.toNat := by rw [List.length_map, List.length_range]
              rw [hlen, List.getElem?_range hi] at hz1
              have e3 : i = x.1 := Option.some.inj hz1
              rw [hy, e2, ← e1, ← e3]
              rfl
            · rw [List.getElem?_eq_none (by omega), List.getElem?_eq_none (by rw [List.length_range]; omega)]
              rfl
          rw [hD3, ez]
      · rw [if_neg c1]
        refine fin _ D2 H4 rfl (s1.trans s4) (s1.free nD2) ?_
        rw [hD2, er2]
        unfold lawTexts
        rw [List.map_map]
        congr 3
        funext k
        show _ = V.str (lawTxt n sorts k)
        unfold lawTxt
        rw [if_neg (fun h => c1 h.1)]
end RP

namespace RP
open PySem PySem.Spec PyProof.Rows L2
abbrev s__law_bounds : Stmt := top 41
abbrev N__law_bounds : List Str := ["_law_script", "_law_one", "_law_two", "_law_window", "_law_delay", "_law_back"]
theorem sc__law_bounds : FnScope N__law_bounds ["_law_script"] (defScope s__law_bounds) := ⟨rfl, rfl, rfl, by decide +kernel, rfl, by decide +kernel, by decide +kernel⟩
/-- the law's bounds, by the two mixed cells -/
def lbW (one : Int) : Int := if one / 5 % 6 = 1 then 1 + one / 30 % 20 else 1 + one % 5
def lbD (two : Int) : Int := if two / 16 % 6 = 1 ∨ two / 16 % 6 = 2 then two / 96 % 21 else two % 4
def lbB (two : Int) : Int := if 3 < two / 16 % 6 then two / 96 % (if two / 16 % 2 = 0 then 21 else 9) else if two / 16 % 6 = 2 then two / 2016 % 21 else two / 4 % 4
def lbR (one : Int) : Int := 1 + one / 600 % lbW one
theorem lb_ok {one two : Int} : 1 ≤ lbW one ∧ lbW one ≤ 20 ∧ 1 ≤ lbR one ∧ lbR one ≤ lbW one ∧ 0 ≤ lbD two ∧ lbD two ≤ 20 ∧ 0 ≤ lbB two ∧ lbB two ≤ 20 := by
  have h1 : 1 ≤ lbW one ∧ lbW one ≤ 20 := by unfold lbW; split <;> omega
  have h2 := md_rng (one / 600) (show 0 < lbW one by omega)
  refine ⟨h1.1, h1.2, by unfold lbR; omega, by unfold lbR; omega, ?_, ?_, ?_, ?_⟩
  · unfold lbD; split <;> omega
  · unfold lbD; split <;> omega
  · unfold lbB; repeat' split
    all_goals omega
  · unfold lbB; repeat' split
    all_goals omega
def sp__law_bounds (K : PySem.W.Frag) (a : Addr) (ns : List Int) : Sp := fun vs H Q _ => vs = [.ref a] ∧ SqL K H a (ns.map V.int) ∧
  ∀ t H', H t = none → Same H H' → H' t = some (.tup [.int (lbW (mixed (cell ns 0) 0)), .int (lbR (mixed (cell ns 0) 0)), .int (lbD (mixed (cell ns 1) 1)), .int (lbB (mixed (cell ns 1) 1))]) → Q (.ref t) H'
theorem ok__law_bounds {P : Program} {w : World} {K : PySem.W.Frag} {mg : Str → Option Value} {base : Heap} (F : FnP K ("_law_bounds", none) "_law_bounds" "_law_bounds" s__law_bounds) (hm : mg "_law_bounds" = some (.ref (He.ga K "_law_bounds"))) (bl : Blt mg) (c__law_at : ∀ (a : Addr) (ns : List Int), Cal P w K mg base 1 "_law_at" (sp__law_at K a ns)) (c__law_mixed : Cal P w K mg base 1 "_law_mixed" (sp__law_mixed K)) (a : Addr) (ns : List Int) : Cal P w K mg base 2 "_law_bounds" (sp__law_bounds K a ns) := by
  refine fn_cal F hm sc__law_bounds (fun vs H Q E => by walk_at "len") (fun _ _ _ _ _ _ us hl => match us, hl with | [_], _ => rfl) (fun f cdv A outer s H vs Q E hr h => ?_)
  have hu := hu_of hr
  obtain ⟨rfl, hS, q⟩ := h
  refine ⟨_, (pss_cons (ps_set (i := 1) sc__law_bounds.nd rfl (Or.inl rfl) (pe_fn c__law_mixed (hr.mono (by decide)) (L2N.takes_of rfl rfl rfl rfl) (pa_cons (pe_fn (c__law_at a ns) (hr.mono (by decide)) (L2N.takes_of rfl rfl rfl rfl) (pa_cons (pv 0) (pa_cons pe_int pa_nil))) (pa_cons pe_int pa_nil))))
  (pss_cons (ps_set (i := 2) sc__law_bounds.nd rfl (Or.inl rfl) (pe_fn c__law_mixed (hr.mono (by decide)) (L2N.takes_of rfl rfl rfl rfl) (pa_cons (pe_fn (c__law_at a ns) (hr.mono (by decide)) (L2N.takes_of rfl rfl rfl rfl) (pa_cons (pv 0) (pa_cons pe_int pa_nil))) (pa_cons pe_int pa_nil))))
  (pss_cons (ps_set (i := 3) sc__law_bounds.nd rfl (Or.inl rfl) (pe_op op_add pe_int (pe_op op_mod (pv 1) pe_int)))
  (pss_cons (ps_set (i := 4) sc__law_bounds.nd rfl (Or.inl rfl) (pe_op op_mod (pv 2) pe_int))
  (pss_cons (ps_set (i := 5) sc__law_bounds.nd rfl (Or.inl rfl) (pe_op op_mod (pe_op op_fdiv (pv 2) pe_int) pe_int))
  (pss_cons (ps_if (pt_cmpR op_eq (pe_op op_mod (pe_op op_fdiv (pv 1) pe_int) pe_int) pe_int (nomark _))
  (pss_one (ps_set (i := 3) sc__law_bounds.nd rfl (Or.inl rfl) (pe_op op_add pe_int (pe_op op_mod (pe_op op_fdiv (pv 1) pe_int) pe_int))))
  pss_nil)
  (pss_cons (ps_if (pt_cmp (pc_inT (pe_op op_mod (pe_op op_fdiv (pv 2) pe_int) pe_int) (pa_cons pe_int (pa_cons pe_int pa_nil))) rfl)
  (pss_one (ps_set (i := 4) sc__law_bounds.nd rfl (Or.inl rfl) (pe_op op_mod (pe_op op_fdiv (pv 2) pe_int) pe_int)))
  pss_nil)
  (pss_cons (ps_if (pt_cmpR op_eq (pe_op op_mod (pe_op op_fdiv (pv 2) pe_int) pe_int) pe_int (nomark _))
  (pss_one (ps_set (i := 5) sc__law_bounds.nd rfl (Or.inl rfl) (pe_op op_mod (pe_op op_fdiv (pv 2) pe_int) pe_int)))
  pss_nil)
  (pss_cons (ps_if (pt_cmpR op_gt (pe_op op_mod (pe_op op_fdiv (pv 2) pe_int) pe_int) pe_int (nomark _))
  (pss_one (ps_set (i := 5) sc__law_bounds.nd rfl (Or.inl rfl) (pe_op op_mod (pe_op op_fdiv (pv 2) pe_int) (pe_pick (pa_cons pe_int (pa_cons pe_int pa_nil)) (pe_op op_mod (pe_op op_fdiv (pv 2) pe_int) pe_int) (fun _ _ => rfl)))))
  pss_nil)
  (pss_one (ps_ret (pe_tup (pa_cons (pv 3) (pa_cons (pe_op op_add pe_int (pe_op op_mod (pe_op op_fdiv (pv 1) pe_int) (pv 3))) (pa_cons (pv 4) (pa_cons (pv 5) pa_nil)))))))))))))))), ?_⟩
  walk_at "st0"
  refine seq_gen fun N_a h_a => ?_
  simp only [RDa, RDb, RDv, RDk, RDx, RDe, RDd, RDp, RDq, List.getElem?_cons_zero, List.getElem?_cons_succ, List.set_cons_zero, List.set_cons_succ, List.cons.injEq, List.cons_ne_nil, reduceCtorEq, exists_eq_left', exists_eq_left, exists_and_left, and_assoc, exists_const, true_and, and_true, if_true, if_false, false_and, and_false, exists_false, false_or, or_false, true_implies, false_implies, implies_true, forall_eq, forall_eq', Bool.false_eq_true, if_neg, decide_eq_true_eq, Bool.not_eq_true', decide_eq_false_iff_not, Bool.not_true, Bool.not_false, List.length_cons, List.length_nil, sizeLine_eq, Nat.reduceAdd, Nat.reduceLeDiff, Nat.reduceLT, Int.reduceLT, Int.reduceLE, Int.emod_nonneg, ne_eq, Int.reduceEq, not_false_eq_true, not_true_eq_false, hS, sp__law_at, sp__law_mixed]
  refine h_a _ _ ?_
  refine seq_gen fun N_b h_b => ?_
  simp only [RDa, RDb, RDv, RDk, RDx, RDe, RDd, RDp, RDq, List.getElem?_cons_zero, List.getElem?_cons_succ, List.set_cons_zero, List.set_cons_succ, List.cons.injEq, List.cons_ne_nil, reduceCtorEq, exists_eq_left', exists_eq_left, exists_and_left, and_assoc, exists_const, true_and, and_true, if_true, if_false, false_and, and_false, exists_false, false_or, or_false, true_implies, false_implies, implies_true, forall_eq, forall_eq', Bool.false_eq_true, if_neg, decide_eq_true_eq, Bool.not_eq_true', decide_eq_false_iff_not, Bool.not_true, Bool.not_false, List.length_cons, List.length_nil, sizeLine_eq, Nat.reduceAdd, Nat.reduceLeDiff, Nat.reduceLT, Int.reduceLT, Int.reduceLE, Int.emod_nonneg, ne_eq, Int.reduceEq, not_false_eq_true, not_true_eq_false, hS, sp__law_at, sp__law_mixed]
  refine h_b _ _ ?_
  clear h_a h_b
  generalize mixed (cell ns 0) 0 = one at q
  generalize mixed (cell ns 1) 1 = two at q
  refine seq_gen fun N_c h_c => ?_
  simp only [RDa, RDb, RDv, RDk, RDx, RDe, RDd, RDp, RDq, List.getElem?_cons_zero, List.getElem?_cons_succ, List.set_cons_zero, List.set_cons_succ, List.cons.injEq, List.cons_ne_nil, reduceCtorEq, exists_eq_left', exists_eq_left, exists_and_left, and_assoc, exists_const, true_and, and_true, if_true, if_false, false_and, and_false, exists_false, false_or, or_false, true_implies, false_implies, implies_true, forall_eq, forall_eq', Bool.false_eq_true, if_neg, decide_eq_true_eq, Bool.not_eq_true', decide_eq_false_iff_not, Bool.not_true, Bool.not_false, List.length_cons, List.length_nil, sizeLine_eq, Nat.reduceAdd, Nat.reduceLeDiff, Nat.reduceLT, Int.reduceLT, Int.reduceLE, Int.emod_nonneg, ne_eq, Int.reduceEq, not_false_eq_true, not_true_eq_false]
  refine h_c _ _ ?_
  refine seq_gen fun N_d h_d => ?_
  simp only [RDa, RDb, RDv, RDk, RDx, RDe, RDd, RDp, RDq, List.getElem?_cons_zero, List.getElem?_cons_succ, List.set_cons_zero, List.set_cons_succ, List.cons.injEq, List.cons_ne_nil, reduceCtorEq, exists_eq_left', exists_eq_left, exists_and_left, and_assoc, exists_const, true_and, and_true, if_true, if_false, false_and, and_false, exists_false, false_or, or_false, true_implies, false_implies, implies_true, forall_eq, forall_eq', Bool.false_eq_true, if_neg, decide_eq_true_eq, Bool.not_eq_true', decide_eq_false_iff_not, Bool.not_true, Bool.not_false, List.length_cons, List.length_nil, sizeLine_eq, Nat.reduceAdd, Nat.reduceLeDiff, Nat.reduceLT, Int.reduceLT, Int.reduceLE, Int.emod_nonneg, ne_eq, Int.reduceEq, not_false_eq_true, not_true_eq_false]
  refine h_d _ _ ?_
  refine seq_gen fun N_e h_e => ?_
  simp only [RDa, RDb, RDv, RDk, RDx, RDe, RDd, RDp, RDq, List.getElem?_cons_zero, List.getElem?_cons_succ, List.set_cons_zero, List.set_cons_succ, List.cons.injEq, List.cons_ne_nil, reduceCtorEq, exists_eq_left', exists_eq_left, exists_and_left, and_assoc, exists_const, true_and, and_true, if_true, if_false, false_and, and_false, exists_false, false_or, or_false, true_implies, false_implies, implies_true, forall_eq, forall_eq', Bool.false_eq_true, if_neg, decide_eq_true_eq, Bool.not_eq_true', decide_eq_false_iff_not, Bool.not_true, Bool.not_false, List.length_cons, List.length_nil, sizeLine_eq, Nat.reduceAdd, Nat.reduceLeDiff, Nat.reduceLT, Int.reduceLT, Int.reduceLE, Int.emod_nonneg, ne_eq, Int.reduceEq, not_false_eq_true, not_true_eq_false]
  refine h_e _ _ ?_
  clear h_c h_d h_e
  refine seq_to [some (.ref a), some (.int one), some (.int two), some (.int (lbW one)), some (.int (two % 4)), some (.int (two / 4 % 4))] H (fun N hN => ?_) ?_
  · simp only [RDa, RDb, RDv, RDk, RDx, RDe, RDd, RDp, RDq, List.getElem?_cons_zero, List.getElem?_cons_succ, List.set_cons_zero, List.set_cons_succ, List.cons.injEq, List.cons_ne_nil, reduceCtorEq, exists_eq_left', exists_eq_left, exists_and_left, and_assoc, exists_const, true_and, and_true, if_true, if_false, false_and, and_false, exists_false, false_or, or_false, true_implies, false_implies, implies_true, forall_eq, forall_eq', Bool.false_eq_true, if_neg, decide_eq_true_eq, Bool.not_eq_true', decide_eq_false_iff_not, Bool.not_true, Bool.not_false, List.length_cons, List.length_nil, sizeLine_eq, Nat.reduceAdd, Nat.reduceLeDiff, Nat.reduceLT, Int.reduceLT, Int.reduceLE, Int.emod_nonneg, ne_eq, Int.reduceEq, not_false_eq_true, not_true_eq_false]
    unfold lbW at hN
    by_cases c1 : one / 5 % 6 = 1
    · rw [if_pos c1] at hN ⊢; exact hN
    · rw [if_neg c1] at hN ⊢; exact hN
  refine seq_to [some (.ref a), some (.int one), some (.int two), some (.int (lbW one)), some (.int (lbD two)), some (.int (two / 4 % 4))] H (fun N hN => ?_) ?_
  · simp only [RDa, RDb, RDv, RDk, RDx, RDe, RDd, RDp, RDq, List.getElem?_cons_zero, List.getElem?_cons_succ, List.set_cons_zero, List.set_cons_succ, List.cons.injEq, List.cons_ne_nil, reduceCtorEq, exists_eq_left', exists_eq_left, exists_and_left, and_assoc, exists_const, true_and, and_true, if_true, if_false, false_and, and_false, exists_false, false_or, or_false, true_implies, false_implies, implies_true, forall_eq, forall_eq', Bool.false_eq_true, if_neg, decide_eq_true_eq, Bool.not_eq_true', decide_eq_false_iff_not, Bool.not_true, Bool.not_false, List.length_cons, List.length_nil, sizeLine_eq, Nat.reduceAdd, Nat.reduceLeDiff, Nat.reduceLT, Int.reduceLT, Int.reduceLE, Int.emod_nonneg, ne_eq, Int.reduceEq, not_false_eq_true, not_true_eq_false]
    have ei : inV (V.int (two / 16 % 6)) [V.int 1, V.int 2] = decide (two / 16 % 6 = 1 ∨ two / 16 % 6 = 2) := by
      rw [Bool.eq_iff_iff]
      simp only [inV, List.any_cons, List.any_nil, eqV, Bool.or_false, Bool.or_eq_true, beq_iff_eq, decide_eq_true_eq]
      omega
    refine ⟨rfl, rfl, ?_⟩
    rw [ei]
    unfold lbD at hN
    by_cases c1 : two / 16 % 6 = 1 ∨ two / 16 % 6 = 2
    · rw [if_pos c1] at hN
      rw [if_pos (decide_eq_true c1)]; exact hN
    · rw [if_neg c1] at hN
      rw [if_neg (by simpa using c1)]; exact hN
  refine seq_to [some (.ref a), some (.int one), some (.int two), some (.int (lbW one)), some (.int (lbD two)), some (.int (if two / 16 % 6 = 2 then two / 2016 % 21 else two / 4 % 4))] H (fun N hN => ?_) ?_
  · simp only [RDa, RDb, RDv, RDk, RDx, RDe, RDd, RDp, RDq, List.getElem?_cons_zero, List.getElem?_cons_succ, List.set_cons_zero, List.set_cons_succ, List.cons.injEq, List.cons_ne_nil, reduceCtorEq, exists_eq_left', exists_eq_left, exists_and_left, and_assoc, exists_const, true_and, and_true, if_true, if_false, false_and, and_false, exists_false, false_or, or_false, true_implies, false_implies, implies_true, forall_eq, forall_eq', Bool.false_eq_true, if_neg, decide_eq_true_eq, Bool.not_eq_true', decide_eq_false_iff_not, Bool.not_true, Bool.not_false, List.length_cons, List.length_nil, sizeLine_eq, Nat.reduceAdd, Nat.reduceLeDiff, Nat.reduceLT, Int.reduceLT, Int.reduceLE, Int.emod_nonneg, ne_eq, Int.reduceEq, not_false_eq_true, not_true_eq_false]
    by_cases c1 : two / 16 % 6 = 2
    · rw [if_pos c1] at hN ⊢; exact hN
    · rw [if_neg c1] at hN ⊢; exact hN
  refine seq_to [some (.ref a), some (.int one), some (.int two), some (.int (lbW one)), some (.int (lbD two)), some (.int (lbB two))] H (fun N hN => ?_) ?_
  · simp only [RDa, RDb, RDv, RDk, RDx, RDe, RDd, RDp, RDq, List.getElem?_cons_zero, List.getElem?_cons_succ, List.set_cons_zero, List.set_cons_succ, List.cons.injEq, List.cons_ne_nil, reduceCtorEq, exists_eq_left', exists_eq_left, exists_and_left, and_assoc, exists_const, true_and, and_true, if_true, if_false, false_and, and_false, exists_false, false_or, or_false, true_implies, false_implies, implies_true, forall_eq, forall_eq', Bool.false_eq_true, if_neg, decide_eq_true_eq, Bool.not_eq_true', decide_eq_false_iff_not, Bool.not_true, Bool.not_false, List.length_cons, List.length_nil, sizeLine_eq, Nat.reduceAdd, Nat.reduceLeDiff, Nat.reduceLT, Int.reduceLT, Int.reduceLE, Int.emod_nonneg, ne_eq, Int.reduceEq, not_false_eq_true, not_true_eq_false]
    unfold lbB at hN
    by_cases c1 : 3 < two / 16 % 6
    · rw [if_pos c1] at hN ⊢
      exact ⟨_, pickI2 (by omega) (by omega), _, rfl, by split <;> decide, hN⟩
    · rw [if_neg c1] at hN ⊢; exact hN
  have ok := lb_ok (one := one) (two := two)
  simp only [RDa, RDb, RDv, RDk, RDx, RDe, RDd, RDp, RDq, List.getElem?_cons_zero, List.getElem?_cons_succ, List.set_cons_zero, List.set_cons_succ, List.cons.injEq, List.cons_ne_nil, reduceCtorEq, exists_eq_left', exists_eq_left, exists_and_left, and_assoc, exists_const, true_and, and_true, if_true, if_false, false_and, and_false, exists_false, false_or, or_false, true_implies, false_implies, implies_true, forall_eq, forall_eq', Bool.false_eq_true, if_neg, decide_eq_true_eq, Bool.not_eq_true', decide_eq_false_iff_not, Bool.not_true, Bool.not_false, List.length_cons, List.length_nil, sizeLine_eq, Nat.reduceAdd, Nat.reduceLeDiff, Nat.reduceLT, Int.reduceLT, Int.reduceLE, Int.emod_nonneg, ne_eq, Int.reduceEq, not_false_eq_true, not_true_eq_false]
  exact ⟨by omega, fun t ht => q t _ ht (same_new ht) upd_same⟩
end RP

namespace RP
open PySem PySem.Spec PyProof.Rows L2
/-- a step, by the things themselves -/
def stepV (H : Hp) (x : V) : Bool := match x with
  | .ref a => match H a with
    | some (.tup [.str z, y]) => (decide (z = "send") || decide (z = "hand") || decide (z = "tell")) && amongV y 0 999999
    | _ => false
  | _ => false
abbrev s_need_step : Stmt := top 30
abbrev N_need_step : List Str := ["thing", "good"]
theorem sc_need_step : FnScope N_need_step ["thing"] (defScope s_need_step) := ⟨rfl, rfl, rfl, by decide +kernel, rfl, by decide +kernel, by decide +kernel⟩
def sp_need_step (K : PySem.W.Frag) : Sp := fun vs H Q E => ∃ x, vs = [x] ∧ KnI H x ∧ (stepV H x = true → Q .non H) ∧ (stepV H x = false → E (.ref (He.ga K "BadStep")) none H)
theorem ok_need_step {P : Program} {w : World} {K : PySem.W.Frag} {mg : Str → Option Value} {base : Heap} (F : FnP K ("need_step", none) "need_step" "need_step" s_need_step) (hm : mg "need_step" = some (.ref (He.ga K "need_step"))) (bl : Blt mg) (c_is_among : Cal P w K mg base 1 "is_among" (sp_is_among K)) (e_BadStep : ErrC K mg "BadStep") (G_MOST_NUMBER : ∃ t, mg "MOST_NUMBER" = some (.int 999999 t)) (g_WORDS : mg "WORDS" = some (.ref (He.ga K "WORDS"))) (hW : ∀ H, SqT K H (He.ga K "WORDS") [.str "send", .str "hand", .str "tell"]) : Cal P w K mg base 2 "need_step" (sp_need_step K) := by
  refine fn_cal F hm sc_need_step (fun vs H Q E => by walk_at "len") (fun _ _ _ _ _ _ us hl => match us, hl with | [_], _ => rfl) (fun f cdv A outer s H vs Q E hr h => ?_)
  have hu := hu_of hr
  obtain ⟨t_MOST_NUMBER, g_MOST_NUMBER⟩ := G_MOST_NUMBER
  obtain ⟨x, rfl, hk, q1, q2⟩ := h
  refine ⟨_, (pss_cons (ps_set (i := 1) sc_need_step.nd rfl (Or.inl rfl) (pe_and (pe_callB call_isC (by rfl) (bl.isi) (by decide +kernel) (pa_cons (pv 0) (pa_cons (pe_bltn (v := .ty "tuple") (u := .type "tuple") rfl (bl.tuple) (by decide +kernel) rfl) pa_nil))) (pe_and (pe_cmpR op_eq (pe_callB call_lenC (by rfl) (bl.len) (by decide +kernel) (pa_cons (pv 0) pa_nil)) pe_int (nomark _)) (pe_and (pe_callB call_isC (by rfl) (bl.isi) (by decide +kernel) (pa_cons (pe_ix ix_C (pv 0) pe_int (fun _ _ => rfl)) (pa_cons (pe_bltn (v := .ty "str") (u := .type "str") rfl (bl.str) (by decide +kernel) rfl) pa_nil))) (pe_one (pe_cmpR op_in_seq (pe_ix ix_C (pv 0) pe_int (fun _ _ => rfl)) (pe_glob (v := .ref (He.ga K "WORDS")) rfl g_WORDS rfl) (by rfl)))))))
  (pss_one (ps_if (PW.pt (pw_or (pt_not (pt_val (pv 1))) (pw_or1 (pt_not (pt_val (pe_fn c_is_among (hr.mono (by decide)) (L2N.takes_of rfl rfl rfl rfl) (pa_cons (pe_ix ix_C (pv 0) pe_int (fun _ _ => rfl)) (pa_cons pe_int (pa_cons (pe_glob (v := .int 999999) rfl g_MOST_NUMBER ⟨_, rfl⟩) pa_nil)))))))))
  (pss_one (L2N.ps_raise rfl (L2N.takes_of rfl rfl rfl rfl) (L2N.pmk_own PySem.F.excBase_ValueError e_BadStep.ex e_BadStep.g e_BadStep.k (raises_own e_BadStep.s e_BadStep.t) rfl)))
  pss_nil))), ?_⟩
  walk_at "st0"
  refine seq_gen fun N_a h_a => ?_
  simp only [RDa, RDb, RDv, RDk, RDx, RDe, RDd, RDp, RDq, List.getElem?_cons_zero, List.getElem?_cons_succ, List.set_cons_zero, List.set_cons_succ, List.cons.injEq, List.cons_ne_nil, reduceCtorEq, exists_eq_left', exists_eq_left, exists_and_left, and_assoc, exists_const, true_and, and_true, if_true, if_false, false_and, and_false, exists_false, false_or, or_false, true_implies, false_implies, implies_true, forall_eq, forall_eq', Bool.false_eq_true, if_neg, decide_eq_true_eq, Bool.not_eq_true', decide_eq_false_iff_not, Bool.not_true, Bool.not_false, List.length_cons, List.length_nil, sizeLine_eq, Nat.reduceAdd, Nat.reduceLeDiff, Nat.reduceLT, Int.reduceLT, Int.reduceLE, Int.emod_nonneg, ne_eq, Int.reduceEq, not_false_eq_true, not_true_eq_false]
  have no : stepV H x = false → N_a [some x, some (.bl false)] H := fun hs => by
    refine h_a _ _ ?_
    simp only [RDa, RDb, RDv, RDk, RDx, RDe, RDd, RDp, RDq, List.getElem?_cons_zero, List.getElem?_cons_succ, List.set_cons_zero, List.set_cons_succ, List.cons.injEq, List.cons_ne_nil, reduceCtorEq, exists_eq_left', exists_eq_left, exists_and_left, and_assoc, exists_const, true_and, and_true, if_true, if_false, false_and, and_false, exists_false, false_or, or_false, true_implies, false_implies, implies_true, forall_eq, forall_eq', Bool.false_eq_true, if_neg, decide_eq_true_eq, Bool.not_eq_true', decide_eq_false_iff_not, Bool.not_true, Bool.not_false, List.length_cons, List.length_nil, sizeLine_eq, Nat.reduceAdd, Nat.reduceLeDiff, Nat.reduceLT, Int.reduceLT, Int.reduceLE, Int.emod_nonneg, ne_eq, Int.reduceEq, not_false_eq_true, not_true_eq_false]
    exact q2 hs
  have nst : (∀ a xs, x = .ref a → H a ≠ some (.tup xs)) → stepV H x = false := fun hn => by
    unfold stepV
    cases x with
    | ref a =>
      dsimp only
      split
      · rename_i z y e; exact absurd e (hn a _ rfl)
      · rfl
    | _ => rfl
  rcases hk.1.cases with rfl | ⟨b, rfl⟩ | ⟨n, rfl⟩ | ⟨z, rfl⟩ | ⟨a, t, rfl, ht, rfl | rfl | rfl⟩
  · simp only [RDa, RDb, RDv, RDk, RDx, RDe, RDd, RDp, RDq, List.getElem?_cons_zero, List.getElem?_cons_succ, List.set_cons_zero, List.set_cons_succ, List.cons.injEq, List.cons_ne_nil, reduceCtorEq, exists_eq_left', exists_eq_left, exists_and_left, and_assoc, exists_const, true_and, and_true, if_true, if_false, false_and, and_false, exists_false, false_or, or_false, true_implies, false_implies, implies_true, forall_eq, forall_eq', Bool.false_eq_true, if_neg, decide_eq_true_eq, Bool.not_eq_true', decide_eq_false_iff_not, Bool.not_true, Bool.not_false, List.length_cons, List.length_nil, sizeLine_eq, Nat.reduceAdd, Nat.reduceLeDiff, Nat.reduceLT, Int.reduceLT, Int.reduceLE, Int.emod_nonneg, ne_eq, Int.reduceEq, not_false_eq_true, not_true_eq_false]
    exact no rfl
  · simp only [RDa, RDb, RDv, RDk, RDx, RDe, RDd, RDp, RDq, List.getElem?_cons_zero, List.getElem?_cons_succ, List.set_cons_zero, List.set_cons_succ, List.cons.injEq, List.cons_ne_nil, reduceCtorEq, exists_eq_left', exists_eq_left, exists_and_left, and_assoc, exists_const, true_and, and_true, if_true, if_false, false_and, and_false, exists_false, false_or, or_false, true_implies, false_implies, implies_true, forall_eq, forall_eq', Bool.false_eq_true, if_neg, decide_eq_true_eq, Bool.not_eq_true', decide_eq_false_iff_not, Bool.not_true, Bool.not_false, List.length_cons, List.length_nil, sizeLine_eq, Nat.reduceAdd, Nat.reduceLeDiff, Nat.reduceLT, Int.reduceLT, Int.reduceLE, Int.emod_nonneg, ne_eq, Int.reduceEq, not_false_eq_true, not_true_eq_false]
    exact no rfl
  · simp only [RDa, RDb, RDv, RDk, RDx, RDe, RDd, RDp, RDq, List.getElem?_cons_zero, List.getElem?_cons_succ, List.set_cons_zero, List.set_cons_succ, List.cons.injEq, List.cons_ne_nil, reduceCtorEq, exists_eq_left', exists_eq_left, exists_and_left, and_assoc, exists_const, true_and, and_true, if_true, if_false, false_and, and_false, exists_false, false_or, or_false, true_implies, false_implies, implies_true, forall_eq, forall_eq', Bool.false_eq_true, if_neg, decide_eq_true_eq, Bool.not_eq_true', decide_eq_false_iff_not, Bool.not_true, Bool.not_false, List.length_cons, List.length_nil, sizeLine_eq, Nat.reduceAdd, Nat.reduceLeDiff, Nat.reduceLT, Int.reduceLT, Int.reduceLE, Int.emod_nonneg, ne_eq, Int.reduceEq, not_false_eq_true, not_true_eq_false]
    exact no rfl
  · simp only [RDa, RDb, RDv, RDk, RDx, RDe, RDd, RDp, RDq, List.getElem?_cons_zero, List.getElem?_cons_succ, List.set_cons_zero, List.set_cons_succ, List.cons.injEq, List.cons_ne_nil, reduceCtorEq, exists_eq_left', exists_eq_left, exists_and_left, and_assoc, exists_const, true_and, and_true, if_true, if_false, false_and, and_false, exists_false, false_or, or_false, true_implies, false_implies, implies_true, forall_eq, forall_eq', Bool.false_eq_true, if_neg, decide_eq_true_eq, Bool.not_eq_true', decide_eq_false_iff_not, Bool.not_true, Bool.not_false, List.length_cons, List.length_nil, sizeLine_eq, Nat.reduceAdd, Nat.reduceLeDiff, Nat.reduceLT, Int.reduceLT, Int.reduceLE, Int.emod_nonneg, ne_eq, Int.reduceEq, not_false_eq_true, not_true_eq_false]
    exact no rfl
  · simp only [RDa, RDb, RDv, RDk, RDx, RDe, RDd, RDp, RDq, List.getElem?_cons_zero, List.getElem?_cons_succ, List.set_cons_zero, List.set_cons_succ, List.cons.injEq, List.cons_ne_nil, reduceCtorEq, exists_eq_left', exists_eq_left, exists_and_left, and_assoc, exists_const, true_and, and_true, if_true, if_false, false_and, and_false, exists_false, false_or, or_false, true_implies, false_implies, implies_true, forall_eq, forall_eq', Bool.false_eq_true, if_neg, decide_eq_true_eq, Bool.not_eq_true', decide_eq_false_iff_not, Bool.not_true, Bool.not_false, List.length_cons, List.length_nil, sizeLine_eq, Nat.reduceAdd, Nat.reduceLeDiff, Nat.reduceLT, Int.reduceLT, Int.reduceLE, Int.emod_nonneg, ne_eq, Int.reduceEq, not_false_eq_true, not_true_eq_false, ht]
    exact no (nst fun a' xs e h2 => by cases e; rw [tyN_tup h2] at ht; exact absurd ht (by decide))
  · obtain ⟨xs, hxs⟩ : ∃ xs, H a = some (.tup xs) := by
      unfold tyN at ht
      dsimp only at ht
      split at ht
      · exact absurd ht (by decide)
      · exact ⟨_, by assumption⟩
      · exact absurd ht (by decide)
      · cases ht
    have hy := hk.2 a xs rfl (seqO_tup hxs)
    simp only [RDa, RDb, RDv, RDk, RDx, RDe, RDd, RDp, RDq, List.getElem?_cons_zero, List.getElem?_cons_succ, List.set_cons_zero, List.set_cons_succ, List.cons.injEq, List.cons_ne_nil, reduceCtorEq, exists_eq_left', exists_eq_left, exists_and_left, and_assoc, exists_const, true_and, and_true, if_true, if_false, false_and, and_false, exists_false, false_or, or_false, true_implies, false_implies, implies_true, forall_eq, forall_eq', Bool.false_eq_true, if_neg, decide_eq_true_eq, Bool.not_eq_true', decide_eq_false_iff_not, Bool.not_true, Bool.not_false, List.length_cons, List.length_nil, sizeLine_eq, Nat.reduceAdd, Nat.reduceLeDiff, Nat.reduceLT, Int.reduceLT, Int.reduceLE, Int.emod_nonneg, ne_eq, Int.reduceEq, not_false_eq_true, not_true_eq_false, ht, lenO_tup hxs, seqO_tup hxs]
    by_cases l2 : xs.length = 2
    · rw [if_pos (by omega)]
      match xs, l2, hxs, hy with
      | [a0, a1], _, hxs, hy =>
        have k0 := hy a0 (by simp)
        have k1 := hy a1 (by simp)
        refine ⟨_, rfl, ?_⟩
        have nz : (∀ z, a0 ≠ .str z) → stepV H (.ref a) = false := fun hn => by
          unfold stepV
          dsimp only
          rw [hxs]
          split
          · rename_i z y e
            have e2 := Option.some.inj e
            injection e2 with e3
            injection e3 with e4 _
            exact absurd e4 (hn _)
          · rfl
        rcases k0.cases with rfl | ⟨b, rfl⟩ | ⟨n, rfl⟩ | ⟨z, rfl⟩ | ⟨a', t, rfl, ht', rfl | rfl | rfl⟩
        · simp only [RDa, RDb, RDv, RDk, RDx, RDe, RDd, RDp, RDq, List.getElem?_cons_zero, List.getElem?_cons_succ, List.set_cons_zero, List.set_cons_succ, List.cons.injEq, List.cons_ne_nil, reduceCtorEq, exists_eq_left', exists_eq_left, exists_and_left, and_assoc, exists_const, true_and, and_true, if_true, if_false, false_and, and_false, exists_false, false_or, or_false, true_implies, false_implies, implies_true, forall_eq, forall_eq', Bool.false_eq_true, if_neg, decide_eq_true_eq, Bool.not_eq_true', decide_eq_false_iff_not, Bool.not_true, Bool.not_false, List.length_cons, List.length_nil, sizeLine_eq, Nat.reduceAdd, Nat.reduceLeDiff, Nat.reduceLT, Int.reduceLT, Int.reduceLE, Int.emod_nonneg, ne_eq, Int.reduceEq, not_false_eq_true, not_true_eq_false]
          exact no (nz fun _ e => nomatch e)
        · simp only [RDa, RDb, RDv, RDk, RDx, RDe, RDd, RDp, RDq, List.getElem?_cons_zero, List.getElem?_cons_succ, List.set_cons_zero, List.set_cons_succ, List.cons.injEq, List.cons_ne_nil, reduceCtorEq, exists_eq_left', exists_eq_left, exists_and_left, and_assoc, exists_const, true_and, and_true, if_true, if_false, false_and, and_false, exists_false, false_or, or_false, true_implies, false_implies, implies_true, forall_eq, forall_eq', Bool.false_eq_true, if_neg, decide_eq_true_eq, Bool.not_eq_true', decide_eq_false_iff_not, Bool.not_true, Bool.not_false, List.length_cons, List.length_nil, sizeLine_eq, Nat.reduceAdd, Nat.reduceLeDiff, Nat.reduceLT, Int.reduceLT, Int.reduceLE, Int.emod_nonneg, ne_eq, Int.reduceEq, not_false_eq_true, not_true_eq_false]
          exact no (nz fun _ e => nomatch e)
        · simp only [RDa, RDb, RDv, RDk, RDx, RDe, RDd, RDp, RDq, List.getElem?_cons_zero, List.getElem?_cons_succ, List.set_cons_zero, List.set_cons_succ, List.cons.injEq, List.cons_ne_nil, reduceCtorEq, exists_eq_left', exists_eq_left, exists_and_left, and_assoc, exists_const, true_and, and_true, if_true, if_false, false_and, and_false, exists_false, false_or, or_false, true_implies, false_implies, implies_true, forall_eq, forall_eq', Bool.false_eq_true, if_neg, decide_eq_true_eq, Bool.not_eq_true', decide_eq_false_iff_not, Bool.not_true, Bool.not_false, List.length_cons, List.length_nil, sizeLine_eq, Nat.reduceAdd, Nat.reduceLeDiff, Nat.reduceLT, Int.reduceLT, Int.reduceLE, Int.emod_nonneg, ne_eq, Int.reduceEq, not_false_eq_true, not_true_eq_false]
          exact no (nz fun _ e => nomatch e)
        · simp only [RDa, RDb, RDv, RDk, RDx, RDe, RDd, RDp, RDq, List.getElem?_cons_zero, List.getElem?_cons_succ, List.set_cons_zero, List.set_cons_succ, List.cons.injEq, List.cons_ne_nil, reduceCtorEq, exists_eq_left', exists_eq_left, exists_and_left, and_assoc, exists_const, true_and, and_true, if_true, if_false, false_and, and_false, exists_false, false_or, or_false, true_implies, false_implies, implies_true, forall_eq, forall_eq', Bool.false_eq_true, if_neg, decide_eq_true_eq, Bool.not_eq_true', decide_eq_false_iff_not, Bool.not_true, Bool.not_false, List.length_cons, List.length_nil, sizeLine_eq, Nat.reduceAdd, Nat.reduceLeDiff, Nat.reduceLT, Int.reduceLT, Int.reduceLE, Int.emod_nonneg, ne_eq, Int.reduceEq, not_false_eq_true, not_true_eq_false]
          refine ⟨_, .inr (hW H), rfl, rfl, ?_⟩
          have ei : inV (.str z) [.str "send", .str "hand", .str "tell"] = (decide (z = "send") || decide (z = "hand") || decide (z = "tell")) := by
            have bd : ∀ u : Str, (u == z) = decide (z = u) := fun u => by
              rw [Bool.eq_iff_iff, beq_iff_eq, decide_eq_true_eq]
              exact eq_comm
            simp only [inV, List.any_cons, List.any_nil, eqV, bd, Bool.or_false, Bool.or_assoc]
          have es : stepV H (.ref a) = ((decide (z = "send") || decide (z = "hand") || decide (z = "tell")) && amongV a1 0 999999) := by
            unfold stepV
            dsimp only
            rw [hxs]
          rw [ei]
          cases hw : (decide (z = "send") || decide (z = "hand") || decide (z = "tell")) with
          | false =>
            rw [hw, Bool.false_and] at es
            exact no es
          | true =>
            rw [hw, Bool.true_and] at es
            refine h_a _ _ ?_
            simp only [RDa, RDb, RDv, RDk, RDx, RDe, RDd, RDp, RDq, List.getElem?_cons_zero, List.getElem?_cons_succ, List.set_cons_zero, List.set_cons_succ, List.cons.injEq, List.cons_ne_nil, reduceCtorEq, exists_eq_left', exists_eq_left, exists_and_left, and_assoc, exists_const, true_and, and_true, if_true, if_false, false_and, and_false, exists_false, false_or, or_false, true_implies, false_implies, implies_true, forall_eq, forall_eq', Bool.false_eq_true, if_neg, decide_eq_true_eq, Bool.not_eq_true', decide_eq_false_iff_not, Bool.not_true, Bool.not_false, List.length_cons, List.length_nil, sizeLine_eq, Nat.reduceAdd, Nat.reduceLeDiff, Nat.reduceLT, Int.reduceLT, Int.reduceLE, Int.emod_nonneg, ne_eq, Int.reduceEq, not_false_eq_true, not_true_eq_false, seqO_tup hxs, sp_is_among, k1]
            cases ha : amongV a1 0 999999 with
            | false => exact q2 (es.trans ha)
            | true => exact q1 (es.trans ha)
        · simp only [RDa, RDb, RDv, RDk, RDx, RDe, RDd, RDp, RDq, List.getElem?_cons_zero, List.getElem?_cons_succ, List.set_cons_zero, List.set_cons_succ, List.cons.injEq, List.cons_ne_nil, reduceCtorEq, exists_eq_left', exists_eq_left, exists_and_left, and_assoc, exists_const, true_and, and_true, if_true, if_false, false_and, and_false, exists_false, false_or, or_false, true_implies, false_implies, implies_true, forall_eq, forall_eq', Bool.false_eq_true, if_neg, decide_eq_true_eq, Bool.not_eq_true', decide_eq_false_iff_not, Bool.not_true, Bool.not_false, List.length_cons, List.length_nil, sizeLine_eq, Nat.reduceAdd, Nat.reduceLeDiff, Nat.reduceLT, Int.reduceLT, Int.reduceLE, Int.emod_nonneg, ne_eq, Int.reduceEq, not_false_eq_true, not_true_eq_false, ht']
          exact no (nz fun _ e => nomatch e)
        · simp only [RDa, RDb, RDv, RDk, RDx, RDe, RDd, RDp, RDq, List.getElem?_cons_zero, List.getElem?_cons_succ, List.set_cons_zero, List.set_cons_succ, List.cons.injEq, List.cons_ne_nil, reduceCtorEq, exists_eq_left', exists_eq_left, exists_and_left, and_assoc, exists_const, true_and, and_true, if_true, if_false, false_and, and_false, exists_false, false_or, or_false, true_implies, false_implies, implies_true, forall_eq, forall_eq', Bool.false_eq_true, if_neg, decide_eq_true_eq, Bool.not_eq_true', decide_eq_false_iff_not, Bool.not_true, Bool.not_false, List.length_cons, List.length_nil, sizeLine_eq, Nat.reduceAdd, Nat.reduceLeDiff, Nat.reduceLT, Int.reduceLT, Int.reduceLE, Int.emod_nonneg, ne_eq, Int.reduceEq, not_false_eq_true, not_true_eq_false, ht']
          exact no (nz fun _ e => nomatch e)
        · simp only [RDa, RDb, RDv, RDk, RDx, RDe, RDd, RDp, RDq, List.getElem?_cons_zero, List.getElem?_cons_succ, List.set_cons_zero, List.set_cons_succ, List.cons.injEq, List.cons_ne_nil, reduceCtorEq, exists_eq_left', exists_eq_left, exists_and_left, and_assoc, exists_const, true_and, and_true, if_true, if_false, false_and, and_false, exists_false, false_or, or_false, true_implies, false_implies, implies_true, forall_eq, forall_eq', Bool.false_eq_true, if_neg, decide_eq_true_eq, Bool.not_eq_true', decide_eq_false_iff_not, Bool.not_true, Bool.not_false, List.length_cons, List.length_nil, sizeLine_eq, Nat.reduceAdd, Nat.reduceLeDiff, Nat.reduceLT, Int.reduceLT, Int.reduceLE, Int.emod_nonneg, ne_eq, Int.reduceEq, not_false_eq_true, not_true_eq_false, ht']
          exact no (nz fun _ e => nomatch e)
    · rw [if_neg (by omega)]
      refine no ?_
      unfold stepV
      dsimp only
      rw [hxs]
      split
      · rename_i z y e
        have e2 := Option.some.inj e
        injection e2 with e3
        rw [e3] at l2
        exact absurd rfl l2
      · rfl
  · simp only [RDa, RDb, RDv, RDk, RDx, RDe, RDd, RDp, RDq, List.getElem?_cons_zero, List.getElem?_cons_succ, List.set_cons_zero, List.set_cons_succ, List.cons.injEq, List.cons_ne_nil, reduceCtorEq, exists_eq_left', exists_eq_left, exists_and_left, and_assoc, exists_const, true_and, and_true, if_true, if_false, false_and, and_false, exists_false, false_or, or_false, true_implies, false_implies, implies_true, forall_eq, forall_eq', Bool.false_eq_true, if_neg, decide_eq_true_eq, Bool.not_eq_true', decide_eq_false_iff_not, Bool.not_true, Bool.not_false, List.length_cons, List.length_nil, sizeLine_eq, Nat.reduceAdd, Nat.reduceLeDiff, Nat.reduceLT, Int.reduceLT, Int.reduceLE, Int.emod_nonneg, ne_eq, Int.reduceEq, not_false_eq_true, not_true_eq_false, ht]
    exact no (nst fun a' xs e h2 => by cases e; rw [tyN_tup h2] at ht; exact absurd ht (by decide))
/-- a step's word -/
def isWord (w : Str) : Prop := w = "send" ∨ w = "hand" ∨ w = "tell"
theorem isWord_len {w : Str} (h : isWord w) : w.cps.toList.length = 4 ∧ 32 ∉ w.cps.toList := by
  rcases h with rfl | rfl | rfl <;> decide +kernel
theorem stepV_parts {H : Hp} {x : V} (h : stepV H x = true) : ∃ a z n, x = .ref a ∧ H a = some (.tup [.str z, .int n]) ∧ isWord z ∧ 0 ≤ n ∧ n ≤ 999999 := by
  unfold stepV at h
  split at h
  · rename_i a
    split at h
    · rename_i z y e
      simp only [Bool.and_eq_true, Bool.or_eq_true, decide_eq_true_eq] at h
      obtain ⟨n, rfl, h1, h2⟩ := amongV_int h.2
      refine ⟨a, z, n, rfl, e, ?_, h1, h2⟩
      rcases h.1 with (h | h) | h
      · exact .inl h
      · exact .inr (.inl h)
      · exact .inr (.inr h)
    · cases h
  · cases h
end RP

namespace RP
open PySem PySem.Spec PyProof.Rows L2
/-- the attributes of a Sender -/
def flSender (a0 : Int) (a1 : Int) (a2 : Int) (a3 : Int) (a4 : Int) : List (Str × V) := [(("window" : Str), V.int a0), (("ring" : Str), V.int a1), (("many" : Str), V.int a2), (("base" : Str), V.int a3), (("top" : Str), V.int a4)]
abbrev SenderF (K : PySem.W.Frag) : Prop := Cls K (He.ga K "Sender") ∧ NoAttr K (He.ga K "Sender") "window" ∧ NoAttr K (He.ga K "Sender") "ring" ∧ NoAttr K (He.ga K "Sender") "many" ∧ NoAttr K (He.ga K "Sender") "base" ∧ NoAttr K (He.ga K "Sender") "top"
theorem flSender_inj (a0 : Int) (a1 : Int) (a2 : Int) (a3 : Int) (a4 : Int) (b0 : Int) (b1 : Int) (b2 : Int) (b3 : Int) (b4 : Int) : (flSender a0 a1 a2 a3 a4 = flSender b0 b1 b2 b3 b4) = (a0 = b0 ∧ a1 = b1 ∧ a2 = b2 ∧ a3 = b3 ∧ a4 = b4) := by
  simp only [flSender, List.cons.injEq, Prod.mk.injEq, V.int.injEq, V.ref.injEq, true_and, and_true]
theorem SenderL : (∀ (a0 : Int) (a1 : Int) (a2 : Int) (a3 : Int) (a4 : Int), (flSender a0 a1 a2 a3 a4).lookup ("window" : Str) = some (.int a0)) ∧
    (∀ (a0 : Int) (a1 : Int) (a2 : Int) (a3 : Int) (a4 : Int), (flSender a0 a1 a2 a3 a4).lookup ("ring" : Str) = some (.int a1)) ∧
    (∀ (a0 : Int) (a1 : Int) (a2 : Int) (a3 : Int) (a4 : Int), (flSender a0 a1 a2 a3 a4).lookup ("many" : Str) = some (.int a2)) ∧
    (∀ (a0 : Int) (a1 : Int) (a2 : Int) (a3 : Int) (a4 : Int), (flSender a0 a1 a2 a3 a4).lookup ("base" : Str) = some (.int a3)) ∧
    (∀ (a0 : Int) (a1 : Int) (a2 : Int) (a3 : Int) (a4 : Int), (flSender a0 a1 a2 a3 a4).lookup ("top" : Str) = some (.int a4)) ∧
    (∀ (a0 : Int) (a1 : Int) (a2 : Int) (a3 : Int) (a4 : Int), (flSender a0 a1 a2 a3 a4).lookup ("span" : Str) = none) ∧
    (∀ (a0 : Int) (a1 : Int) (a2 : Int) (a3 : Int) (a4 : Int), (flSender a0 a1 a2 a3 a4).lookup ("sent" : Str) = none) ∧
    (∀ (a0 : Int) (a1 : Int) (a2 : Int) (a3 : Int) (a4 : Int), (flSender a0 a1 a2 a3 a4).lookup ("heard" : Str) = none) ∧
    (∀ (a0 : Int) (a1 : Int) (a2 : Int) (a3 : Int) (a4 : Int), (flSender a0 a1 a2 a3 a4).length = 5) ∧
    (∀ (a0 : Int) (a1 : Int) (a2 : Int) (a3 : Int) (a4 : Int) (b0 : Int) (b1 : Int) (b2 : Int) (b3 : Int) (b4 : Int), (flSender a0 a1 a2 a3 a4 = flSender b0 b1 b2 b3 b4) = (a0 = b0 ∧ a1 = b1 ∧ a2 = b2 ∧ a3 = b3 ∧ a4 = b4)) ∧
    (∀ (a0 : Int) (a1 : Int) (a2 : Int) (a3 : Int) (a4 : Int) (y : Int), putF ("window" : Str) (.int y) (flSender a0 a1 a2 a3 a4) = flSender y a1 a2 a3 a4) ∧
    (∀ (a0 : Int) (a1 : Int) (a2 : Int) (a3 : Int) (a4 : Int) (y : Int), putF ("ring" : Str) (.int y) (flSender a0 a1 a2 a3 a4) = flSender a0 y a2 a3 a4) ∧
    (∀ (a0 : Int) (a1 : Int) (a2 : Int) (a3 : Int) (a4 : Int) (y : Int), putF ("many" : Str) (.int y) (flSender a0 a1 a2 a3 a4) = flSender a0 a1 y a3 a4) ∧
    (∀ (a0 : Int) (a1 : Int) (a2 : Int) (a3 : Int) (a4 : Int) (y : Int), putF ("base" : Str) (.int y) (flSender a0 a1 a2 a3 a4) = flSender a0 a1 a2 y a4) ∧
    (∀ (a0 : Int) (a1 : Int) (a2 : Int) (a3 : Int) (a4 : Int) (y : Int), putF ("top" : Str) (.int y) (flSender a0 a1 a2 a3 a4) = flSender a0 a1 a2 a3 y) := by
  refine ⟨?_, ?_, ?_, ?_, ?_, ?_, ?_, ?_, ?_, ?_, ?_, ?_, ?_, ?_, ?_⟩ <;> intros <;> first | rfl | exact flSender_inj .. | kernel_rfl
theorem SenderI : (∀  (v : V), putF ("window" : Str) v ([] : List (Str × V)) = [(("window" : Str), v)]) ∧
    (∀ (u0 : V) (v : V), putF ("ring" : Str) v ([(("window" : Str), u0)] : List (Str × V)) = [(("window" : Str), u0), (("ring" : Str), v)]) ∧
    (∀ (u0 : V) (u1 : V) (v : V), putF ("many" : Str) v ([(("window" : Str), u0), (("ring" : Str), u1)] : List (Str × V)) = [(("window" : Str), u0), (("ring" : Str), u1), (("many" : Str), v)]) ∧
    (∀ (u0 : V) (u1 : V) (u2 : V) (v : V), putF ("base" : Str) v ([(("window" : Str), u0), (("ring" : Str), u1), (("many" : Str), u2)] : List (Str × V)) = [(("window" : Str), u0), (("ring" : Str), u1), (("many" : Str), u2), (("base" : Str), v)]) ∧
    (∀ (a0 : Int) (a1 : Int) (a2 : Int) (a3 : Int) (a4 : Int), putF ("top" : Str) (.int a4) ([(("window" : Str), V.int a0), (("ring" : Str), V.int a1), (("many" : Str), V.int a2), (("base" : Str), V.int a3)] : List (Str × V)) = flSender a0 a1 a2 a3 a4) := by
  refine ⟨?_, ?_, ?_, ?_, ?_⟩ <;> intros <;> first | rfl | kernel_rfl
theorem upd_id {H : Hp} {p : Addr} {o : HO} (h : H p = some o) : upd H p o = H := by
  funext b
  unfold upd
  split
  · rename_i e
    rw [e, h]
  · rfl
abbrev s_Sender_init : Stmt := inClass (top 25) 0
abbrev N_Sender_init : List Str := ["self", "window", "ring", "many"]
theorem sc_Sender_init : FnScope N_Sender_init ["self", "window", "ring", "many"] (defScope s_Sender_init) := ⟨rfl, rfl, rfl, by decide +kernel, rfl, by decide +kernel, by decide +kernel⟩
def sp_Sender_init (K : PySem.W.Frag) : Sp := fun vs H Q _ => ∃ p dx w r m, vs = [.ref p, .int w, .int r, .int m] ∧ H p = some (.ins (He.ga K "Sender") dx []) ∧ Q .non (upd H p (.ins (He.ga K "Sender") dx (flSender w r m 0 0)))
theorem ok_Sender_init {P : Program} {w : World} {K : PySem.W.Frag} {mg : Str → Option Value} {base : Heap} (F : FnP K ("Sender", some "__init__") "__init__" "Sender.__init__" s_Sender_init) (hm : mg "Sender" = some (.ref (He.ga K "Sender"))) (hmk : Mk K (He.ga K "Sender") (He.ma K (He.ga K "Sender") "__init__")) (bl : Blt mg) (hSender : SenderF K) : KCal P w K mg base 1 "Sender" (He.ga K "Sender") (sp_Sender_init K) := by
  refine fn_kcal F hm hmk sc_Sender_init (fun vs H Q E => by walk_at "len") (fun _ _ _ _ _ _ us hl => match us, hl with | [_, _, _, _], _ => rfl) (fun f cdv A outer s H vs Q E hr h => ?_)
  have hu := hu_of hr
  obtain ⟨p, dx, w', r, m, rfl, hp, q⟩ := h
  refine ⟨_, (pss_cons (ps_fld (pv 0) (pv 1) rfl)
  (pss_cons (ps_fld (pv 0) (pv 2) rfl)
  (pss_cons (ps_fld (pv 0) (pv 3) rfl)
  (pss_cons (ps_fld (pv 0) pe_int rfl)
  (pss_one (ps_fld (pv 0) pe_int rfl)))))), ?_⟩
  walk_at "st0"
  simp only [RDa, RDb, RDv, RDk, RDx, RDe, RDd, RDp, RDq, List.getElem?_cons_zero, List.getElem?_cons_succ, List.set_cons_zero, List.set_cons_succ, List.cons.injEq, List.cons_ne_nil, reduceCtorEq, exists_eq_left', exists_eq_left, exists_and_left, and_assoc, exists_const, true_and, and_true, if_true, if_false, false_and, and_false, exists_false, false_or, or_false, true_implies, false_implies, implies_true, forall_eq, forall_eq', Bool.false_eq_true, if_neg, decide_eq_true_eq, Bool.not_eq_true', decide_eq_false_iff_not, Bool.not_true, Bool.not_false, List.length_cons, List.length_nil, sizeLine_eq, Nat.reduceAdd, Nat.reduceLeDiff, Nat.reduceLT, Int.reduceLT, Int.reduceLE, Int.emod_nonneg, ne_eq, Int.reduceEq, not_false_eq_true, not_true_eq_false, hSender, SenderI, hp, upd_same, upd_upd]
  exact q
abbrev s_Sender_span : Stmt := inClass (top 25) 1
abbrev N_Sender_span : List Str := ["self"]
theorem sc_Sender_span : FnScope N_Sender_span ["self"] (defScope s_Sender_span) := ⟨rfl, rfl, rfl, by decide +kernel, rfl, by decide +kernel, by decide +kernel⟩
def sp_Sender_span (K : PySem.W.Frag) : Sp := fun vs H Q _ => ∃ p dx w r m b t, vs = [.ref p] ∧ H p = some (.ins (He.ga K "Sender") dx (flSender w r m b t)) ∧ ∀ q, H q = none → Q (.ref q) (upd H q (.tup [.int b, .int t]))
theorem ok_Sender_span {P : Program} {w : World} {K : PySem.W.Frag} {mg : Str → Option Value} {base : Heap} (F : FnP K ("Sender", some "span") "span" "Sender.span" s_Sender_span) (hc : Cls K (He.ga K "Sender")) (hm : Meth K (He.ga K "Sender") "span" (He.ma K (He.ga K "Sender") "span")) (bl : Blt mg) (hSender : SenderF K) : MCal P w K mg base 1 (He.ga K "Sender") "span" (sp_Sender_span K) := by
  refine fn_mcal F hc hm sc_Sender_span (fun vs H Q E => by walk_at "len") (fun _ _ _ _ _ _ us hl => match us, hl with | [_], _ => rfl) (fun f cdv A outer s H vs Q E hr h => ?_)
  have hu := hu_of hr
  obtain ⟨p, dx, w', r, m, b, t, rfl, hp, q⟩ := h
  refine ⟨_, (pss_one (ps_ret (pe_tup (pa_cons (pe_fld (pv 0) rfl) (pa_cons (pe_fld (pv 0) rfl) pa_nil))))), ?_⟩
  walk_at "st0"
  simp only [RDa, RDb, RDv, RDk, RDx, RDe, RDd, RDp, RDq, List.getElem?_cons_zero, List.getElem?_cons_succ, List.set_cons_zero, List.set_cons_succ, List.cons.injEq, List.cons_ne_nil, reduceCtorEq, exists_eq_left', exists_eq_left, exists_and_left, and_assoc, exists_const, true_and, and_true, if_true, if_false, false_and, and_false, exists_false, false_or, or_false, true_implies, false_implies, implies_true, forall_eq, forall_eq', Bool.false_eq_true, if_neg, decide_eq_true_eq, Bool.not_eq_true', decide_eq_false_iff_not, Bool.not_true, Bool.not_false, List.length_cons, List.length_nil, sizeLine_eq, Nat.reduceAdd, Nat.reduceLeDiff, Nat.reduceLT, Int.reduceLT, Int.reduceLE, Int.emod_nonneg, ne_eq, Int.reduceEq, not_false_eq_true, not_true_eq_false, hSender, SenderL, hp, upd_same, upd_upd]
  exact q
def sTop (t k : Int) : Int := if k = t then t + 1 else t
abbrev s_Sender_sent : Stmt := inClass (top 25) 2
abbrev N_Sender_sent : List Str := ["self", "k", "last"]
theorem sc_Sender_sent : FnScope N_Sender_sent ["self", "k"] (defScope s_Sender_sent) := ⟨rfl, rfl, rfl, by decide +kernel, rfl, by decide +kernel, by decide +kernel⟩
def sp_Sender_sent (K : PySem.W.Frag) : Sp := fun vs H Q E => ∃ p dx w r m b t x, vs = [.ref p, x] ∧ H p = some (.ins (He.ga K "Sender") dx (flSender w r m b t)) ∧ 0 < r ∧ Kn H x ∧
  (amongV x b (mn2 (mn2 t (b + w - 1)) (m - 1)) = true → ∀ k, x = .int k → Q (.int (k % r)) (upd H p (.ins (He.ga K "Sender") dx (flSender w r m b (sTop t k))))) ∧
  (amongV x b (mn2 (mn2 t (b + w - 1)) (m - 1)) = false → E (.ref (He.ga K "NotNow")) none H)
theorem ok_Sender_sent {P : Program} {w : World} {K : PySem.W.Frag} {mg : Str → Option Value} {base : Heap} (F : FnP K ("Sender", some "sent") "sent" "Sender.sent" s_Sender_sent) (hc : Cls K (He.ga K "Sender")) (hm : Meth K (He.ga K "Sender") "sent" (He.ma K (He.ga K "Sender") "sent")) (bl : Blt mg) (hSender : SenderF K) (c_is_among : Cal P w K mg base 1 "is_among" (sp_is_among K)) (e_NotNow : ErrC K mg "NotNow") : MCal P w K mg base 2 (He.ga K "Sender") "sent" (sp_Sender_sent K) := by
  refine fn_mcal F hc hm sc_Sender_sent (fun vs H Q E => by walk_at "len") (fun _ _ _ _ _ _ us hl => match us, hl with | [_, _], _ => rfl) (fun f cdv A outer s H vs Q E hr h => ?_)
  have hu := hu_of hr
  obtain ⟨p, dx, w', r, m, b, t, x, rfl, hp, hr0, hk, q1, q2⟩ := h
  refine ⟨_, (pss_cons (ps_set (i := 2) sc_Sender_sent.nd rfl (Or.inl rfl) (pe_callB (call_min3 rfl) (by rfl) (bl.min) (by decide +kernel) (pa_cons (pe_fld (pv 0) rfl) (pa_cons (pe_op op_sub (pe_op op_add (pe_fld (pv 0) rfl) (pe_fld (pv 0) rfl)) pe_int) (pa_cons (pe_op op_sub (pe_fld (pv 0) rfl) pe_int) pa_nil)))))
  (pss_cons (ps_if (pt_not (pt_val (pe_fn c_is_among (hr.mono (by decide)) (L2N.takes_of rfl rfl rfl rfl) (pa_cons (pv 1) (pa_cons (pe_fld (pv 0) rfl) (pa_cons (pv 2) pa_nil))))))
  (pss_one (L2N.ps_raise rfl (L2N.takes_of rfl rfl rfl rfl) (L2N.pmk_own PySem.F.excBase_ValueError e_NotNow.ex e_NotNow.g e_NotNow.k (raises_own e_NotNow.s e_NotNow.t) rfl)))
  pss_nil)
  (pss_cons (ps_if (pt_cmpR op_eq (pv 1) (pe_fld (pv 0) rfl) (nomark _))
  (pss_one (ps_fld (pv 0) (pe_op op_add (pe_fld (pv 0) rfl) pe_int) rfl))
  pss_nil)
  (pss_one (ps_ret (pe_op op_mod (pv 1) (pe_fld (pv 0) rfl))))))), ?_⟩
  walk_at "st0"
  simp only [RDa, RDb, RDv, RDk, RDx, RDe, RDd, RDp, RDq, List.getElem?_cons_zero, List.getElem?_cons_succ, List.set_cons_zero, List.set_cons_succ, List.cons.injEq, List.cons_ne_nil, reduceCtorEq, exists_eq_left', exists_eq_left, exists_and_left, and_assoc, exists_const, true_and, and_true, if_true, if_false, false_and, and_false, exists_false, false_or, or_false, true_implies, false_implies, implies_true, forall_eq, forall_eq', Bool.false_eq_true, if_neg, decide_eq_true_eq, Bool.not_eq_true', decide_eq_false_iff_not, Bool.not_true, Bool.not_false, List.length_cons, List.length_nil, sizeLine_eq, Nat.reduceAdd, Nat.reduceLeDiff, Nat.reduceLT, Int.reduceLT, Int.reduceLE, Int.emod_nonneg, ne_eq, Int.reduceEq, not_false_eq_true, not_true_eq_false, hSender, SenderL, hp, upd_same, upd_upd, sp_is_among, hk]
  cases ha : amongV x b (mn2 (mn2 t (b + w' - 1)) (m - 1)) with
  | false => exact q2 ha
  | true =>
    obtain ⟨k, rfl⟩ : ∃ k, x = .int k := by
      cases x <;> simp only [amongV, Bool.false_eq_true, reduceCtorEq] at ha
      exact ⟨_, rfl⟩
    have q := q1 ha k rfl
    unfold sTop at q
    simp only [RDa, RDb, RDv, RDk, RDx, RDe, RDd, RDp, RDq, List.getElem?_cons_zero, List.getElem?_cons_succ, List.set_cons_zero, List.set_cons_succ, List.cons.injEq, List.cons_ne_nil, reduceCtorEq, exists_eq_left', exists_eq_left, exists_and_left, and_assoc, exists_const, true_and, and_true, if_true, if_false, false_and, and_false, exists_false, false_or, or_false, true_implies, false_implies, implies_true, forall_eq, forall_eq', Bool.false_eq_true, if_neg, decide_eq_true_eq, Bool.not_eq_true', decide_eq_false_iff_not, Bool.not_true, Bool.not_false, List.length_cons, List.length_nil, sizeLine_eq, Nat.reduceAdd, Nat.reduceLeDiff, Nat.reduceLT, Int.reduceLT, Int.reduceLE, Int.emod_nonneg, ne_eq, Int.reduceEq, not_false_eq_true, not_true_eq_false, hr0]
    by_cases e : k = t
    · rw [if_pos e] at q ⊢
      exact q
    · rw [if_neg e] at q ⊢
      rw [upd_id hp] at q
      exact q
/-- the base behind an answer -/
def sBase (b t r n : Int) : Int := if b + (n - b) % r ≤ t then b + (n - b) % r else b
abbrev s_Sender_heard : Stmt := inClass (top 25) 3
abbrev N_Sender_heard : List Str := ["self", "number", "step"]
theorem sc_Sender_heard : FnScope N_Sender_heard ["self", "number"] (defScope s_Sender_heard) := ⟨rfl, rfl, rfl, by decide +kernel, rfl, by decide +kernel, by decide +kernel⟩
def sp_Sender_heard (K : PySem.W.Frag) : Sp := fun vs H Q E => ∃ p dx w r m b t n, vs = [.ref p, .int n] ∧ H p = some (.ins (He.ga K "Sender") dx (flSender w r m b t)) ∧ 0 < r ∧
  Q .non (upd H p (.ins (He.ga K "Sender") dx (flSender w r m (sBase b t r n) t)))
theorem ok_Sender_heard {P : Program} {w : World} {K : PySem.W.Frag} {mg : Str → Option Value} {base : Heap} (F : FnP K ("Sender", some "heard") "heard" "Sender.heard" s_Sender_heard) (hc : Cls K (He.ga K "Sender")) (hm : Meth K (He.ga K "Sender") "heard" (He.ma K (He.ga K "Sender") "heard")) (bl : Blt mg) (hSender : SenderF K) : MCal P w K mg base 1 (He.ga K "Sender") "heard" (sp_Sender_heard K) := by
  refine fn_mcal F hc hm sc_Sender_heard (fun vs H Q E => by walk_at "len") (fun _ _ _ _ _ _ us hl => match us, hl with | [_, _], _ => rfl) (fun f cdv A outer s H vs Q E hr h => ?_)
  have hu := hu_of hr
  obtain ⟨p, dx, w', r, m, b, t, n, rfl, hp, hr0, q⟩ := h
  refine ⟨_, (pss_cons (ps_set (i := 2) sc_Sender_heard.nd rfl (Or.inl rfl) (pe_op op_mod (pe_op op_sub (pv 1) (pe_fld (pv 0) rfl)) (pe_fld (pv 0) rfl)))
  (pss_one (ps_if (pt_cmpR op_le (pe_op op_add (pe_fld (pv 0) rfl) (pv 2)) (pe_fld (pv 0) rfl) (nomark _))
  (pss_one (ps_fld (pv 0) (pe_op op_add (pe_fld (pv 0) rfl) (pv 2)) rfl))
  pss_nil))), ?_⟩
  walk_at "st0"
  simp only [RDa, RDb, RDv, RDk, RDx, RDe, RDd, RDp, RDq, List.getElem?_cons_zero, List.getElem?_cons_succ, List.set_cons_zero, List.set_cons_succ, List.cons.injEq, List.cons_ne_nil, reduceCtorEq, exists_eq_left', exists_eq_left, exists_and_left, and_assoc, exists_const, true_and, and_true, if_true, if_false, false_and, and_false, exists_false, false_or, or_false, true_implies, false_implies, implies_true, forall_eq, forall_eq', Bool.false_eq_true, if_neg, decide_eq_true_eq, Bool.not_eq_true', decide_eq_false_iff_not, Bool.not_true, Bool.not_false, List.length_cons, List.length_nil, sizeLine_eq, Nat.reduceAdd, Nat.reduceLeDiff, Nat.reduceLT, Int.reduceLT, Int.reduceLE, Int.emod_nonneg, ne_eq, Int.reduceEq, not_false_eq_true, not_true_eq_false, hSender, SenderL, hp, upd_same, upd_upd, hr0]
  unfold sBase at q
  by_cases e : b + (n - b) % r ≤ t
  · rw [if_pos e] at q ⊢
    exact q
  · rw [if_neg e] at q ⊢
    rw [upd_id hp] at q
    exact q
end RP

namespace RP
open PySem PySem.Spec PyProof.Rows L2
/-- the attributes of a Taker -/
def flTaker (a0 : Int) (a1 : Int) (a2 : Int) (a3 : Addr) (a4 : Addr) : List (Str × V) := [(("room" : Str), V.int a0), (("ring" : Str), V.int a1), (("wanted" : Str), V.int a2), (("texts" : Str), V.ref a3), (("held" : Str), V.ref a4)]
abbrev TakerF (K : PySem.W.Frag) : Prop := Cls K (He.ga K "Taker") ∧ NoAttr K (He.ga K "Taker") "room" ∧ NoAttr K (He.ga K "Taker") "ring" ∧ NoAttr K (He.ga K "Taker") "wanted" ∧ NoAttr K (He.ga K "Taker") "texts" ∧ NoAttr K (He.ga K "Taker") "held"
theorem flTaker_inj (a0 : Int) (a1 : Int) (a2 : Int) (a3 : Addr) (a4 : Addr) (b0 : Int) (b1 : Int) (b2 : Int) (b3 : Addr) (b4 : Addr) : (flTaker a0 a1 a2 a3 a4 = flTaker b0 b1 b2 b3 b4) = (a0 = b0 ∧ a1 = b1 ∧ a2 = b2 ∧ a3 = b3 ∧ a4 = b4) := by
  simp only [flTaker, List.cons.injEq, Prod.mk.injEq, V.int.injEq, V.ref.injEq, true_and, and_true]
theorem TakerL : (∀ (a0 : Int) (a1 : Int) (a2 : Int) (a3 : Addr) (a4 : Addr), (flTaker a0 a1 a2 a3 a4).lookup ("room" : Str) = some (.int a0)) ∧
    (∀ (a0 : Int) (a1 : Int) (a2 : Int) (a3 : Addr) (a4 : Addr), (flTaker a0 a1 a2 a3 a4).lookup ("ring" : Str) = some (.int a1)) ∧
    (∀ (a0 : Int) (a1 : Int) (a2 : Int) (a3 : Addr) (a4 : Addr), (flTaker a0 a1 a2 a3 a4).lookup ("wanted" : Str) = some (.int a2)) ∧
    (∀ (a0 : Int) (a1 : Int) (a2 : Int) (a3 : Addr) (a4 : Addr), (flTaker a0 a1 a2 a3 a4).lookup ("texts" : Str) = some (.ref a3)) ∧
    (∀ (a0 : Int) (a1 : Int) (a2 : Int) (a3 : Addr) (a4 : Addr), (flTaker a0 a1 a2 a3 a4).lookup ("held" : Str) = some (.ref a4)) ∧
    (∀ (a0 : Int) (a1 : Int) (a2 : Int) (a3 : Addr) (a4 : Addr), (flTaker a0 a1 a2 a3 a4).lookup ("want" : Str) = none) ∧
    (∀ (a0 : Int) (a1 : Int) (a2 : Int) (a3 : Addr) (a4 : Addr), (flTaker a0 a1 a2 a3 a4).lookup ("gone" : Str) = none) ∧
    (∀ (a0 : Int) (a1 : Int) (a2 : Int) (a3 : Addr) (a4 : Addr), (flTaker a0 a1 a2 a3 a4).lookup ("kept" : Str) = none) ∧
    (∀ (a0 : Int) (a1 : Int) (a2 : Int) (a3 : Addr) (a4 : Addr), (flTaker a0 a1 a2 a3 a4).lookup ("came" : Str) = none) ∧
    (∀ (a0 : Int) (a1 : Int) (a2 : Int) (a3 : Addr) (a4 : Addr), (flTaker a0 a1 a2 a3 a4).length = 5) ∧
    (∀ (a0 : Int) (a1 : Int) (a2 : Int) (a3 : Addr) (a4 : Addr) (b0 : Int) (b1 : Int) (b2 : Int) (b3 : Addr) (b4 : Addr), (flTaker a0 a1 a2 a3 a4 = flTaker b0 b1 b2 b3 b4) = (a0 = b0 ∧ a1 = b1 ∧ a2 = b2 ∧ a3 = b3 ∧ a4 = b4)) ∧
    (∀ (a0 : Int) (a1 : Int) (a2 : Int) (a3 : Addr) (a4 : Addr) (y : Int), putF ("room" : Str) (.int y) (flTaker a0 a1 a2 a3 a4) = flTaker y a1 a2 a3 a4) ∧
    (∀ (a0 : Int) (a1 : Int) (a2 : Int) (a3 : Addr) (a4 : Addr) (y : Int), putF ("ring" : Str) (.int y) (flTaker a0 a1 a2 a3 a4) = flTaker a0 y a2 a3 a4) ∧
    (∀ (a0 : Int) (a1 : Int) (a2 : Int) (a3 : Addr) (a4 : Addr) (y : Int), putF ("wanted" : Str) (.int y) (flTaker a0 a1 a2 a3 a4) = flTaker a0 a1 y a3 a4) ∧
    (∀ (a0 : Int) (a1 : Int) (a2 : Int) (a3 : Addr) (a4 : Addr) (y : Addr), putF ("texts" : Str) (.ref y) (flTaker a0 a1 a2 a3 a4) = flTaker a0 a1 a2 y a4) ∧
    (∀ (a0 : Int) (a1 : Int) (a2 : Int) (a3 : Addr) (a4 : Addr) (y : Addr), putF ("held" : Str) (.ref y) (flTaker a0 a1 a2 a3 a4) = flTaker a0 a1 a2 a3 y) := by
  refine ⟨?_, ?_, ?_, ?_, ?_, ?_, ?_, ?_, ?_, ?_, ?_, ?_, ?_, ?_, ?_, ?_⟩ <;> intros <;> first | rfl | exact flTaker_inj .. | kernel_rfl
theorem TakerI : (∀  (v : V), putF ("room" : Str) v ([] : List (Str × V)) = [(("room" : Str), v)]) ∧
    (∀ (u0 : V) (v : V), putF ("ring" : Str) v ([(("room" : Str), u0)] : List (Str × V)) = [(("room" : Str), u0), (("ring" : Str), v)]) ∧
    (∀ (u0 : V) (u1 : V) (v : V), putF ("wanted" : Str) v ([(("room" : Str), u0), (("ring" : Str), u1)] : List (Str × V)) = [(("room" : Str), u0), (("ring" : Str), u1), (("wanted" : Str), v)]) ∧
    (∀ (u0 : V) (u1 : V) (u2 : V) (v : V), putF ("texts" : Str) v ([(("room" : Str), u0), (("ring" : Str), u1), (("wanted" : Str), u2)] : List (Str × V)) = [(("room" : Str), u0), (("ring" : Str), u1), (("wanted" : Str), u2), (("texts" : Str), v)]) ∧
    (∀ (a0 : Int) (a1 : Int) (a2 : Int) (a3 : Addr) (a4 : Addr), putF ("held" : Str) (.ref a4) ([(("room" : Str), V.int a0), (("ring" : Str), V.int a1), (("wanted" : Str), V.int a2), (("texts" : Str), V.ref a3)] : List (Str × V)) = flTaker a0 a1 a2 a3 a4) := by
  refine ⟨?_, ?_, ?_, ?_, ?_⟩ <;> intros <;> first | rfl | kernel_rfl
/-! #### what a taker keeps, by plain lists -/
def hget (hd : List (Int × Str)) (k : Int) : Option Str := (hd.find? fun p => decide (p.1 = k)).map (·.2)
def hdrop (hd : List (Int × Str)) (k : Int) : List (Int × Str) := hd.filter fun p => decide (p.1 ≠ k)
def kvs (hd : List (Int × Str)) : List (Key × V) := hd.map fun p => (Sum.inl p.1, V.str p.2)
theorem kvs_get (hd : List (Int × Str)) (k : Int) : valV (kvs hd) (Sum.inl k : Key) = (hget hd k).map V.str := by
  induction hd with
  | nil => rfl
  | cons p r ih =>
    by_cases e : p.1 = k
    · have e1 : valV (kvs (p :: r)) (Sum.inl k : Key) = some (.str p.2) := valV_pos (by show (Sum.inl p.1 : Key) = Sum.inl k; rw [e])
      rw [e1]
      unfold hget
      rw [List.find?_cons, decide_eq_true e]
      rfl
    · have e1 : valV (kvs (p :: r)) (Sum.inl k : Key) = valV (kvs r) (Sum.inl k : Key) := valV_neg (by show ¬ (Sum.inl p.1 : Key) = Sum.inl k; simp [e])
      rw [e1, ih]
      unfold hget
      rw [List.find?_cons, decide_eq_false e]
theorem kvs_drop (hd : List (Int × Str)) (k : Int) : dropK (kvs hd) (Sum.inl k : Key) = kvs (hdrop hd k) := by
  unfold dropK kvs hdrop
  rw [List.filter_map]
  congr 1
  refine List.filter_congr fun p _ => ?_
  show decide ((Sum.inl p.1 : Key) ≠ Sum.inl k) = decide (p.1 ≠ k)
  simp
theorem kvs_put {hd : List (Int × Str)} {k : Int} (x : Str) (h : hget hd k = none) : putK (kvs hd) (Sum.inl k : Key) (.str x) = kvs (hd ++ [(k, x)]) := by
  rw [putK_new _ (by rw [kvs_get, h]; rfl)]
  unfold kvs
  rw [List.map_append]
  rfl
theorem kvs_length (hd : List (Int × Str)) : (kvs hd).length = hd.length := List.length_map ..
theorem kvs_keys (hd : List (Int × Str)) : (kvs hd).map (·.1) = (hd.map (·.1)).map Sum.inl := by
  unfold kvs
  rw [List.map_map, List.map_map]
  rfl
theorem hdrop_lt {hd : List (Int × Str)} {k : Int} {x : Str} (h : hget hd k = some x) : (hdrop hd k).length < hd.length := by
  unfold hget at h
  obtain ⟨p, e, _⟩ := Option.map_eq_some_iff.mp h
  have m := List.mem_of_find?_eq_some e
  have pk := List.find?_some e
  refine Nat.lt_of_le_of_ne (List.length_filter_le _ _) fun e2 => ?_
  have := List.length_filter_eq_length_iff.mp e2 p m
  simp only [decide_eq_true_eq] at pk this
  exact this pk
def drain : Nat → Int → List Str → List (Int × Str) → Int × List Str × List (Int × Str)
  | 0, w, g, h => (w, g, h)
  | f + 1, w, g, h => match hget h w with
    | some x => drain f (w + 1) (g ++ [x]) (hdrop h w)
    | none => (w, g, h)
theorem drain_fuel : ∀ (f f' : Nat) (w : Int) (g : List Str) (h : List (Int × Str)), h.length ≤ f → h.length ≤ f' → drain f w g h = drain f' w g h
  | 0, 0, _, _, _, _, _ => rfl
  | 0, f' + 1, w, g, h, l, _ => by
    have e : h = [] := List.length_eq_zero_iff.mp (Nat.le_zero.mp l)
    subst e
    rfl
  | f + 1, 0, w, g, h, _, l => by
    have e : h = [] := List.length_eq_zero_iff.mp (Nat.le_zero.mp l)
    subst e
    rfl
  | f + 1, f' + 1, w, g, h, l1, l2 => by
    unfold drain
    cases e : hget h w with
    | none => rfl
    | some x =>
      have := hdrop_lt e
      exact drain_fuel f f' _ _ _ (by omega) (by omega)
/-- all that can come out, comes out -/
def drained (w : Int) (g : List Str) (h : List (Int × Str)) : Int × List Str × List (Int × Str) := drain h.length w g h
theorem drained_some {w : Int} {g : List Str} {h : List (Int × Str)} {x : Str} (e : hget h w = some x) : drained w g h = drained (w + 1) (g ++ [x]) (hdrop h w) := by
  have l := hdrop_lt e
  obtain ⟨f, hf⟩ : ∃ f, h.length = f + 1 := ⟨h.length - 1, by omega⟩
  unfold drained
  rw [hf]
  conv => lhs; unfold drain
  rw [e]
  exact drain_fuel _ _ _ _ _ (by omega) (Nat.le_refl _)
theorem drained_none {w : Int} {g : List Str} {h : List (Int × Str)} (e : hget h w = none) : drained w g h = (w, g, h) := by
  unfold drained
  cases h with
  | nil => rfl
  | cons p r =>
    unfold List.length drain
    rw [e]
def tkPut (room ring w : Int) (hd : List (Int × Str)) (n : Int) (x : Str) : List (Int × Str) :=
  if (n - w) % ring < room ∧ hget hd (w + (n - w) % ring) = none then hd ++ [(w + (n - w) % ring, x)] else hd
theorem tkPut_le (room ring w : Int) (hd : List (Int × Str)) (n : Int) (x : Str) : (tkPut room ring w hd n x).length ≤ hd.length + 1 := by
  unfold tkPut
  split
  · rw [List.length_append]; exact Nat.le_refl _
  · omega
structure TkAt (K : PySem.W.Frag) (H : Hp) (p tx hx : Addr) (room ring w : Int) (g : List Str) (hd : List (Int × Str)) : Prop where
  ins : ∃ dx, H p = some (.ins (He.ga K "Taker") dx (flTaker room ring w tx hx))
  txt : H tx = some (.lst (g.map V.str))
  hel : H hx = some (.dK (kvs hd))
theorem TkAt.fr {K : PySem.W.Frag} {H H1 : Hp} {p tx hx : Addr} {room ring w : Int} {g : List Str} {hd : List (Int × Str)} {A : List Addr} (t : TkAt K H p tx hx room ring w g hd) (f : Fr A H H1) (h1 : p ∉ A) (h2 : tx ∉ A) (h3 : hx ∉ A) : TkAt K H1 p tx hx room ring w g hd :=
  ⟨t.ins.elim fun dx e => ⟨dx, f _ _ h1 e⟩, f _ _ h2 t.txt, f _ _ h3 t.hel⟩
theorem TkAt.same {K : PySem.W.Frag} {H H1 : Hp} {p tx hx : Addr} {room ring w : Int} {g : List Str} {hd : List (Int × Str)} (t : TkAt K H p tx hx room ring w g hd) (f : Same H H1) : TkAt K H1 p tx hx room ring w g hd :=
  ⟨t.ins.elim fun dx e => ⟨dx, f _ _ e⟩, f _ _ t.txt, f _ _ t.hel⟩
theorem TkAt.ne {K : PySem.W.Frag} {H : Hp} {p tx hx : Addr} {room ring w : Int} {g : List Str} {hd : List (Int × Str)} (t : TkAt K H p tx hx room ring w g hd) : p ≠ tx ∧ p ≠ hx ∧ tx ≠ hx := by
  obtain ⟨dx, e⟩ := t.ins
  exact ⟨ne_of_obj e t.txt (by simp), ne_of_obj e t.hel (by simp), ne_of_obj t.txt t.hel (by simp)⟩
abbrev s_Taker_init : Stmt := inClass (top 26) 0
abbrev N_Taker_init : List Str := ["self", "room", "ring"]
theorem sc_Taker_init : FnScope N_Taker_init ["self", "room", "ring"] (defScope s_Taker_init) := ⟨rfl, rfl, rfl, by decide +kernel, rfl, by decide +kernel, by decide +kernel⟩
def sp_Taker_init (K : PySem.W.Frag) : Sp := fun vs H Q _ => ∃ p dx w r, vs = [.ref p, .int w, .int r] ∧ H p = some (.ins (He.ga K "Taker") dx []) ∧
  ∀ tx hx H', H tx = none → H hx = none → Fr [p] H H' → TkAt K H' p tx hx w r 0 [] [] → Q .non H'
theorem ok_Taker_init {P : Program} {w : World} {K : PySem.W.Frag} {mg : Str → Option Value} {base : Heap} (F : FnP K ("Taker", some "__init__") "__init__" "Taker.__init__" s_Taker_init) (hm : mg "Taker" = some (.ref (He.ga K "Taker"))) (hmk : Mk K (He.ga K "Taker") (He.ma K (He.ga K "Taker") "__init__")) (bl : Blt mg) (hTaker : TakerF K) : KCal P w K mg base 1 "Taker" (He.ga K "Taker") (sp_Taker_init K) := by
  refine fn_kcal F hm hmk sc_Taker_init (fun vs H Q E => by walk_at "len") (fun _ _ _ _ _ _ us hl => match us, hl with | [_, _, _], _ => rfl) (fun f cdv A outer s H vs Q E hr h => ?_)
  have hu := hu_of hr
  obtain ⟨p, dx, w', r, rfl, hp, q⟩ := h
  refine ⟨_, (pss_cons (ps_fld (pv 0) (pv 1) rfl)
  (pss_cons (ps_fld (pv 0) (pv 2) rfl)
  (pss_cons (ps_fld (pv 0) pe_int rfl)
  (pss_cons (ps_fld (pv 0) (pe_lst pa_nil) rfl)
  (pss_one (ps_fld (pv 0) pe_dnewK rfl)))))), ?_⟩
  walk_at "st0"
  simp only [RDa, RDb, RDv, RDk, RDx, RDe, RDd, RDp, RDq, List.getElem?_cons_zero, List.getElem?_cons_succ, List.set_cons_zero, List.set_cons_succ, List.cons.injEq, List.cons_ne_nil, reduceCtorEq, exists_eq_left', exists_eq_left, exists_and_left, and_assoc, exists_const, true_and, and_true, if_true, if_false, false_and, and_false, exists_false, false_or, or_false, true_implies, false_implies, implies_true, forall_eq, forall_eq', Bool.false_eq_true, if_neg, decide_eq_true_eq, Bool.not_eq_true', decide_eq_false_iff_not, Bool.not_true, Bool.not_false, List.length_cons, List.length_nil, sizeLine_eq, Nat.reduceAdd, Nat.reduceLeDiff, Nat.reduceLT, Int.reduceLT, Int.reduceLE, Int.emod_nonneg, ne_eq, Int.reduceEq, not_false_eq_true, not_true_eq_false, hTaker, TakerI, hp, upd_same, upd_upd]
  intro tx n1
  have e1 : tx ≠ p := fun e => by rw [e, upd_same] at n1; cases n1
  rw [upd_ne e1] at n1
  refine ⟨_, dx, _, (upd_ne (Ne.symm e1)).trans upd_same, hTaker.1, hTaker.2.2.2.2.1, by simp, ?_⟩
  simp only [RDa, RDb, RDv, RDk, RDx, RDe, RDd, RDp, RDq, List.getElem?_cons_zero, List.getElem?_cons_succ, List.set_cons_zero, List.set_cons_succ, List.cons.injEq, List.cons_ne_nil, reduceCtorEq, exists_eq_left', exists_eq_left, exists_and_left, and_assoc, exists_const, true_and, and_true, if_true, if_false, false_and, and_false, exists_false, false_or, or_false, true_implies, false_implies, implies_true, forall_eq, forall_eq', Bool.false_eq_true, if_neg, decide_eq_true_eq, Bool.not_eq_true', decide_eq_false_iff_not, Bool.not_true, Bool.not_false, List.length_cons, List.length_nil, sizeLine_eq, Nat.reduceAdd, Nat.reduceLeDiff, Nat.reduceLT, Int.reduceLT, Int.reduceLE, Int.emod_nonneg, ne_eq, Int.reduceEq, not_false_eq_true, not_true_eq_false, hTaker, TakerI, upd_same, upd_upd]
  intro hx n2
  have e2 : hx ≠ p := fun e => by rw [e, upd_same] at n2; cases n2
  rw [upd_ne e2] at n2
  have e3 : hx ≠ tx := fun e => by rw [e, upd_same] at n2; cases n2
  rw [upd_ne e3, upd_ne e2] at n2
  refine ⟨_, dx, _, (upd_ne (Ne.symm e2)).trans upd_same, hTaker.1, hTaker.2.2.2.2.2, by simp, ?_⟩
  simp only [RDa, RDb, RDv, RDk, RDx, RDe, RDd, RDp, RDq, List.getElem?_cons_zero, List.getElem?_cons_succ, List.set_cons_zero, List.set_cons_succ, List.cons.injEq, List.cons_ne_nil, reduceCtorEq, exists_eq_left', exists_eq_left, exists_and_left, and_assoc, exists_const, true_and, and_true, if_true, if_false, false_and, and_false, exists_false, false_or, or_false, true_implies, false_implies, implies_true, forall_eq, forall_eq', Bool.false_eq_true, if_neg, decide_eq_true_eq, Bool.not_eq_true', decide_eq_false_iff_not, Bool.not_true, Bool.not_false, List.length_cons, List.length_nil, sizeLine_eq, Nat.reduceAdd, Nat.reduceLeDiff, Nat.reduceLT, Int.reduceLT, Int.reduceLE, Int.emod_nonneg, ne_eq, Int.reduceEq, not_false_eq_true, not_true_eq_false, TakerI]
  refine q tx hx _ n1 n2 ?_ ⟨⟨dx, upd_same⟩, ?_, ?_⟩
  · exact (((((Fr.refl _ _).upd (by simp)).new (by rw [upd_ne e1]; exact n1)).upd (by simp)).new (by rw [upd_ne e2, upd_ne e3, upd_ne e2]; exact n2)).upd (by simp)
  · rw [upd_ne e1, upd_ne (Ne.symm e3), upd_ne e1, upd_same]; rfl
  · rw [upd_ne e2, upd_same]; rfl
theorem mk_Taker {K : PySem.W.Frag} {H : Hp} {w r : Int} {Q : VK} {E : XK} (q : ∀ p tx hx H', H p = none → H tx = none → H hx = none → Same H H' → TkAt K H' p tx hx w r 0 [] [] → Q (.ref p) H') (x dx : Addr) (h1 : H x = none) (h2 : H dx = none) (h3 : ¬ dx = x) :
    sp_Taker_init K [.ref x, .int w, .int r] (upd (upd H dx (.own x)) x (.ins (He.ga K "Taker") dx [])) (fun v H2 => v = .non ∧ Q (.ref x) H2) E := by
  refine ⟨x, dx, w, r, rfl, upd_same, fun tx hx H' n1 n2 f t => ⟨rfl, ?_⟩⟩
  have fresh : ∀ c, upd (upd H dx (.own x)) x (.ins (He.ga K "Taker") dx []) c = none → H c = none := fun c n => by
    have e1 : c ≠ x := fun e => by rw [e, upd_same] at n; cases n
    rw [upd_ne e1] at n
    have e2 : c ≠ dx := fun e => by rw [e, upd_same] at n; cases n
    rw [upd_ne e2] at n
    exact n
  refine q x tx hx H' h1 (fresh _ n1) (fresh _ n2) (fun c o e => ?_) t
  have e1 : c ≠ x := ne_of_none e h1
  have e2 : c ≠ dx := ne_of_none e h2
  exact f c o (by simpa using e1) (by rw [upd_ne e1, upd_ne e2]; exact e)
abbrev s_Taker_gone : Stmt := inClass (top 26) 2
abbrev N_Taker_gone : List Str := ["self"]
theorem sc_Taker_gone : FnScope N_Taker_gone ["self"] (defScope s_Taker_gone) := ⟨rfl, rfl, rfl, by decide +kernel, rfl, by decide +kernel, by decide +kernel⟩
def sp_Taker_gone (K : PySem.W.Frag) : Sp := fun vs H Q _ => ∃ p tx hx room ring w g hd, vs = [.ref p] ∧ TkAt K H p tx hx room ring w g hd ∧ ∀ l H', H l = none → Same H H' → H' l = some (.lst (g.map V.str)) → Q (.ref l) H'
theorem ok_Taker_gone {P : Program} {w : World} {K : PySem.W.Frag} {mg : Str → Option Value} {base : Heap} (F : FnP K ("Taker", some "gone") "gone" "Taker.gone" s_Taker_gone) (hc : Cls K (He.ga K "Taker")) (hm : Meth K (He.ga K "Taker") "gone" (He.ma K (He.ga K "Taker") "gone")) (bl : Blt mg) (hTaker : TakerF K) : MCal P w K mg base 1 (He.ga K "Taker") "gone" (sp_Taker_gone K) := by
  refine fn_mcal F hc hm sc_Taker_gone (fun vs H Q E => by walk_at "len") (fun _ _ _ _ _ _ us hl => match us, hl with | [_], _ => rfl) (fun f cdv A outer s H vs Q E hr h => ?_)
  have hu := hu_of hr
  obtain ⟨p, tx, hx, room, ring, w', g, hd, rfl, t, q⟩ := h
  obtain ⟨dx, hp⟩ := t.ins
  have h1 := SqL.of (K := K) t.txt
  refine ⟨_, (pss_one (ps_ret (pe_callTy call_listC (by rfl) (bl.list) (by decide +kernel) (pa_cons (pe_fld (pv 0) rfl) pa_nil)))), ?_⟩
  walk_at "st0"
  simp only [RDa, RDb, RDv, RDk, RDx, RDe, RDd, RDp, RDq, List.getElem?_cons_zero, List.getElem?_cons_succ, List.set_cons_zero, List.set_cons_succ, List.cons.injEq, List.cons_ne_nil, reduceCtorEq, exists_eq_left', exists_eq_left, exists_and_left, and_assoc, exists_const, true_and, and_true, if_true, if_false, false_and, and_false, exists_false, false_or, or_false, true_implies, false_implies, implies_true, forall_eq, forall_eq', Bool.false_eq_true, if_neg, decide_eq_true_eq, Bool.not_eq_true', decide_eq_false_iff_not, Bool.not_true, Bool.not_false, List.length_cons, List.length_nil, sizeLine_eq, Nat.reduceAdd, Nat.reduceLeDiff, Nat.reduceLT, Int.reduceLT, Int.reduceLE, Int.emod_nonneg, ne_eq, Int.reduceEq, not_false_eq_true, not_true_eq_false, hTaker, TakerL, hp, upd_same, upd_upd]
  refine ⟨_, seqO_lst t.txt, fun l nl => q l _ nl (same_new nl) upd_same⟩
def tkCame (room ring w : Int) (g : List Str) (hd : List (Int × Str)) (n : Int) (x : Str) : Int × List Str × List (Int × Str) := drained w g (tkPut room ring w hd n x)
abbrev s_Taker_came : Stmt := inClass (top 26) 4
abbrev N_Taker_came : List Str := ["self", "number", "text", "step"]
theorem sc_Taker_came : FnScope N_Taker_came ["self", "number", "text"] (defScope s_Taker_came) := ⟨rfl, rfl, rfl, by decide +kernel, rfl, by decide +kernel, by decide +kernel⟩
def sp_Taker_came (K : PySem.W.Frag) : Sp := fun vs H Q _ => ∃ p tx hx room ring w g hd n x, vs = [.ref p, .int n, .str x] ∧ TkAt K H p tx hx room ring w g hd ∧ 0 < ring ∧ g.length + hd.length < 100000 ∧
  ∀ H' w2 g2 h2, tkCame room ring w g hd n x = (w2, g2, h2) → Fr [p, tx, hx] H H' → TkAt K H' p tx hx room ring w2 g2 h2 → Q (.int (w2 % ring)) H'
theorem ok_Taker_came {P : Program} {w : World} {K : PySem.W.Frag} {mg : Str → Option Value} {base : Heap} (F : FnP K ("Taker", some "came") "came" "Taker.came" s_Taker_came) (hc : Cls K (He.ga K "Taker")) (hm : Meth K (He.ga K "Taker") "came" (He.ma K (He.ga K "Taker") "came")) (bl : Blt mg) (hTaker : TakerF K) : MCal P w K mg base 1 (He.ga K "Taker") "came" (sp_Taker_came K) := by
  refine fn_mcal F hc hm sc_Taker_came (fun vs H Q E => by walk_at "len") (fun _ _ _ _ _ _ us hl => match us, hl with | [_, _, _], _ => rfl) (fun f cdv A outer s H vs Q E hr h => ?_)
  have hu := hu_of hr
  obtain ⟨p, tx, hx, room, ring, w', g, hd, n, x, rfl, t, hr0, hl, q⟩ := h
  obtain ⟨dx, hp⟩ := t.ins
  refine ⟨_, (pss_cons (ps_set (i := 3) sc_Taker_came.nd rfl (Or.inl rfl) (pe_op op_mod (pe_op op_sub (pv 1) (pe_fld (pv 0) rfl)) (pe_fld (pv 0) rfl)))
  (pss_cons (ps_if (PW.pt (pw_and (pt_cmpR op_lt (pv 3) (pe_fld (pv 0) rfl) (nomark _)) (pw_and1 (pt_cmp (pc_notinD (by exact hu) (pe_op op_add (pe_fld (pv 0) rfl) (pv 3)) (pe_fld (pv 0) rfl))))))
  (pss_one (ps_putD (by exact hu) (pe_fld (pv 0) rfl) (pe_op op_add (pe_fld (pv 0) rfl) (pv 3)) (pv 2) rfl))
  pss_nil)
  (pss_cons (ps_while (passes_of rfl) (pt_cmp (pc_inD (by exact hu) (pe_fld (pv 0) rfl) (pe_fld (pv 0) rfl)))
  (pss_cons (ps_expr (pe_app (pe_fld (pv 0) rfl) (pe_popD (pe_fld (pv 0) rfl) (pe_fld (pv 0) rfl) ⟨rfl, rfl, rfl, rfl⟩)))
  (pss_one (ps_fld (pv 0) (pe_op op_add (pe_fld (pv 0) rfl) pe_int) rfl))))
  (pss_one (ps_ret (pe_op op_mod (pe_fld (pv 0) rfl) (pe_fld (pv 0) rfl))))))), ?_⟩
  walk_at "st0"
  refine seq_gen fun N_a h_a => ?_
  simp only [RDa, RDb, RDv, RDk, RDx, RDe, RDd, RDp, RDq, List.getElem?_cons_zero, List.getElem?_cons_succ, List.set_cons_zero, List.set_cons_succ, List.cons.injEq, List.cons_ne_nil, reduceCtorEq, exists_eq_left', exists_eq_left, exists_and_left, and_assoc, exists_const, true_and, and_true, if_true, if_false, false_and, and_false, exists_false, false_or, or_false, true_implies, false_implies, implies_true, forall_eq, forall_eq', Bool.false_eq_true, if_neg, decide_eq_true_eq, Bool.not_eq_true', decide_eq_false_iff_not, Bool.not_true, Bool.not_false, List.length_cons, List.length_nil, sizeLine_eq, Nat.reduceAdd, Nat.reduceLeDiff, Nat.reduceLT, Int.reduceLT, Int.reduceLE, Int.emod_nonneg, ne_eq, Int.reduceEq, not_false_eq_true, not_true_eq_false, hTaker, TakerL, hp, hr0]
  refine h_a _ _ ?_
  refine seq_gen fun N_b h_b => ?_
  simp only [RDa, RDb, RDv, RDk, RDx, RDe, RDd, RDp, RDq, List.getElem?_cons_zero, List.getElem?_cons_succ, List.set_cons_zero, List.set_cons_succ, List.cons.injEq, List.cons_ne_nil, reduceCtorEq, exists_eq_left', exists_eq_left, exists_and_left, and_assoc, exists_const, true_and, and_true, if_true, if_false, false_and, and_false, exists_false, false_or, or_false, true_implies, false_implies, implies_true, forall_eq, forall_eq', Bool.false_eq_true, if_neg, decide_eq_true_eq, Bool.not_eq_true', decide_eq_false_iff_not, Bool.not_true, Bool.not_false, List.length_cons, List.length_nil, sizeLine_eq, Nat.reduceAdd, Nat.reduceLeDiff, Nat.reduceLT, Int.reduceLT, Int.reduceLE, Int.emod_nonneg, ne_eq, Int.reduceEq, not_false_eq_true, not_true_eq_false, hTaker, TakerL, hp, hr0, t.hel, kvs_get]
  obtain ⟨d1, d2, d3⟩ := t.ne
  have key : ∀ H1, Fr [p, tx, hx] H H1 → TkAt K H1 p tx hx room ring w' g (tkPut room ring w' hd n x) → N_b [some (.ref p), some (.int n), some (.str x), some (.int ((n - w') % ring))] H1 := by
    intro H1 f1 t1
    refine h_b _ _ ?_
    clear h_a h_b
    refine seq_gen fun N_w h_w => ?_
    have l1 := tkPut_le room ring w' hd n x
    have e1 : tkCame room ring w' g hd n x = drained w' g (tkPut room ring w' hd n x) := rfl
    generalize tkPut room ring w' hd n x = hd1 at t1 l1 e1
    refine ⟨fun m σ H2 => σ = [some (.ref p), some (.int n), some (.str x), some (.int ((n - w') % ring))] ∧ Fr [p, tx, hx] H H2 ∧ ∃ w2 g2 h2, h2.length = m ∧ g2.length + h2.length ≤ g.length + hd.length + 1 ∧ TkAt K H2 p tx hx room ring w2 g2 h2 ∧ tkCame room ring w' g hd n x = drained w2 g2 h2, ⟨hd1.length, rfl, f1, w', g, hd1, rfl, by omega, t1, e1⟩, ?_⟩
    rintro m σ H2 ⟨rfl, f2, w2, g2, h2, rfl, l2, t2, e2⟩
    obtain ⟨dx2, p2⟩ := t2.ins
    simp only [RDa, RDb, RDv, RDk, RDx, RDe, RDd, RDp, RDq, List.getElem?_cons_zero, List.getElem?_cons_succ, List.set_cons_zero, List.set_cons_succ, List.cons.injEq, List.cons_ne_nil, reduceCtorEq, exists_eq_left', exists_eq_left, exists_and_left, and_assoc, exists_const, true_and, and_true, if_true, if_false, false_and, and_false, exists_false, false_or, or_false, true_implies, false_implies, implies_true, forall_eq, forall_eq', Bool.false_eq_true, if_neg, decide_eq_true_eq, Bool.not_eq_true', decide_eq_false_iff_not, Bool.not_true, Bool.not_false, List.length_cons, List.length_nil, sizeLine_eq, Nat.reduceAdd, Nat.reduceLeDiff, Nat.reduceLT, Int.reduceLT, Int.reduceLE, Int.emod_nonneg, ne_eq, Int.reduceEq, not_false_eq_true, not_true_eq_false, hTaker, TakerL, p2, t2.hel, t2.txt, kvs_get]
    cases hg : hget h2 w2 with
    | none =>
      rw [if_neg (by simp)]
      refine h_w _ _ ?_
      rw [drained_none hg] at e2
      simp only [RDa, RDb, RDv, RDk, RDx, RDe, RDd, RDp, RDq, List.getElem?_cons_zero, List.getElem?_cons_succ, List.set_cons_zero, List.set_cons_succ, List.cons.injEq, List.cons_ne_nil, reduceCtorEq, exists_eq_left', exists_eq_left, exists_and_left, and_assoc, exists_const, true_and, and_true, if_true, if_false, false_and, and_false, exists_false, false_or, or_false, true_implies, false_implies, implies_true, forall_eq, forall_eq', Bool.false_eq_true, if_neg, decide_eq_true_eq, Bool.not_eq_true', decide_eq_false_iff_not, Bool.not_true, Bool.not_false, List.length_cons, List.length_nil, sizeLine_eq, Nat.reduceAdd, Nat.reduceLeDiff, Nat.reduceLT, Int.reduceLT, Int.reduceLE, Int.emod_nonneg, ne_eq, Int.reduceEq, not_false_eq_true, not_true_eq_false, hTaker, TakerL, p2, hr0]
      exact q H2 _ _ _ e2 f2 t2
    | some z =>
      rw [if_pos (by simp)]
      have l3 := hdrop_lt hg
      refine ⟨_, fun _ _ z => z, ?_⟩
      simp only [RDa, RDb, RDv, RDk, RDx, RDe, RDd, RDp, RDq, List.getElem?_cons_zero, List.getElem?_cons_succ, List.set_cons_zero, List.set_cons_succ, List.cons.injEq, List.cons_ne_nil, reduceCtorEq, exists_eq_left', exists_eq_left, exists_and_left, and_assoc, exists_const, true_and, and_true, if_true, if_false, false_and, and_false, exists_false, false_or, or_false, true_implies, false_implies, implies_true, forall_eq, forall_eq', Bool.false_eq_true, if_neg, decide_eq_true_eq, Bool.not_eq_true', decide_eq_false_iff_not, Bool.not_true, Bool.not_false, List.length_cons, List.length_nil, sizeLine_eq, Nat.reduceAdd, Nat.reduceLeDiff, Nat.reduceLT, Int.reduceLT, Int.reduceLE, Int.emod_nonneg, ne_eq, Int.reduceEq, not_false_eq_true, not_true_eq_false, hTaker, TakerL, p2, t2.hel, t2.txt, kvs_get, kvs_drop, hg, upd_same, upd_ne d1, upd_ne d2, upd_ne d3, upd_ne (Ne.symm d1), upd_ne (Ne.symm d2), upd_ne (Ne.symm d3), Option.map_some]
      refine ⟨by rw [List.length_map]; omega, _, l3, ((f2.upd (by simp)).upd (by simp)).upd (by simp), w2 + 1, g2 ++ [z], hdrop h2 w2, rfl, by rw [List.length_append]; simp only [List.length_cons, List.length_nil]; omega, ⟨⟨dx2, upd_same⟩, ?_, ?_⟩, by rw [e2, drained_some hg]⟩
      · rw [upd_ne (Ne.symm d1), upd_same, List.map_append]; rfl
      · rw [upd_ne (Ne.symm d2), upd_ne (Ne.symm d3), upd_same]
  by_cases c1 : (n - w') % ring < room
  · rw [if_pos c1]
    cases hg : hget hd (w' + (n - w') % ring) with
    | none =>
      rw [if_pos (by simp)]
      refine ⟨by rw [kvs_length]; omega, ?_⟩
      rw [kvs_put x hg]
      refine key _ ((Fr.refl _ _).upd (by simp)) ?_
      unfold tkPut
      rw [if_pos ⟨c1, hg⟩]
      exact ⟨⟨dx, by rw [upd_ne d2]; exact hp⟩, by rw [upd_ne d3]; exact t.txt, upd_same⟩
    | some z =>
      rw [if_neg (by simp)]
      refine key _ (Fr.refl _ _) ?_
      unfold tkPut
      rw [if_neg (by rw [hg]; simp)]
      exact t
  · rw [if_neg c1]
    refine key _ (Fr.refl _ _) ?_
    unfold tkPut
    rw [if_neg (fun h => c1 h.1)]
    exact t
end RP

namespace RP
open PySem PySem.Spec PyProof.Rows L2
abbrev s_Taker_want : Stmt := inClass (top 26) 1
abbrev N_Taker_want : List Str := ["self"]
theorem sc_Taker_want : FnScope N_Taker_want ["self"] (defScope s_Taker_want) := ⟨rfl, rfl, rfl, by decide +kernel, rfl, by decide +kernel, by decide +kernel⟩
def sp_Taker_want (K : PySem.W.Frag) : Sp := fun vs H Q _ => ∃ p dx room ring w tx hx, vs = [.ref p] ∧ H p = some (.ins (He.ga K "Taker") dx (flTaker room ring w tx hx)) ∧ Q (.int w) H
theorem ok_Taker_want {P : Program} {w : World} {K : PySem.W.Frag} {mg : Str → Option Value} {base : Heap} (F : FnP K ("Taker", some "want") "want" "Taker.want" s_Taker_want) (hc : Cls K (He.ga K "Taker")) (hm : Meth K (He.ga K "Taker") "want" (He.ma K (He.ga K "Taker") "want")) (bl : Blt mg) (hTaker : TakerF K) : MCal P w K mg base 1 (He.ga K "Taker") "want" (sp_Taker_want K) := by
  refine fn_mcal F hc hm sc_Taker_want (fun vs H Q E => by walk_at "len") (fun _ _ _ _ _ _ us hl => match us, hl with | [_], _ => rfl) (fun f cdv A outer s H vs Q E hr h => ?_)
  have hu := hu_of hr
  obtain ⟨p, dx, room, ring, w', tx, hx, rfl, hp, q⟩ := h
  refine ⟨_, (pss_one (ps_ret (pe_fld (pv 0) rfl))), ?_⟩
  walk_at "st0"
  simp only [RDa, RDb, RDv, RDk, RDx, RDe, RDd, RDp, RDq, List.getElem?_cons_zero, List.getElem?_cons_succ, List.set_cons_zero, List.set_cons_succ, List.cons.injEq, List.cons_ne_nil, reduceCtorEq, exists_eq_left', exists_eq_left, exists_and_left, and_assoc, exists_const, true_and, and_true, if_true, if_false, false_and, and_false, exists_false, false_or, or_false, true_implies, false_implies, implies_true, forall_eq, forall_eq', Bool.false_eq_true, if_neg, decide_eq_true_eq, Bool.not_eq_true', decide_eq_false_iff_not, Bool.not_true, Bool.not_false, List.length_cons, List.length_nil, sizeLine_eq, Nat.reduceAdd, Nat.reduceLeDiff, Nat.reduceLT, Int.reduceLT, Int.reduceLE, Int.emod_nonneg, ne_eq, Int.reduceEq, not_false_eq_true, not_true_eq_false, hTaker, TakerL, hp, upd_same, upd_upd]
  exact q
end RP

namespace RP
open PySem PySem.Spec PyProof.Rows L2
/-- the attributes of a Post -/
def flPost (a0 : Int) (a1 : Addr) : List (Str × V) := [(("bound" : Str), V.int a0), (("things" : Str), V.ref a1)]
abbrev PostF (K : PySem.W.Frag) : Prop := Cls K (He.ga K "Post") ∧ NoAttr K (He.ga K "Post") "bound" ∧ NoAttr K (He.ga K "Post") "things"
theorem flPost_inj (a0 : Int) (a1 : Addr) (b0 : Int) (b1 : Addr) : (flPost a0 a1 = flPost b0 b1) = (a0 = b0 ∧ a1 = b1) := by
  simp only [flPost, List.cons.injEq, Prod.mk.injEq, V.int.injEq, V.ref.injEq, true_and, and_true]
theorem PostL : (∀ (a0 : Int) (a1 : Addr), (flPost a0 a1).lookup ("bound" : Str) = some (.int a0)) ∧
    (∀ (a0 : Int) (a1 : Addr), (flPost a0 a1).lookup ("things" : Str) = some (.ref a1)) ∧
    (∀ (a0 : Int) (a1 : Addr), (flPost a0 a1).lookup ("posted" : Str) = none) ∧
    (∀ (a0 : Int) (a1 : Addr), (flPost a0 a1).lookup ("there" : Str) = none) ∧
    (∀ (a0 : Int) (a1 : Addr), (flPost a0 a1).lookup ("taken" : Str) = none) ∧
    (∀ (a0 : Int) (a1 : Addr), (flPost a0 a1).length = 2) ∧
    (∀ (a0 : Int) (a1 : Addr) (b0 : Int) (b1 : Addr), (flPost a0 a1 = flPost b0 b1) = (a0 = b0 ∧ a1 = b1)) ∧
    (∀ (a0 : Int) (a1 : Addr) (y : Int), putF ("bound" : Str) (.int y) (flPost a0 a1) = flPost y a1) ∧
    (∀ (a0 : Int) (a1 : Addr) (y : Addr), putF ("things" : Str) (.ref y) (flPost a0 a1) = flPost a0 y) := by
  refine ⟨?_, ?_, ?_, ?_, ?_, ?_, ?_, ?_, ?_⟩ <;> intros <;> first | rfl | exact flPost_inj .. | kernel_rfl
theorem PostI : (∀  (v : V), putF ("bound" : Str) v ([] : List (Str × V)) = [(("bound" : Str), v)]) ∧
    (∀ (a0 : Int) (a1 : Addr), putF ("things" : Str) (.ref a1) ([(("bound" : Str), V.int a0)] : List (Str × V)) = flPost a0 a1) := by
  refine ⟨?_, ?_⟩ <;> intros <;> first | rfl | kernel_rfl
theorem inV_rg (k a b : Int) (h : a ≤ b) : inV (.int k) (rgV a b) = decide (a ≤ k ∧ k < b) := by
  unfold inV rgV
  rw [Bool.eq_iff_iff, List.any_eq_true]
  simp only [List.mem_map, List.mem_range, decide_eq_true_eq]
  constructor
  · rintro ⟨y, ⟨i, hi, rfl⟩, e⟩
    have e2 : a + (i : Int) = k := by simpa [eqV] using e
    omega
  · rintro ⟨h1, h2⟩
    exact ⟨_, ⟨(k - a).toNat, by omega, rfl⟩, by simp [eqV]; omega⟩
theorem flat_rg (a b : Int) : (rgV a b).all flatV = true := by
  unfold rgV
  rw [List.all_map, List.all_eq_true]
  intro i _
  rfl
structure PostAt (K : PySem.W.Frag) (H : Hp) (p tx : Addr) (bound : Int) (ts : List V) : Prop where
  ins : ∃ dx, H p = some (.ins (He.ga K "Post") dx (flPost bound tx))
  txt : H tx = some (.lst ts)
theorem PostAt.same {K : PySem.W.Frag} {H H1 : Hp} {p tx : Addr} {bound : Int} {ts : List V} (t : PostAt K H p tx bound ts) (f : Same H H1) : PostAt K H1 p tx bound ts := ⟨t.ins.elim fun dx e => ⟨dx, f _ _ e⟩, f _ _ t.txt⟩
theorem PostAt.fr {K : PySem.W.Frag} {H H1 : Hp} {p tx : Addr} {bound : Int} {ts : List V} {A : List Addr} (t : PostAt K H p tx bound ts) (f : Fr A H H1) (h1 : p ∉ A) (h2 : tx ∉ A) : PostAt K H1 p tx bound ts := ⟨t.ins.elim fun dx e => ⟨dx, f _ _ h1 e⟩, f _ _ h2 t.txt⟩
theorem PostAt.ne {K : PySem.W.Frag} {H : Hp} {p tx : Addr} {bound : Int} {ts : List V} (t : PostAt K H p tx bound ts) : p ≠ tx := t.ins.elim fun _ e => ne_of_obj e t.txt (by simp)
abbrev s_Post_init : Stmt := inClass (top 23) 0
abbrev N_Post_init : List Str := ["self", "bound"]
theorem sc_Post_init : FnScope N_Post_init ["self", "bound"] (defScope s_Post_init) := ⟨rfl, rfl, rfl, by decide +kernel, rfl, by decide +kernel, by decide +kernel⟩
def sp_Post_init (K : PySem.W.Frag) : Sp := fun vs H Q _ => ∃ p dx b, vs = [.ref p, .int b] ∧ H p = some (.ins (He.ga K "Post") dx []) ∧
  ∀ tx H', H tx = none → Fr [p] H H' → PostAt K H' p tx b [] → Q .non H'
theorem ok_Post_init {P : Program} {w : World} {K : PySem.W.Frag} {mg : Str → Option Value} {base : Heap} (F : FnP K ("Post", some "__init__") "__init__" "Post.__init__" s_Post_init) (hm : mg "Post" = some (.ref (He.ga K "Post"))) (hmk : Mk K (He.ga K "Post") (He.ma K (He.ga K "Post") "__init__")) (bl : Blt mg) (hPost : PostF K) : KCal P w K mg base 1 "Post" (He.ga K "Post") (sp_Post_init K) := by
  refine fn_kcal F hm hmk sc_Post_init (fun vs H Q E => by walk_at "len") (fun _ _ _ _ _ _ us hl => match us, hl with | [_, _], _ => rfl) (fun f cdv A outer s H vs Q E hr h => ?_)
  have hu := hu_of hr
  obtain ⟨p, dx, b, rfl, hp, q⟩ := h
  refine ⟨_, (pss_cons (ps_fld (pv 0) (pv 1) rfl)
  (pss_one (ps_fld (pv 0) (pe_lst pa_nil) rfl))), ?_⟩
  walk_at "st0"
  simp only [RDa, RDb, RDv, RDk, RDx, RDe, RDd, RDp, RDq, List.getElem?_cons_zero, List.getElem?_cons_succ, List.set_cons_zero, List.set_cons_succ, List.cons.injEq, List.cons_ne_nil, reduceCtorEq, exists_eq_left', exists_eq_left, exists_and_left, and_assoc, exists_const, true_and, and_true, if_true, if_false, false_and, and_false, exists_false, false_or, or_false, true_implies, false_implies, implies_true, forall_eq, forall_eq', Bool.false_eq_true, if_neg, decide_eq_true_eq, Bool.not_eq_true', decide_eq_false_iff_not, Bool.not_true, Bool.not_false, List.length_cons, List.length_nil, sizeLine_eq, Nat.reduceAdd, Nat.reduceLeDiff, Nat.reduceLT, Int.reduceLT, Int.reduceLE, Int.emod_nonneg, ne_eq, Int.reduceEq, not_false_eq_true, not_true_eq_false, hPost, PostI, hp, upd_same, upd_upd]
  intro tx n1
  have e1 : tx ≠ p := fun e => by rw [e, upd_same] at n1; cases n1
  rw [upd_ne e1] at n1
  refine ⟨_, dx, _, (upd_ne (Ne.symm e1)).trans upd_same, hPost.1, hPost.2.2, by simp, ?_⟩
  simp only [RDa, RDb, RDv, RDk, RDx, RDe, RDd, RDp, RDq, List.getElem?_cons_zero, List.getElem?_cons_succ, List.set_cons_zero, List.set_cons_succ, List.cons.injEq, List.cons_ne_nil, reduceCtorEq, exists_eq_left', exists_eq_left, exists_and_left, and_assoc, exists_const, true_and, and_true, if_true, if_false, false_and, and_false, exists_false, false_or, or_false, true_implies, false_implies, implies_true, forall_eq, forall_eq', Bool.false_eq_true, if_neg, decide_eq_true_eq, Bool.not_eq_true', decide_eq_false_iff_not, Bool.not_true, Bool.not_false, List.length_cons, List.length_nil, sizeLine_eq, Nat.reduceAdd, Nat.reduceLeDiff, Nat.reduceLT, Int.reduceLT, Int.reduceLE, Int.emod_nonneg, ne_eq, Int.reduceEq, not_false_eq_true, not_true_eq_false, PostI]
  refine q tx _ n1 ?_ ⟨⟨dx, upd_same⟩, ?_⟩
  · exact (((Fr.refl _ _).upd (by simp)).new (by rw [upd_ne e1]; exact n1)).upd (by simp)
  · rw [upd_ne e1, upd_same]
theorem mk_Post {K : PySem.W.Frag} {H : Hp} {b : Int} {Q : VK} {E : XK} (q : ∀ p tx H', H p = none → H tx = none → Same H H' → PostAt K H' p tx b [] → Q (.ref p) H') (x dx : Addr) (h1 : H x = none) (h2 : H dx = none) (h3 : ¬ dx = x) :
    sp_Post_init K [.ref x, .int b] (upd (upd H dx (.own x)) x (.ins (He.ga K "Post") dx [])) (fun v H2 => v = .non ∧ Q (.ref x) H2) E := by
  refine ⟨x, dx, b, rfl, upd_same, fun tx H' n1 f t => ⟨rfl, ?_⟩⟩
  have fresh : ∀ c, upd (upd H dx (.own x)) x (.ins (He.ga K "Post") dx []) c = none → H c = none := fun c n => by
    have e1 : c ≠ x := fun e => by rw [e, upd_same] at n; cases n
    rw [upd_ne e1] at n
    have e2 : c ≠ dx := fun e => by rw [e, upd_same] at n; cases n
    rw [upd_ne e2] at n
    exact n
  refine q x tx H' h1 (fresh _ n1) (fun c o e => ?_) t
  have e1 : c ≠ x := ne_of_none e h1
  have e2 : c ≠ dx := ne_of_none e h2
  exact f c o (by simpa using e1) (by rw [upd_ne e1, upd_ne e2]; exact e)
theorem made_free {H : Hp} {dx x c C : Addr} (n : upd (upd H dx (.own x)) x (.ins C dx []) c = none) : H c = none := by
  have e1 : c ≠ x := fun e => by rw [e, upd_same] at n; cases n
  rw [upd_ne e1] at n
  have e2 : c ≠ dx := fun e => by rw [e, upd_same] at n; cases n
  rw [upd_ne e2] at n
  exact n
theorem made_same {H H' : Hp} {dx x C : Addr} (h1 : H x = none) (h2 : H dx = none) (f : Fr [x] (upd (upd H dx (.own x)) x (.ins C dx [])) H') : Same H H' := fun c o e => by
  have e1 : c ≠ x := ne_of_none e h1
  have e2 : c ≠ dx := ne_of_none e h2
  exact f c o (by simpa using e1) (by rw [upd_ne e1, upd_ne e2]; exact e)
abbrev s_Post_posted : Stmt := inClass (top 23) 1
abbrev N_Post_posted : List Str := ["self", "thing"]
theorem sc_Post_posted : FnScope N_Post_posted ["self", "thing"] (defScope s_Post_posted) := ⟨rfl, rfl, rfl, by decide +kernel, rfl, by decide +kernel, by decide +kernel⟩
def sp_Post_posted (K : PySem.W.Frag) : Sp := fun vs H Q _ => ∃ p tx b ts x, vs = [.ref p, x] ∧ PostAt K H p tx b ts ∧ ts.length < 100000 ∧
  ∀ H', Fr [tx] H H' → PostAt K H' p tx b (ts ++ [x]) → Q (.int ts.length) H'
theorem ok_Post_posted {P : Program} {w : World} {K : PySem.W.Frag} {mg : Str → Option Value} {base : Heap} (F : FnP K ("Post", some "posted") "posted" "Post.posted" s_Post_posted) (hc : Cls K (He.ga K "Post")) (hm : Meth K (He.ga K "Post") "posted" (He.ma K (He.ga K "Post") "posted")) (bl : Blt mg) (hPost : PostF K) : MCal P w K mg base 1 (He.ga K "Post") "posted" (sp_Post_posted K) := by
  refine fn_mcal F hc hm sc_Post_posted (fun vs H Q E => by walk_at "len") (fun _ _ _ _ _ _ us hl => match us, hl with | [_, _], _ => rfl) (fun f cdv A outer s H vs Q E hr h => ?_)
  have hu := hu_of hr
  obtain ⟨p, tx, b, ts, x, rfl, t, hl, q⟩ := h
  obtain ⟨dx, hp⟩ := t.ins
  have d1 := t.ne
  refine ⟨_, (pss_cons (ps_expr (pe_app (pe_fld (pv 0) rfl) (pv 1)))
  (pss_one (ps_ret (pe_op op_sub (pe_callB call_lenC (by rfl) (bl.len) (by decide +kernel) (pa_cons (pe_fld (pv 0) rfl) pa_nil)) pe_int)))), ?_⟩
  walk_at "st0"
  simp only [RDa, RDb, RDv, RDk, RDx, RDe, RDd, RDp, RDq, List.getElem?_cons_zero, List.getElem?_cons_succ, List.set_cons_zero, List.set_cons_succ, List.cons.injEq, List.cons_ne_nil, reduceCtorEq, exists_eq_left', exists_eq_left, exists_and_left, and_assoc, exists_const, true_and, and_true, if_true, if_false, false_and, and_false, exists_false, false_or, or_false, true_implies, false_implies, implies_true, forall_eq, forall_eq', Bool.false_eq_true, if_neg, decide_eq_true_eq, Bool.not_eq_true', decide_eq_false_iff_not, Bool.not_true, Bool.not_false, List.length_cons, List.length_nil, sizeLine_eq, Nat.reduceAdd, Nat.reduceLeDiff, Nat.reduceLT, Int.reduceLT, Int.reduceLE, Int.emod_nonneg, ne_eq, Int.reduceEq, not_false_eq_true, not_true_eq_false, hPost, PostL, hp, t.txt, upd_same, upd_ne d1]
  refine ⟨by omega, _, lenO_lst upd_same, ?_⟩
  rw [List.length_append, List.length_singleton, show (((ts.length + 1 : Nat) : Int) - 1) = (ts.length : Int) by omega]
  exact q _ ((Fr.refl _ _).upd (by simp)) ⟨⟨dx, by rw [upd_ne d1]; exact hp⟩, upd_same⟩
abbrev s_Post_there : Stmt := inClass (top 23) 2
abbrev N_Post_there : List Str := ["self"]
theorem sc_Post_there : FnScope N_Post_there ["self"] (defScope s_Post_there) := ⟨rfl, rfl, rfl, by decide +kernel, rfl, by decide +kernel, by decide +kernel⟩
def sp_Post_there (K : PySem.W.Frag) : Sp := fun vs H Q _ => ∃ p tx b ts, vs = [.ref p] ∧ PostAt K H p tx b ts ∧ 0 ≤ b ∧ b < 100000 ∧ ts.length < 100000 ∧
  ∀ l H', H l = none → Same H H' → H' l = some (.lst (rgV (mx2 0 (ts.length - 1 - b)) ts.length)) → Q (.ref l) H'
theorem ok_Post_there {P : Program} {w : World} {K : PySem.W.Frag} {mg : Str → Option Value} {base : Heap} (F : FnP K ("Post", some "there") "there" "Post.there" s_Post_there) (hc : Cls K (He.ga K "Post")) (hm : Meth K (He.ga K "Post") "there" (He.ma K (He.ga K "Post") "there")) (bl : Blt mg) (hPost : PostF K) : MCal P w K mg base 1 (He.ga K "Post") "there" (sp_Post_there K) := by
  refine fn_mcal F hc hm sc_Post_there (fun vs H Q E => by walk_at "len") (fun _ _ _ _ _ _ us hl => match us, hl with | [_], _ => rfl) (fun f cdv A outer s H vs Q E hr h => ?_)
  have hu := hu_of hr
  obtain ⟨p, tx, b, ts, rfl, t, hb0, hb1, hl, q⟩ := h
  obtain ⟨dx, hp⟩ := t.ins
  refine ⟨_, (pss_one (ps_ret (pe_listRg rfl rfl (bl.list) (prg_2 rfl (bl.range) (pe_callB (call_max2 rfl) (by rfl) (bl.max) (by decide +kernel) (pa_cons pe_int (pa_cons (pe_op op_sub (pe_op op_sub (pe_callB call_lenC (by rfl) (bl.len) (by decide +kernel) (pa_cons (pe_fld (pv 0) rfl) pa_nil)) pe_int) (pe_fld (pv 0) rfl)) pa_nil))) (pe_callB call_lenC (by rfl) (bl.len) (by decide +kernel) (pa_cons (pe_fld (pv 0) rfl) pa_nil)))))), ?_⟩
  walk_at "st0"
  simp only [RDa, RDb, RDv, RDk, RDx, RDe, RDd, RDp, RDq, List.getElem?_cons_zero, List.getElem?_cons_succ, List.set_cons_zero, List.set_cons_succ, List.cons.injEq, List.cons_ne_nil, reduceCtorEq, exists_eq_left', exists_eq_left, exists_and_left, and_assoc, exists_const, true_and, and_true, if_true, if_false, false_and, and_false, exists_false, false_or, or_false, true_implies, false_implies, implies_true, forall_eq, forall_eq', Bool.false_eq_true, if_neg, decide_eq_true_eq, Bool.not_eq_true', decide_eq_false_iff_not, Bool.not_true, Bool.not_false, List.length_cons, List.length_nil, sizeLine_eq, Nat.reduceAdd, Nat.reduceLeDiff, Nat.reduceLT, Int.reduceLT, Int.reduceLE, Int.emod_nonneg, ne_eq, Int.reduceEq, not_false_eq_true, not_true_eq_false, hPost, PostL, hp, t.txt, lenO_lst t.txt]
  have e : ∀ j : Int, (if j > 0 then j else 0) = mx2 0 j := fun j => rfl
  rw [e]
  have h0 : 0 ≤ mx2 0 ((ts.length : Int) - 1 - b) ∧ mx2 0 ((ts.length : Int) - 1 - b) ≤ (ts.length : Int) := by unfold mx2; split <;> omega
  exact ⟨.of_le h0.1 (by omega) (by omega) (by omega), fun l nl => q l _ nl (same_new nl) upd_same⟩
abbrev s_Post_taken : Stmt := inClass (top 23) 3
abbrev N_Post_taken : List Str := ["self", "number"]
theorem sc_Post_taken : FnScope N_Post_taken ["self", "number"] (defScope s_Post_taken) := ⟨rfl, rfl, rfl, by decide +kernel, rfl, by decide +kernel, by decide +kernel⟩
def sp_Post_taken (K : PySem.W.Frag) : Sp := fun vs H Q E => ∃ p tx b ts x, vs = [.ref p, x] ∧ PostAt K H p tx b ts ∧ 0 ≤ b ∧ b < 100000 ∧ ts.length < 100000 ∧ Kn H x ∧
  (∀ k v H', x = .int k → mx2 0 (ts.length - 1 - b) ≤ k → k < ts.length → atI ts k = some v → Same H H' → Q v H') ∧
  (amongV x (mx2 0 (ts.length - 1 - b)) (ts.length - 1) = false → ∀ H', Same H H' → E (.ref (He.ga K "NoLetter")) none H')
theorem ok_Post_taken {P : Program} {w : World} {K : PySem.W.Frag} {mg : Str → Option Value} {base : Heap} (F : FnP K ("Post", some "taken") "taken" "Post.taken" s_Post_taken) (hc : Cls K (He.ga K "Post")) (hm : Meth K (He.ga K "Post") "taken" (He.ma K (He.ga K "Post") "taken")) (bl : Blt mg) (hPost : PostF K) (m_Post_there : MCal P w K mg base 1 (He.ga K "Post") "there" (sp_Post_there K)) (c_is_among : Cal P w K mg base 1 "is_among" (sp_is_among K)) (e_NoLetter : ErrC K mg "NoLetter") : MCal P w K mg base 2 (He.ga K "Post") "taken" (sp_Post_taken K) := by
  refine fn_mcal F hc hm sc_Post_taken (fun vs H Q E => by walk_at "len") (fun _ _ _ _ _ _ us hl => match us, hl with | [_, _], _ => rfl) (fun f cdv A outer s H vs Q E hr h => ?_)
  have hu := hu_of hr
  obtain ⟨p, tx, b, ts, x, rfl, t, hb0, hb1, hl, hk, q1, q2⟩ := h
  obtain ⟨dx, hp⟩ := t.ins
  refine ⟨_, (pss_cons (ps_if (PW.pt (pw_or (pt_not (pt_val (pe_fn c_is_among (hr.mono (by decide)) (L2N.takes_of rfl rfl rfl rfl) (pa_cons (pv 1) (pa_cons pe_int (pa_cons (pe_op op_sub (pe_callB call_lenC (by rfl) (bl.len) (by decide +kernel) (pa_cons (pe_fld (pv 0) rfl) pa_nil)) pe_int) pa_nil)))))) (pw_or1 (pt_cmpR op_notInC (pv 1) (pe_mth0 (pv 0) m_Post_there (hr.mono (by decide)) (L2N.takes_of rfl rfl rfl rfl)) (by rfl)))))
  (pss_one (L2N.ps_raise rfl (L2N.takes_of rfl rfl rfl rfl) (L2N.pmk_own PySem.F.excBase_ValueError e_NoLetter.ex e_NoLetter.g e_NoLetter.k (raises_own e_NoLetter.s e_NoLetter.t) rfl)))
  pss_nil)
  (pss_one (ps_ret (pe_ix ix_C (pe_fld (pv 0) rfl) (pv 1) (fun _ _ => rfl))))), ?_⟩
  walk_at "st0"
  simp only [RDa, RDb, RDv, RDk, RDx, RDe, RDd, RDp, RDq, List.getElem?_cons_zero, List.getElem?_cons_succ, List.set_cons_zero, List.set_cons_succ, List.cons.injEq, List.cons_ne_nil, reduceCtorEq, exists_eq_left', exists_eq_left, exists_and_left, and_assoc, exists_const, true_and, and_true, if_true, if_false, false_and, and_false, exists_false, false_or, or_false, true_implies, false_implies, implies_true, forall_eq, forall_eq', Bool.false_eq_true, if_neg, decide_eq_true_eq, Bool.not_eq_true', decide_eq_false_iff_not, Bool.not_true, Bool.not_false, List.length_cons, List.length_nil, sizeLine_eq, Nat.reduceAdd, Nat.reduceLeDiff, Nat.reduceLT, Int.reduceLT, Int.reduceLE, Int.emod_nonneg, ne_eq, Int.reduceEq, not_false_eq_true, not_true_eq_false, hPost, PostL, hp, t.txt, lenO_lst t.txt, sp_is_among, hk, sp_Post_there]
  have hlo : 0 ≤ mx2 0 ((ts.length : Int) - 1 - b) ∧ mx2 0 ((ts.length : Int) - 1 - b) ≤ (ts.length : Int) := by unfold mx2; split <;> omega
  cases ha : amongV x 0 ((ts.length : Int) - 1) with
  | false =>
    rw [if_pos rfl]
    refine q2 ?_ H (Same.refl _)
    cases x <;> simp only [amongV] at ha ⊢
    rename_i k
    simp only [Bool.and_eq_false_iff, decide_eq_false_iff_not] at ha ⊢
    omega
  | true =>
    rw [if_neg (by decide)]
    obtain ⟨k, rfl⟩ : ∃ k, x = .int k := by
      cases x <;> simp only [amongV, Bool.false_eq_true, reduceCtorEq] at ha
      exact ⟨_, rfl⟩
    have hk2 : 0 ≤ k ∧ k ≤ (ts.length : Int) - 1 := by simpa [amongV] using ha
    refine ⟨tx, b, ts, t, hb0, hb1, hl, fun l H' nl s' a' => ⟨_, seqO_lst a', rfl, flat_rg _ _, ?_⟩⟩
    rw [inV_rg _ _ _ hlo.2]
    by_cases c : mx2 0 ((ts.length : Int) - 1 - b) ≤ k ∧ k < (ts.length : Int)
    · rw [if_neg (by rw [decide_eq_true c]; exact Bool.true_eq_false.mp)]
      have t' := t.same s'
      have e3 : k.toNat < ts.length := by omega
      have ea : atI ts k = some ts[k.toNat] := by
        have := atI_nat (List.getElem?_eq_getElem e3)
        rwa [show ((k.toNat : Nat) : Int) = k by omega] at this
      refine ⟨_, _, _, s' _ _ hp, hPost.1, hPost.2.2, _, rfl, tx, rfl, ts, k, rfl, seqO_lst t'.txt, _, ea, q1 k _ H' rfl c.1 c.2 ea s'⟩
    · rw [if_pos (decide_eq_false c)]
      refine q2 ?_ H' s'
      simp only [amongV, Bool.and_eq_false_iff, decide_eq_false_iff_not]
      omega
end RP

namespace RP
open PySem PySem.Spec PyProof.Rows L2
/-! the plain rows of a run -/
structure M where
  w : Int
  r : Int
  d : Int
  b : Int
  ring : Int
  tx : List Str
  base : Int
  top : Int
  want : Int
  out : List Str
  kept : List (Int × Str)
  ls : List (Int × Str)
  an : List Int
def M.begun (w r d b ring : Int) (tx : List Str) : M := ⟨w, r, d, b, ring, tx, 0, 0, 0, [], [], [], []⟩
/-- one of so many, there by the bound -/
def isT (n len bound : Int) : Bool := decide (mx2 0 (len - 1 - bound) ≤ n) && decide (n < len)
def M.last (m : M) : Int := mn2 (mn2 m.top (m.base + m.w - 1)) ((m.tx.length : Int) - 1)
def M.send (m : M) (k : Int) : Option (Int × M) :=
  if m.base ≤ k ∧ k ≤ m.last then some (m.ls.length, { m with top := sTop m.top k, ls := m.ls ++ [(k % m.ring, m.tx.getD k.toNat "")] }) else none
def M.handed (m : M) (q : Int × Str) : M :=
  { m with want := (tkCame m.r m.ring m.want m.out m.kept q.1 q.2).1, out := (tkCame m.r m.ring m.want m.out m.kept q.1 q.2).2.1, kept := (tkCame m.r m.ring m.want m.out m.kept q.1 q.2).2.2, an := m.an ++ [(tkCame m.r m.ring m.want m.out m.kept q.1 q.2).1 % m.ring] }
def M.hand (m : M) (n : Int) : Option (Int × M) :=
  if isT n m.ls.length m.d = true then some (m.an.length, m.handed (m.ls.getD n.toNat (0, ""))) else none
def M.tell (m : M) (n : Int) : Option (Int × M) :=
  if isT n m.an.length m.b = true then some (sBase m.base m.top m.ring (m.an.getD n.toNat 0), { m with base := sBase m.base m.top m.ring (m.an.getD n.toNat 0) }) else none
def M.step (m : M) (z : Str) (n : Int) : Option (Int × M) := if z = "send" then m.send n else if z = "hand" then m.hand n else m.tell n
def M.run (m : M) : List (Str × Int) → Option M
  | [] => some m
  | q :: t => (m.step q.1 q.2).bind fun c => c.2.run t
theorem M.run_snoc : ∀ (hs : List (Str × Int)) (m m1 m2 : M) (z : Str) (n t : Int), m.run hs = some m1 → m1.step z n = some (t, m2) → m.run (hs ++ [(z, n)]) = some m2
  | [], m, m1, m2, z, n, t, h, e => by
    cases h
    show (m.step z n).bind _ = _
    rw [e]
    rfl
  | q :: hs, m, m1, m2, z, n, t, h, e => by
    unfold M.run at h
    rw [List.cons_append]
    unfold M.run
    cases hq : m.step q.1 q.2 with
    | none => rw [hq] at h; cases h
    | some c =>
      rw [hq] at h
      exact M.run_snoc hs c.2 m1 m2 z n t h e
/-- sizes -/
structure M.Ok (m : M) (N : Nat) : Prop where
  w1 : 1 ≤ m.w
  w2 : m.w ≤ 20
  r1 : 1 ≤ m.r
  r2 : m.r ≤ 20
  d1 : 0 ≤ m.d
  d2 : m.d ≤ 20
  b1 : 0 ≤ m.b
  b2 : m.b ≤ 20
  g1 : 1 ≤ m.ring
  g2 : m.ring ≤ 200
  tx : m.tx.length ≤ 400
  ls : m.ls.length ≤ N
  an : m.an.length ≤ N
  ok : m.out.length + m.kept.length ≤ N
  b0 : 0 ≤ m.base
  t0 : m.top ≤ m.tx.length
  sx : ∀ x ∈ m.tx, TxtOk 40 x
  so : ∀ x ∈ m.out, TxtOk 40 x
  sk : ∀ q ∈ m.kept, TxtOk 40 q.2
  sl : ∀ q ∈ m.ls, TxtOk 40 q.2
theorem M.Ok.mono {m : M} {N N' : Nat} (h : m.Ok N) (l : N ≤ N') : m.Ok N' :=
  { h with ls := Nat.le_trans h.ls l, an := Nat.le_trans h.an l, ok := Nat.le_trans h.ok l }
theorem drain_len : ∀ (f : Nat) (w : Int) (g : List Str) (h : List (Int × Str)), (drain f w g h).2.1.length + (drain f w g h).2.2.length ≤ g.length + h.length
  | 0, w, g, h => Nat.le_refl _
  | f + 1, w, g, h => by
    unfold drain
    cases e : hget h w with
    | none => exact Nat.le_refl _
    | some x =>
      dsimp only
      refine Nat.le_trans (drain_len f _ _ _) ?_
      have := hdrop_lt e
      rw [List.length_append, List.length_singleton]
      omega
theorem came_len (room ring w : Int) (g : List Str) (hd : List (Int × Str)) (n : Int) (x : Str) : (tkCame room ring w g hd n x).2.1.length + (tkCame room ring w g hd n x).2.2.length ≤ g.length + hd.length + 1 := by
  unfold tkCame drained
  have h1 := drain_len (tkPut room ring w hd n x).length w g (tkPut room ring w hd n x)
  have h2 := tkPut_le room ring w hd n x
  omega
theorem drain_all {P : Str → Prop} : ∀ (f : Nat) (w : Int) (g : List Str) (h : List (Int × Str)), (∀ x ∈ g, P x) → (∀ q ∈ h, P q.2) → (∀ x ∈ (drain f w g h).2.1, P x) ∧ (∀ q ∈ (drain f w g h).2.2, P q.2)
  | 0, w, g, h, h1, h2 => ⟨h1, h2⟩
  | f + 1, w, g, h, h1, h2 => by
    unfold drain
    cases e : hget h w with
    | none => exact ⟨h1, h2⟩
    | some x =>
      dsimp only
      refine drain_all f _ _ _ (fun y hy => ?_) fun q hq => h2 q (List.mem_filter.mp hq).1
      rcases List.mem_append.mp hy with z | z
      · exact h1 y z
      · rw [List.mem_singleton.mp z]
        unfold hget at e
        obtain ⟨p, e1, e2⟩ := Option.map_eq_some_iff.mp e
        rw [← e2]
        exact h2 p (List.mem_of_find?_eq_some e1)
theorem came_all {P : Str → Prop} {room ring w : Int} {g : List Str} {hd : List (Int × Str)} {n : Int} {x : Str} (h1 : ∀ y ∈ g, P y) (h2 : ∀ q ∈ hd, P q.2) (h3 : P x) : (∀ y ∈ (tkCame room ring w g hd n x).2.1, P y) ∧ (∀ q ∈ (tkCame room ring w g hd n x).2.2, P q.2) := by
  unfold tkCame drained
  refine drain_all (tkPut room ring w hd n x).length w g (tkPut room ring w hd n x) h1 fun q hq => ?_
  unfold tkPut at hq
  split at hq
  · rcases List.mem_append.mp hq with z | z
    · exact h2 q z
    · rw [List.mem_singleton.mp z]
      exact h3
  · exact h2 q hq
theorem txt_empty (n : Nat) : TxtOk n "" := ⟨by decide +kernel, by rw [show ("" : Str).length = 0 by decide +kernel]; exact Nat.zero_le _⟩
theorem sBase_ge {b t r n : Int} (hr : 0 < r) : b ≤ sBase b t r n := by
  unfold sBase
  have := Int.emod_nonneg (n - b) (Int.ne_of_gt hr)
  split <;> omega
theorem M.step_const {m m' : M} {z : Str} {n t : Int} (e : m.step z n = some (t, m')) : m'.w = m.w ∧ m'.r = m.r ∧ m'.d = m.d ∧ m'.b = m.b ∧ m'.ring = m.ring ∧ m'.tx = m.tx := by
  unfold M.step M.send M.hand M.tell at e
  split at e
  · split at e
    · cases e; exact ⟨rfl, rfl, rfl, rfl, rfl, rfl⟩
    · cases e
  · split at e
    · split at e
      · cases e; exact ⟨rfl, rfl, rfl, rfl, rfl, rfl⟩
      · cases e
    · split at e
      · cases e; exact ⟨rfl, rfl, rfl, rfl, rfl, rfl⟩
      · cases e
theorem M.Ok.step {m m' : M} {N : Nat} {z : Str} {n t : Int} (h : m.Ok N) (e : m.step z n = some (t, m')) : m'.Ok (N + 1) ∧ m'.w = m.w ∧ m'.r = m.r ∧ m'.d = m.d ∧ m'.b = m.b ∧ m'.ring = m.ring ∧ m'.tx = m.tx := by
  have h1 := h.ls
  have h2 := h.an
  have h3 := h.ok
  unfold M.step at e
  split at e
  · unfold M.send at e
    split at e
    · rename_i c
      cases e
      refine ⟨{ h with ls := ?_, an := by show m.an.length ≤ _; omega, ok := by show m.out.length + m.kept.length ≤ _; omega, t0 := ?_, sl := ?_ }, rfl, rfl, rfl, rfl, rfl, rfl⟩
      · show (m.ls ++ [_]).length ≤ _
        rw [List.length_append, List.length_singleton]
        omega
      · show sTop m.top n ≤ _
        have ht := h.t0
        have hl := c.2
        unfold M.last mn2 at hl
        unfold sTop
        split
        · show m.top + 1 ≤ (m.tx.length : Int)
          split at hl <;> (try split at hl) <;> omega
        · exact ht
      · show ∀ q ∈ m.ls ++ [_], TxtOk 40 q.2
        intro q hq
        rcases List.mem_append.mp hq with z | z
        · exact h.sl q z
        · rw [List.mem_singleton.mp z]
          exact getD_all h.sx (txt_empty 40) _
    · cases e
  · split at e
    · unfold M.hand at e
      split at e
      · cases e
        have h4 := came_len m.r m.ring m.want m.out m.kept (m.ls.getD n.toNat (0, "")).1 (m.ls.getD n.toNat (0, "")).2
        have h5 := came_all (room := m.r) (ring := m.ring) (w := m.want) (n := (m.ls.getD n.toNat (0, "")).1) h.so h.sk (getD_all (p := fun q : Int × Str => TxtOk 40 q.2) (d := ((0 : Int), ("" : Str))) h.sl (txt_empty 40) n.toNat)
        refine ⟨{ h with ls := by show m.ls.length ≤ _; omega, an := ?_, ok := ?_, so := h5.1, sk := h5.2 }, rfl, rfl, rfl, rfl, rfl, rfl⟩
        · show (m.an ++ [_]).length ≤ _
          rw [List.length_append, List.length_singleton]
          omega
        · show (tkCame m.r m.ring m.want m.out m.kept (m.ls.getD n.toNat (0, "")).1 (m.ls.getD n.toNat (0, "")).2).2.1.length + (tkCame m.r m.ring m.want m.out m.kept (m.ls.getD n.toNat (0, "")).1 (m.ls.getD n.toNat (0, "")).2).2.2.length ≤ _
          omega
      · cases e
    · unfold M.tell at e
      split at e
      · cases e
        have hb := h.b0
        refine ⟨{ h with ls := by show m.ls.length ≤ _; omega, an := by show m.an.length ≤ _; omega, ok := by show m.out.length + m.kept.length ≤ _; omega, b0 := ?_ }, rfl, rfl, rfl, rfl, rfl, rfl⟩
        exact Int.le_trans hb (sBase_ge (by have := h.g1; omega))
      · cases e
theorem M.begun_ok {w r d b ring : Int} {tx : List Str} (c : 1 ≤ w ∧ w ≤ 20 ∧ 1 ≤ r ∧ r ≤ w ∧ 0 ≤ d ∧ d ≤ 20 ∧ 0 ≤ b ∧ b ≤ 20) (h1 : 1 ≤ ring) (h2 : ring ≤ 200) (h3 : tx.length ≤ 400) (h4 : ∀ x ∈ tx, TxtOk 40 x) (N : Nat) : (M.begun w r d b ring tx).Ok N where
  w1 := c.1
  w2 := c.2.1
  r1 := c.2.2.1
  r2 := by show r ≤ 20; omega
  d1 := c.2.2.2.2.1
  d2 := c.2.2.2.2.2.1
  b1 := c.2.2.2.2.2.2.1
  b2 := c.2.2.2.2.2.2.2
  g1 := h1
  g2 := h2
  tx := h3
  ls := Nat.zero_le _
  an := Nat.zero_le _
  ok := Nat.zero_le _
  b0 := Int.le_refl _
  t0 := Int.natCast_nonneg _
  sx := h4
  so := fun _ m => by cases m
  sk := fun _ m => by cases m
  sl := fun _ m => by cases m
theorem mn2_le {a b c : Int} : c ≤ mn2 a b ↔ c ≤ a ∧ c ≤ b := by unfold mn2; split <;> omega
theorem last_le {m : M} {k : Int} : k ≤ m.last ↔ k ≤ m.top ∧ k ≤ m.base + m.w - 1 ∧ k ≤ (m.tx.length : Int) - 1 := by
  unfold M.last
  rw [mn2_le, mn2_le, and_assoc]
theorem mx2_le {a b c : Int} : mx2 a b ≤ c ↔ a ≤ c ∧ b ≤ c := by unfold mx2; split <;> omega
theorem isT_iff {n len bound : Int} : isT n len bound = true ↔ 0 ≤ n ∧ len - 1 - bound ≤ n ∧ n < len := by
  unfold isT
  rw [Bool.and_eq_true, decide_eq_true_eq, decide_eq_true_eq, mx2_le, and_assoc]
theorem M.run_const : ∀ (hs : List (Str × Int)) (m m' : M), m.run hs = some m' → m'.w = m.w ∧ m'.r = m.r ∧ m'.d = m.d ∧ m'.b = m.b ∧ m'.ring = m.ring ∧ m'.tx = m.tx
  | [], m, m', h => by cases h; exact ⟨rfl, rfl, rfl, rfl, rfl, rfl⟩
  | q :: t, m, m', h => by
    unfold M.run at h
    cases e : m.step q.1 q.2 with
    | none => rw [e] at h; cases h
    | some c =>
      rw [e] at h
      have h1 := M.run_const t c.2 m' h
      have h2 := M.step_const (t := c.1) (m' := c.2) e
      exact ⟨h1.1.trans h2.1, h1.2.1.trans h2.2.1, h1.2.2.1.trans h2.2.2.1, h1.2.2.2.1.trans h2.2.2.2.1, h1.2.2.2.2.1.trans h2.2.2.2.2.1, h1.2.2.2.2.2.trans h2.2.2.2.2.2⟩
theorem M.Ok.run : ∀ (hs : List (Str × Int)) (m m' : M) (N : Nat), m.Ok N → m.run hs = some m' → m'.Ok (N + hs.length)
  | [], m, m', N, h, e => by cases e; exact h
  | q :: t, m, m', N, h, e => by
    unfold M.run at e
    cases e1 : m.step q.1 q.2 with
    | none => rw [e1] at e; cases e
    | some c =>
      rw [e1] at e
      have := M.Ok.run t c.2 m' (N + 1) (h.step (t := c.1) (m' := c.2) e1).1 e
      rw [List.length_cons, show N + (t.length + 1) = N + 1 + t.length by omega]
      exact this
def M.isWrong (m : M) : Bool := !decide (m.out = m.tx.take m.out.length) || decide ((m.out.length : Int) < m.base)
/-- the numbers that are there -/
def thereN (len : Nat) (bound : Int) : List Nat := (List.range (len - (mx2 0 (len - 1 - bound)).toNat)).map fun i => (mx2 0 ((len : Int) - 1 - bound)).toNat + i
/-- some word of the error that refuses a step -/
def errOf (z : Str) : Str := if z = "send" then "NotNow" else "NoLetter"
end RP

namespace RP
open PySem PySem.Spec PyProof.Rows L2
/-! nothing goes wrong with a ring that is large enough -/
theorem hget_none {h : List (Int × Str)} {k : Int} : hget h k = none ↔ ∀ q ∈ h, q.1 ≠ k := by
  unfold hget
  rw [Option.map_eq_none_iff, List.find?_eq_none]
  simp only [decide_eq_true_eq]
theorem hget_mem {h : List (Int × Str)} {k : Int} {x : Str} (e : hget h k = some x) : (k, x) ∈ h := by
  unfold hget at e
  obtain ⟨p, e1, e2⟩ := Option.map_eq_some_iff.mp e
  have m := List.mem_of_find?_eq_some e1
  have pk := List.find?_some e1
  simp only [decide_eq_true_eq] at pk
  rw [← pk, ← e2]
  exact m
theorem hdrop_mem {h : List (Int × Str)} {k : Int} {q : Int × Str} : q ∈ hdrop h k ↔ q ∈ h ∧ q.1 ≠ k := by
  unfold hdrop
  rw [List.mem_filter, decide_eq_true_eq]
/-- keys that are unlike, in a span, are few -/
theorem span_le : ∀ (l : List Int) (a b : Int), l.Nodup → (∀ x ∈ l, a ≤ x ∧ x < b) → (l.length : Int) ≤ (if a ≤ b then b - a else 0)
  | [], a, b, _, _ => by
    split
    · show (0 : Int) ≤ _; omega
    · exact Int.le_refl _
  | x :: l, a, b, nd, h => by
    -- move the last value of the span to the place of x
    have hx := h x (by simp)
    rw [List.nodup_cons] at nd
    have h2 := span_le (l.map fun y => if y = b - 1 then x else y) a (b - 1) ?_ ?_
    · rw [List.length_map] at h2
      rw [if_pos (by omega)]
      rw [List.length_cons]
      split at h2 <;> omega
    · rw [List.nodup_iff_pairwise_ne, List.pairwise_map]
      have p := List.nodup_iff_pairwise_ne.mp nd.2
      refine (List.pairwise_iff_forall_sublist.mpr fun {y z} s => ?_)
      have ne := List.pairwise_iff_forall_sublist.mp p s
      have ym : y ∈ l := s.subset (by simp)
      have zm : z ∈ l := s.subset (by simp)
      have yx : y ≠ x := fun e => nd.1 (e ▸ ym)
      have zx : z ≠ x := fun e => nd.1 (e ▸ zm)
      split <;> split <;> omega
    · intro y hy
      obtain ⟨z, zm, rfl⟩ := List.mem_map.mp hy
      have hz := h z (by simp [zm])
      have zx : z ≠ x := fun e => nd.1 (e ▸ zm)
      split <;> omega
termination_by l => l.length
/-- what is kept ahead of a place -/
structure Kept (tx : List Str) (lo hi : Int) (h : List (Int × Str)) : Prop where
  nd : (h.map (·.1)).Nodup
  rg : ∀ q ∈ h, lo ≤ q.1 ∧ q.1 < hi ∧ q.2 = tx.getD q.1.toNat ""
theorem Kept.len {tx : List Str} {lo hi : Int} {h : List (Int × Str)} (k : Kept tx lo hi h) (l : lo ≤ hi) : (h.length : Int) ≤ hi - lo := by
  have := span_le (h.map (·.1)) lo hi k.nd (fun x hx => by
    obtain ⟨q, qm, rfl⟩ := List.mem_map.mp hx
    exact ⟨(k.rg q qm).1, (k.rg q qm).2.1⟩)
  rw [List.length_map, if_pos l] at this
  exact this
theorem Kept.drop {tx : List Str} {lo hi : Int} {h : List (Int × Str)} (k : Kept tx lo hi h) : Kept tx (lo + 1) hi (hdrop h lo) := by
  refine ⟨?_, fun q hq => ?_⟩
  · exact k.nd.sublist (List.Sublist.map _ List.filter_sublist)
  · obtain ⟨h1, h2⟩ := hdrop_mem.mp hq
    have := k.rg q h1
    exact ⟨by omega, this.2⟩
theorem drain_good (tx : List Str) : ∀ (f : Nat) (w : Int) (g : List Str) (h : List (Int × Str)) (hi : Int), h.length ≤ f → 0 ≤ w → w ≤ hi → hi ≤ tx.length → g = tx.take w.toNat → Kept tx w hi h →
    w ≤ (drain f w g h).1 ∧ (drain f w g h).1 ≤ hi ∧ (drain f w g h).2.1 = tx.take (drain f w g h).1.toNat ∧ Kept tx ((drain f w g h).1 + 1) hi (drain f w g h).2.2 ∧ (∀ q ∈ (drain f w g h).2.2, q ∈ h) ∧ (drain f w g h).1 + ((drain f w g h).2.2.length : Int) ≤ w + h.length
  | 0, w, g, h, hi, hl, h0, h1, h2, hg, k => by
    have e : h = [] := List.length_eq_zero_iff.mp (Nat.le_zero.mp hl)
    subst e
    exact ⟨Int.le_refl _, h1, hg, ⟨List.nodup_nil, fun _ m => by cases m⟩, fun _ m => m, Int.le_refl _⟩
  | f + 1, w, g, h, hi, hl, h0, h1, h2, hg, k => by
    unfold drain
    cases e : hget h w with
    | none =>
      dsimp only
      refine ⟨Int.le_refl _, h1, hg, ⟨k.nd, fun q hq => ?_⟩, fun _ m => m, Int.le_refl _⟩
      have h3 := hget_none.mp e q hq
      have h4 := k.rg q hq
      exact ⟨by omega, h4.2⟩
    | some x =>
      dsimp only
      have hm := hget_mem e
      have h3 := k.rg _ hm
      have hlt := hdrop_lt e
      have wl : w.toNat < tx.length := by omega
      have hx : x = tx[w.toNat] := by
        have h5 := h3.2.2
        dsimp only at h5
        rw [h5, List.getD_eq_getElem?_getD, List.getElem?_eq_getElem wl]
        rfl
      obtain ⟨a1, a2, a3, a4, a5, a6⟩ := drain_good tx f (w + 1) (g ++ [x]) (hdrop h w) hi (by omega) (by omega) (by omega) h2 (by
        rw [hg, hx, show (w + 1).toNat = w.toNat + 1 by omega, List.take_succ, List.getElem?_eq_getElem wl]
        rfl) k.drop
      exact ⟨by omega, a2, a3, a4, fun q hq => (hdrop_mem.mp (a5 q hq)).1, by omega⟩
/-- what a letter brings, by its true place -/
def aPut (r w : Int) (hd : List (Int × Str)) (k : Int) (x : Str) : List (Int × Str) := if w ≤ k ∧ k < w + r ∧ hget hd k = none then hd ++ [(k, x)] else hd
theorem put_eq {r ring w : Int} {hd : List (Int × Str)} {k : Int} {x : Str} (h1 : w + r - ring ≤ k) (h2 : k < w + ring) (h3 : 0 < ring) (h4 : r ≤ ring) (h5 : 0 ≤ r) : tkPut r ring w hd (k % ring) x = aPut r w hd k x := by
  have e : (k % ring - w) % ring = (k - w) % ring := by rw [Int.emod_sub_emod]
  unfold tkPut aPut
  rw [e]
  by_cases c : w ≤ k
  · rw [Int.emod_eq_of_lt (by omega) (by omega), show w + (k - w) = k by omega]
    by_cases c2 : k < w + r ∧ hget hd k = none
    · rw [if_pos ⟨by omega, c2.2⟩, if_pos ⟨c, c2.1, c2.2⟩]
    · rw [if_neg (fun h => c2 ⟨by omega, h.2⟩), if_neg (fun h => c2 ⟨h.2.1, h.2.2⟩)]
  · have e2 : (k - w) % ring = k - w + ring := by
      rw [← Int.add_emod_right]
      exact Int.emod_eq_of_lt (by omega) (by omega)
    rw [e2, if_neg (fun h => by omega), if_neg (fun h => c h.1)]
/-- all is right, by the letters' and answers' true numbers -/
structure Good (m : M) (ks vs : List Int) : Prop where
  ls : m.ls = ks.map fun k => (k % m.ring, m.tx.getD k.toNat "")
  an : m.an = vs.map fun v => v % m.ring
  b0 : 0 ≤ m.base
  bw : m.base ≤ m.want
  wt : m.want ≤ m.top
  tb : m.top ≤ m.base + m.w
  tl : m.top ≤ m.tx.length
  out : m.out = m.tx.take m.want.toNat
  kp : Kept m.tx (m.want + 1) m.top m.kept
  kr : ∀ q ∈ m.kept, q.1 < m.want + m.r
  lw : ∀ (i : Nat) (k : Int), ks[i]? = some k → 0 ≤ k ∧ k < m.top ∧ m.top ≤ k + m.w + ((ks.length : Int) - 1 - i)
  aw : ∀ (i : Nat) (v : Int), vs[i]? = some v → 0 ≤ v ∧ v ≤ m.want ∧ m.want + m.kept.length ≤ v + (m.r - 1) + ((vs.length : Int) - 1 - i)
  la : m.want = vs.getLastD 0
/-- such a ring -/
def Big (m : M) : Prop := 1 ≤ m.w ∧ 1 ≤ m.r ∧ m.r ≤ m.w ∧ 0 ≤ m.d ∧ 0 ≤ m.b ∧ m.w + m.r + mx2 m.d m.b ≤ m.ring
theorem Good.begun {w r d b ring : Int} {tx : List Str} (h : 1 ≤ w) : Good (M.begun w r d b ring tx) [] [] where
  ls := rfl
  an := rfl
  b0 := Int.le_refl _
  bw := Int.le_refl _
  wt := Int.le_refl _
  tb := by show (0 : Int) ≤ 0 + w; omega
  tl := Int.natCast_nonneg _
  out := rfl
  kp := ⟨List.nodup_nil, fun _ m => by cases m⟩
  kr := fun _ m => by cases m
  lw := fun i k e => by cases e
  aw := fun i k e => by cases e
  la := rfl
def sentM (m : M) (k : Int) : M := { m with top := sTop m.top k, ls := m.ls ++ [(k % m.ring, m.tx.getD k.toNat "")] }
theorem Good.send {m : M} {ks vs : List Int} (g : Good m ks vs) {k : Int} (h1 : m.base ≤ k) (h2 : k ≤ m.last) : Good (sentM m k) (ks ++ [k]) vs := by
  obtain ⟨l1, l2, l3⟩ := last_le.mp h2
  have hb := g.b0
  have ht : m.top ≤ sTop m.top k ∧ sTop m.top k ≤ m.top + 1 ∧ k < sTop m.top k ∧ sTop m.top k ≤ m.base + m.w ∧ sTop m.top k ≤ m.tx.length := by
    have := g.tb
    have := g.tl
    unfold sTop
    split <;> omega
  refine ⟨?_, g.an, g.b0, g.bw, Int.le_trans g.wt ht.1, ht.2.2.2.1, ht.2.2.2.2, g.out, ⟨g.kp.nd, fun q hq => ?_⟩, g.kr, fun i k' e => ?_, g.aw, g.la⟩
  · show m.ls ++ [_] = _
    rw [g.ls, List.map_append]
    rfl
  · have := g.kp.rg q hq
    exact ⟨this.1, by show q.1 < sTop m.top k; omega, this.2.2⟩
  · show 0 ≤ k' ∧ k' < sTop m.top k ∧ sTop m.top k ≤ k' + m.w + (((ks ++ [k]).length : Int) - 1 - i)
    rw [List.length_append, List.length_singleton]
    by_cases c : i < ks.length
    · rw [List.getElem?_append_left c] at e
      have := g.lw i k' e
      omega
    · rw [List.getElem?_append_right (by omega)] at e
      have hi : i - ks.length = 0 := by
        have := (List.getElem?_eq_some_iff.mp e).1
        simp at this
        omega
      rw [hi] at e
      cases e
      omega
/-- what a letter brings to a good row -/
def aHand (m : M) (k : Int) : Int × List Str × List (Int × Str) := drained m.want m.out (aPut m.r m.want m.kept k (m.tx.getD k.toNat ""))
theorem Good.came {m : M} {ks vs : List Int} (g : Good m ks vs) (bg : Big m) {n k : Int} (hn : isT n m.ls.length m.d = true) (hk : ks[n.toNat]? = some k) :
    tkCame m.r m.ring m.want m.out m.kept (k % m.ring) (m.tx.getD k.toNat "") = aHand m k := by
  obtain ⟨w1, r1, rw1, d0, b0, hr⟩ := bg
  obtain ⟨n0, n1, n2⟩ := isT_iff.mp hn
  have hl : m.ls.length = ks.length := by rw [g.ls, List.length_map]
  have hx := (mx2_le (c := mx2 m.d m.b)).mp (Int.le_refl _)
  have := g.lw _ _ hk
  have := g.wt
  have := g.tb
  have := g.bw
  unfold tkCame aHand
  rw [put_eq (by omega) (by omega) (by omega) (by omega) (by omega)]
theorem aPut_kept {m : M} {ks vs : List Int} (g : Good m ks vs) {k : Int} (r1 : 1 ≤ m.r) (h : k < m.top) : Kept m.tx m.want m.top (aPut m.r m.want m.kept k (m.tx.getD k.toNat "")) ∧ (∀ q ∈ aPut m.r m.want m.kept k (m.tx.getD k.toNat ""), q.1 < m.want + m.r) ∧ (aPut m.r m.want m.kept k (m.tx.getD k.toNat "")).length ≤ m.kept.length + 1 := by
  have old : Kept m.tx m.want m.top m.kept := ⟨g.kp.nd, fun q hq => by have := g.kp.rg q hq; exact ⟨by omega, this.2⟩⟩
  unfold aPut
  split
  · rename_i c
    refine ⟨⟨?_, fun q hq => ?_⟩, fun q hq => ?_, by rw [List.length_append]; exact Nat.le_refl _⟩
    · rw [List.map_append, List.nodup_append]
      refine ⟨old.nd, by simp, fun a ha b hb e => ?_⟩
      obtain ⟨q, qm, rfl⟩ := List.mem_map.mp ha
      have : b = k := by simpa using hb
      exact hget_none.mp c.2.2 q qm (by omega)
    · rcases List.mem_append.mp hq with z | z
      · exact old.rg q z
      · have : q = (k, m.tx.getD k.toNat "") := by simpa using z
        subst this
        exact ⟨c.1, h, rfl⟩
    · rcases List.mem_append.mp hq with z | z
      · exact g.kr q z
      · have : q = (k, m.tx.getD k.toNat "") := by simpa using z
        subst this
        exact c.2.1
  · exact ⟨old, g.kr, by omega⟩
theorem aHand_good {m : M} {ks vs : List Int} (g : Good m ks vs) (r1 : 1 ≤ m.r) {k : Int} (h : k < m.top) :
    m.want ≤ (aHand m k).1 ∧ (aHand m k).1 ≤ m.top ∧ (aHand m k).2.1 = m.tx.take (aHand m k).1.toNat ∧ Kept m.tx ((aHand m k).1 + 1) m.top (aHand m k).2.2 ∧ (∀ q ∈ (aHand m k).2.2, q.1 < m.want + m.r) ∧ (aHand m k).1 + ((aHand m k).2.2.length : Int) ≤ m.want + m.kept.length + 1 := by
  obtain ⟨k1, k2, k3⟩ := aPut_kept g r1 h
  have hw := g.wt
  have hb := g.bw
  have h0 := g.b0
  obtain ⟨a1, a2, a3, a4, a5, a6⟩ := drain_good m.tx _ m.want m.out (aPut m.r m.want m.kept k (m.tx.getD k.toNat "")) m.top (Nat.le_refl _) (by omega) (by omega) g.tl g.out k1
  exact ⟨a1, a2, a3, a4, fun q hq => k2 q (a5 q hq), by unfold aHand drained; omega⟩
theorem Good.hand {m : M} {ks vs : List Int} (g : Good m ks vs) (bg : Big m) {n k : Int} (hn : isT n m.ls.length m.d = true) (hk : ks[n.toNat]? = some k) :
    Good (m.handed (m.ls.getD n.toNat (0, ""))) ks (vs ++ [(aHand m k).1]) ∧ (m.handed (m.ls.getD n.toNat (0, ""))).want = (aHand m k).1 ∧ (m.handed (m.ls.getD n.toNat (0, ""))).out = (aHand m k).2.1 ∧ (m.handed (m.ls.getD n.toNat (0, ""))).kept = (aHand m k).2.2 := by
  have eq : m.ls.getD n.toNat (0, "") = (k % m.ring, m.tx.getD k.toNat "") := by
    rw [g.ls, List.getD_eq_getElem?_getD, List.getElem?_map, hk]
    rfl
  have ec := g.came bg hn hk
  have hw := (g.lw _ _ hk).2.1
  obtain ⟨a1, a2, a3, a4, a5, a6⟩ := aHand_good g bg.2.1 hw
  rw [eq]
  have eM : m.handed (k % m.ring, m.tx.getD k.toNat "") = { m with want := (aHand m k).1, out := (aHand m k).2.1, kept := (aHand m k).2.2, an := m.an ++ [(aHand m k).1 % m.ring] } := by
    unfold M.handed
    dsimp only
    rw [ec]
  rw [eM]
  have hb := g.bw
  have hr1 := bg.2.1
  have hsp := span_le ((aHand m k).2.2.map (·.1)) ((aHand m k).1 + 1) (m.want + m.r) a4.nd (fun x hx => by
    obtain ⟨q, qm, rfl⟩ := List.mem_map.mp hx
    exact ⟨(a4.rg q qm).1, a5 q qm⟩)
  rw [List.length_map] at hsp
  refine ⟨⟨g.ls, ?_, g.b0, by show m.base ≤ (aHand m k).1; omega, a2, g.tb, g.tl, a3, a4, fun q hq => ?_, g.lw, fun i v e => ?_, ?_⟩, rfl, rfl, rfl⟩
  · show m.an ++ [_] = _
    rw [g.an, List.map_append]
    rfl
  · show q.1 < (aHand m k).1 + m.r
    have := a5 q hq
    omega
  · show 0 ≤ v ∧ v ≤ (aHand m k).1 ∧ (aHand m k).1 + ((aHand m k).2.2.length : Int) ≤ v + (m.r - 1) + (((vs ++ [(aHand m k).1]).length : Int) - 1 - i)
    rw [List.length_append, List.length_singleton]
    by_cases c : i < vs.length
    · rw [List.getElem?_append_left c] at e
      have := g.aw i v e
      omega
    · rw [List.getElem?_append_right (by omega)] at e
      have hi : i - vs.length = 0 := by
        have := (List.getElem?_eq_some_iff.mp e).1
        simp at this
        omega
      rw [hi] at e
      cases e
      have := g.b0
      split at hsp <;> omega
  · show (aHand m k).1 = (vs ++ [(aHand m k).1]).getLastD 0
    simp
/-- the base behind an answer, by its true number -/
theorem Good.heard {m : M} {ks vs : List Int} (g : Good m ks vs) (bg : Big m) {n v : Int} (hn : isT n m.an.length m.b = true) (hv : vs[n.toNat]? = some v) :
    sBase m.base m.top m.ring (m.an.getD n.toNat 0) = mx2 m.base v := by
  have eq : m.an.getD n.toNat 0 = v % m.ring := by
    rw [g.an, List.getD_eq_getElem?_getD, List.getElem?_map, hv]
    rfl
  obtain ⟨w1, r1, rw1, d0, b0, hr⟩ := bg
  obtain ⟨n0, n1, n2⟩ := isT_iff.mp hn
  have hl : m.an.length = vs.length := by rw [g.an, List.length_map]
  have hx := (mx2_le (c := mx2 m.d m.b)).mp (Int.le_refl _)
  have h1 := g.aw _ _ hv
  have h2 := g.wt
  have h3 := g.tb
  have h4 := g.bw
  rw [eq]
  unfold sBase mx2
  rw [Int.emod_sub_emod]
  by_cases c : m.base ≤ v
  · rw [Int.emod_eq_of_lt (by omega) (by omega), show m.base + (v - m.base) = v by omega, if_pos (by omega)]
    split <;> omega
  · have e2 : (v - m.base) % m.ring = v - m.base + m.ring := by
      rw [← Int.add_emod_right]
      exact Int.emod_eq_of_lt (by omega) (by omega)
    rw [e2, if_neg (by omega), if_neg (by omega)]
theorem Good.tell {m : M} {ks vs : List Int} (g : Good m ks vs) (bg : Big m) {n v : Int} (hn : isT n m.an.length m.b = true) (hv : vs[n.toNat]? = some v) : Good { m with base := mx2 m.base v } ks vs := by
  obtain ⟨i1, i2, i3⟩ := isT_iff.mp hn
  have h1 := g.aw _ _ hv
  have hb := g.b0
  have hw := g.bw
  have ht := g.tb
  have e : m.base ≤ mx2 m.base v ∧ mx2 m.base v ≤ m.want := by unfold mx2; split <;> omega
  refine ⟨g.ls, g.an, by show 0 ≤ mx2 m.base v; omega, e.2, g.wt, by show m.top ≤ mx2 m.base v + m.w; omega, g.tl, g.out, g.kp, g.kr, g.lw, g.aw, g.la⟩
/-- a step of a good row, by the true numbers -/
theorem Good.step {m m' : M} {ks vs : List Int} (g : Good m ks vs) (bg : Big m) {z : Str} {n t : Int} (hz : isWord z) (e : m.step z n = some (t, m')) : (∃ ks' vs', Good m' ks' vs') ∧ Big m' := by
  unfold M.step at e
  split at e
  · unfold M.send at e
    split at e
    · rename_i c
      cases e
      exact ⟨⟨_, _, g.send c.1 c.2⟩, bg⟩
    · cases e
  · split at e
    · unfold M.hand at e
      split at e
      · rename_i hn
        cases e
        obtain ⟨i1, i2, i3⟩ := isT_iff.mp hn
        have hl : m.ls.length = ks.length := by rw [g.ls, List.length_map]
        have hk : ks[n.toNat]? = some ks[n.toNat] := List.getElem?_eq_getElem (by omega)
        exact ⟨⟨_, _, (g.hand bg hn hk).1⟩, bg⟩
      · cases e
    · unfold M.tell at e
      split at e
      · rename_i hn
        cases e
        obtain ⟨i1, i2, i3⟩ := isT_iff.mp hn
        have hl : m.an.length = vs.length := by rw [g.an, List.length_map]
        have hk : vs[n.toNat]? = some vs[n.toNat] := List.getElem?_eq_getElem (by omega)
        rw [g.heard bg hn hk]
        exact ⟨⟨_, _, g.tell bg hn hk⟩, bg⟩
      · cases e
/-- nothing is wrong -/
theorem Good.right {m : M} {ks vs : List Int} (g : Good m ks vs) : m.out = m.tx.take m.out.length ∧ (m.out.length : Int) = m.want ∧ m.base ≤ m.out.length := by
  have h1 := g.b0
  have h2 := g.bw
  have h3 := g.wt
  have h4 := g.tl
  have hl : m.out.length = m.want.toNat := by rw [g.out, List.length_take]; omega
  refine ⟨?_, by omega, by omega⟩
  rw [hl]
  exact g.out
end RP

namespace RP
open PySem PySem.Spec PyProof.Rows L2 L2H
/-- the attributes of a Run -/
def flRun (a0 : Addr) (a1 : Int) (a2 : Addr) (a3 : Addr) (a4 : Addr) (a5 : Addr) (a6 : Addr) (a7 : Addr) : List (Str × V) := [(("bounds" : Str), V.ref a0), (("ring" : Str), V.int a1), (("lore" : Str), V.ref a2), (("one" : Str), V.ref a3), (("other" : Str), V.ref a4), (("forth" : Str), V.ref a5), (("home" : Str), V.ref a6), (("steps" : Str), V.ref a7)]
abbrev RunF (K : PySem.W.Frag) : Prop := Cls K (He.ga K "Run") ∧ NoAttr K (He.ga K "Run") "bounds" ∧ NoAttr K (He.ga K "Run") "ring" ∧ NoAttr K (He.ga K "Run") "lore" ∧ NoAttr K (He.ga K "Run") "one" ∧ NoAttr K (He.ga K "Run") "other" ∧ NoAttr K (He.ga K "Run") "forth" ∧ NoAttr K (He.ga K "Run") "home" ∧ NoAttr K (He.ga K "Run") "steps"
theorem flRun_inj (a0 : Addr) (a1 : Int) (a2 : Addr) (a3 : Addr) (a4 : Addr) (a5 : Addr) (a6 : Addr) (a7 : Addr) (b0 : Addr) (b1 : Int) (b2 : Addr) (b3 : Addr) (b4 : Addr) (b5 : Addr) (b6 : Addr) (b7 : Addr) : (flRun a0 a1 a2 a3 a4 a5 a6 a7 = flRun b0 b1 b2 b3 b4 b5 b6 b7) = (a0 = b0 ∧ a1 = b1 ∧ a2 = b2 ∧ a3 = b3 ∧ a4 = b4 ∧ a5 = b5 ∧ a6 = b6 ∧ a7 = b7) := by
  simp only [flRun, List.cons.injEq, Prod.mk.injEq, V.int.injEq, V.ref.injEq, true_and, and_true]
theorem RunL : (∀ (a0 : Addr) (a1 : Int) (a2 : Addr) (a3 : Addr) (a4 : Addr) (a5 : Addr) (a6 : Addr) (a7 : Addr), (flRun a0 a1 a2 a3 a4 a5 a6 a7).lookup ("bounds" : Str) = some (.ref a0)) ∧
    (∀ (a0 : Addr) (a1 : Int) (a2 : Addr) (a3 : Addr) (a4 : Addr) (a5 : Addr) (a6 : Addr) (a7 : Addr), (flRun a0 a1 a2 a3 a4 a5 a6 a7).lookup ("ring" : Str) = some (.int a1)) ∧
    (∀ (a0 : Addr) (a1 : Int) (a2 : Addr) (a3 : Addr) (a4 : Addr) (a5 : Addr) (a6 : Addr) (a7 : Addr), (flRun a0 a1 a2 a3 a4 a5 a6 a7).lookup ("lore" : Str) = some (.ref a2)) ∧
    (∀ (a0 : Addr) (a1 : Int) (a2 : Addr) (a3 : Addr) (a4 : Addr) (a5 : Addr) (a6 : Addr) (a7 : Addr), (flRun a0 a1 a2 a3 a4 a5 a6 a7).lookup ("one" : Str) = some (.ref a3)) ∧
    (∀ (a0 : Addr) (a1 : Int) (a2 : Addr) (a3 : Addr) (a4 : Addr) (a5 : Addr) (a6 : Addr) (a7 : Addr), (flRun a0 a1 a2 a3 a4 a5 a6 a7).lookup ("other" : Str) = some (.ref a4)) ∧
    (∀ (a0 : Addr) (a1 : Int) (a2 : Addr) (a3 : Addr) (a4 : Addr) (a5 : Addr) (a6 : Addr) (a7 : Addr), (flRun a0 a1 a2 a3 a4 a5 a6 a7).lookup ("forth" : Str) = some (.ref a5)) ∧
    (∀ (a0 : Addr) (a1 : Int) (a2 : Addr) (a3 : Addr) (a4 : Addr) (a5 : Addr) (a6 : Addr) (a7 : Addr), (flRun a0 a1 a2 a3 a4 a5 a6 a7).lookup ("home" : Str) = some (.ref a6)) ∧
    (∀ (a0 : Addr) (a1 : Int) (a2 : Addr) (a3 : Addr) (a4 : Addr) (a5 : Addr) (a6 : Addr) (a7 : Addr), (flRun a0 a1 a2 a3 a4 a5 a6 a7).lookup ("steps" : Str) = some (.ref a7)) ∧
    (∀ (a0 : Addr) (a1 : Int) (a2 : Addr) (a3 : Addr) (a4 : Addr) (a5 : Addr) (a6 : Addr) (a7 : Addr), (flRun a0 a1 a2 a3 a4 a5 a6 a7).lookup ("done" : Str) = none) ∧
    (∀ (a0 : Addr) (a1 : Int) (a2 : Addr) (a3 : Addr) (a4 : Addr) (a5 : Addr) (a6 : Addr) (a7 : Addr), (flRun a0 a1 a2 a3 a4 a5 a6 a7).lookup ("do" : Str) = none) ∧
    (∀ (a0 : Addr) (a1 : Int) (a2 : Addr) (a3 : Addr) (a4 : Addr) (a5 : Addr) (a6 : Addr) (a7 : Addr), (flRun a0 a1 a2 a3 a4 a5 a6 a7).lookup ("out" : Str) = none) ∧
    (∀ (a0 : Addr) (a1 : Int) (a2 : Addr) (a3 : Addr) (a4 : Addr) (a5 : Addr) (a6 : Addr) (a7 : Addr), (flRun a0 a1 a2 a3 a4 a5 a6 a7).lookup ("counts" : Str) = none) ∧
    (∀ (a0 : Addr) (a1 : Int) (a2 : Addr) (a3 : Addr) (a4 : Addr) (a5 : Addr) (a6 : Addr) (a7 : Addr), (flRun a0 a1 a2 a3 a4 a5 a6 a7).lookup ("letters" : Str) = none) ∧
    (∀ (a0 : Addr) (a1 : Int) (a2 : Addr) (a3 : Addr) (a4 : Addr) (a5 : Addr) (a6 : Addr) (a7 : Addr), (flRun a0 a1 a2 a3 a4 a5 a6 a7).lookup ("answers" : Str) = none) ∧
    (∀ (a0 : Addr) (a1 : Int) (a2 : Addr) (a3 : Addr) (a4 : Addr) (a5 : Addr) (a6 : Addr) (a7 : Addr), (flRun a0 a1 a2 a3 a4 a5 a6 a7).lookup ("wrong" : Str) = none) ∧
    (∀ (a0 : Addr) (a1 : Int) (a2 : Addr) (a3 : Addr) (a4 : Addr) (a5 : Addr) (a6 : Addr) (a7 : Addr), (flRun a0 a1 a2 a3 a4 a5 a6 a7).lookup ("copied" : Str) = none) ∧
    (∀ (a0 : Addr) (a1 : Int) (a2 : Addr) (a3 : Addr) (a4 : Addr) (a5 : Addr) (a6 : Addr) (a7 : Addr), (flRun a0 a1 a2 a3 a4 a5 a6 a7).length = 8) ∧
    (∀ (a0 : Addr) (a1 : Int) (a2 : Addr) (a3 : Addr) (a4 : Addr) (a5 : Addr) (a6 : Addr) (a7 : Addr) (b0 : Addr) (b1 : Int) (b2 : Addr) (b3 : Addr) (b4 : Addr) (b5 : Addr) (b6 : Addr) (b7 : Addr), (flRun a0 a1 a2 a3 a4 a5 a6 a7 = flRun b0 b1 b2 b3 b4 b5 b6 b7) = (a0 = b0 ∧ a1 = b1 ∧ a2 = b2 ∧ a3 = b3 ∧ a4 = b4 ∧ a5 = b5 ∧ a6 = b6 ∧ a7 = b7)) ∧
    (∀ (a0 : Addr) (a1 : Int) (a2 : Addr) (a3 : Addr) (a4 : Addr) (a5 : Addr) (a6 : Addr) (a7 : Addr) (y : Addr), putF ("bounds" : Str) (.ref y) (flRun a0 a1 a2 a3 a4 a5 a6 a7) = flRun y a1 a2 a3 a4 a5 a6 a7) ∧
    (∀ (a0 : Addr) (a1 : Int) (a2 : Addr) (a3 : Addr) (a4 : Addr) (a5 : Addr) (a6 : Addr) (a7 : Addr) (y : Int), putF ("ring" : Str) (.int y) (flRun a0 a1 a2 a3 a4 a5 a6 a7) = flRun a0 y a2 a3 a4 a5 a6 a7) ∧
    (∀ (a0 : Addr) (a1 : Int) (a2 : Addr) (a3 : Addr) (a4 : Addr) (a5 : Addr) (a6 : Addr) (a7 : Addr) (y : Addr), putF ("lore" : Str) (.ref y) (flRun a0 a1 a2 a3 a4 a5 a6 a7) = flRun a0 a1 y a3 a4 a5 a6 a7) ∧
    (∀ (a0 : Addr) (a1 : Int) (a2 : Addr) (a3 : Addr) (a4 : Addr) (a5 : Addr) (a6 : Addr) (a7 : Addr) (y : Addr), putF ("one" : Str) (.ref y) (flRun a0 a1 a2 a3 a4 a5 a6 a7) = flRun a0 a1 a2 y a4 a5 a6 a7) ∧
    (∀ (a0 : Addr) (a1 : Int) (a2 : Addr) (a3 : Addr) (a4 : Addr) (a5 : Addr) (a6 : Addr) (a7 : Addr) (y : Addr), putF ("other" : Str) (.ref y) (flRun a0 a1 a2 a3 a4 a5 a6 a7) = flRun a0 a1 a2 a3 y a5 a6 a7) ∧
    (∀ (a0 : Addr) (a1 : Int) (a2 : Addr) (a3 : Addr) (a4 : Addr) (a5 : Addr) (a6 : Addr) (a7 : Addr) (y : Addr), putF ("forth" : Str) (.ref y) (flRun a0 a1 a2 a3 a4 a5 a6 a7) = flRun a0 a1 a2 a3 a4 y a6 a7) ∧
    (∀ (a0 : Addr) (a1 : Int) (a2 : Addr) (a3 : Addr) (a4 : Addr) (a5 : Addr) (a6 : Addr) (a7 : Addr) (y : Addr), putF ("home" : Str) (.ref y) (flRun a0 a1 a2 a3 a4 a5 a6 a7) = flRun a0 a1 a2 a3 a4 a5 y a7) ∧
    (∀ (a0 : Addr) (a1 : Int) (a2 : Addr) (a3 : Addr) (a4 : Addr) (a5 : Addr) (a6 : Addr) (a7 : Addr) (y : Addr), putF ("steps" : Str) (.ref y) (flRun a0 a1 a2 a3 a4 a5 a6 a7) = flRun a0 a1 a2 a3 a4 a5 a6 y) := by
  refine ⟨?_, ?_, ?_, ?_, ?_, ?_, ?_, ?_, ?_, ?_, ?_, ?_, ?_, ?_, ?_, ?_, ?_, ?_, ?_, ?_, ?_, ?_, ?_, ?_, ?_, ?_⟩ <;> intros <;> first | rfl | exact flRun_inj .. | kernel_rfl
theorem RunI : (∀  (v : V), putF ("bounds" : Str) v ([] : List (Str × V)) = [(("bounds" : Str), v)]) ∧
    (∀ (u0 : V) (v : V), putF ("ring" : Str) v ([(("bounds" : Str), u0)] : List (Str × V)) = [(("bounds" : Str), u0), (("ring" : Str), v)]) ∧
    (∀ (u0 : V) (u1 : V) (v : V), putF ("lore" : Str) v ([(("bounds" : Str), u0), (("ring" : Str), u1)] : List (Str × V)) = [(("bounds" : Str), u0), (("ring" : Str), u1), (("lore" : Str), v)]) ∧
    (∀ (u0 : V) (u1 : V) (u2 : V) (v : V), putF ("one" : Str) v ([(("bounds" : Str), u0), (("ring" : Str), u1), (("lore" : Str), u2)] : List (Str × V)) = [(("bounds" : Str), u0), (("ring" : Str), u1), (("lore" : Str), u2), (("one" : Str), v)]) ∧
    (∀ (u0 : V) (u1 : V) (u2 : V) (u3 : V) (v : V), putF ("other" : Str) v ([(("bounds" : Str), u0), (("ring" : Str), u1), (("lore" : Str), u2), (("one" : Str), u3)] : List (Str × V)) = [(("bounds" : Str), u0), (("ring" : Str), u1), (("lore" : Str), u2), (("one" : Str), u3), (("other" : Str), v)]) ∧
    (∀ (u0 : V) (u1 : V) (u2 : V) (u3 : V) (u4 : V) (v : V), putF ("forth" : Str) v ([(("bounds" : Str), u0), (("ring" : Str), u1), (("lore" : Str), u2), (("one" : Str), u3), (("other" : Str), u4)] : List (Str × V)) = [(("bounds" : Str), u0), (("ring" : Str), u1), (("lore" : Str), u2), (("one" : Str), u3), (("other" : Str), u4), (("forth" : Str), v)]) ∧
    (∀ (u0 : V) (u1 : V) (u2 : V) (u3 : V) (u4 : V) (u5 : V) (v : V), putF ("home" : Str) v ([(("bounds" : Str), u0), (("ring" : Str), u1), (("lore" : Str), u2), (("one" : Str), u3), (("other" : Str), u4), (("forth" : Str), u5)] : List (Str × V)) = [(("bounds" : Str), u0), (("ring" : Str), u1), (("lore" : Str), u2), (("one" : Str), u3), (("other" : Str), u4), (("forth" : Str), u5), (("home" : Str), v)]) ∧
    (∀ (a0 : Addr) (a1 : Int) (a2 : Addr) (a3 : Addr) (a4 : Addr) (a5 : Addr) (a6 : Addr) (a7 : Addr), putF ("steps" : Str) (.ref a7) ([(("bounds" : Str), V.ref a0), (("ring" : Str), V.int a1), (("lore" : Str), V.ref a2), (("one" : Str), V.ref a3), (("other" : Str), V.ref a4), (("forth" : Str), V.ref a5), (("home" : Str), V.ref a6)] : List (Str × V)) = flRun a0 a1 a2 a3 a4 a5 a6 a7) := by
  refine ⟨?_, ?_, ?_, ?_, ?_, ?_, ?_, ?_⟩ <;> intros <;> first | rfl | kernel_rfl
/-- the places of a run -/
structure RA where
  p : Addr
  ba : Addr
  lo : Addr
  one : Addr
  oth : Addr
  otx : Addr
  ohx : Addr
  fo : Addr
  fx : Addr
  ho : Addr
  hx : Addr
  st : Addr
def RA.mu (A : RA) : List Addr := [A.one, A.oth, A.otx, A.ohx, A.fx, A.hx]
def RA.al (A : RA) : List Addr := [A.p, A.lo, A.fo, A.ho, A.one, A.oth, A.otx, A.ohx, A.fx, A.hx, A.st]
/-- a place by its number -/
def RA.at (A : RA) (i : Nat) : Addr := A.al.getD i 0
theorem RA.at_ne {A : RA} (nd : A.al.Nodup) {i j : Nat} (hi : i < 11) (hj : j < 11) (h : i ≠ j) : A.at i ≠ A.at j := by
  intro e
  have li : i < A.al.length := hi
  have lj : j < A.al.length := hj
  unfold RA.at at e
  rw [List.getD_eq_getElem?_getD, List.getD_eq_getElem?_getD, List.getElem?_eq_getElem li, List.getElem?_eq_getElem lj] at e
  have pw := List.pairwise_iff_getElem.mp (List.nodup_iff_pairwise_ne.mp nd)
  rcases Nat.lt_or_gt_of_ne h with c | c
  · exact pw i j li lj c e
  · exact pw j i lj li c e.symm
/-- a place is none of others -/
theorem nin {A : RA} (nd : A.al.Nodup) (i : Nat) (l : List Nat) (h : (decide (i < 11) && l.all fun j => decide (j < 11) && decide (i ≠ j)) = true) : A.at i ∉ l.map A.at := by
  rw [Bool.and_eq_true, decide_eq_true_eq, List.all_eq_true] at h
  intro m
  obtain ⟨j, hj, e⟩ := List.mem_map.mp m
  have h2 := h.2 j hj
  rw [Bool.and_eq_true, decide_eq_true_eq, decide_eq_true_eq] at h2
  exact RA.at_ne nd h.1 h2.1 h2.2 e.symm
def LetAt (H : Hp) (q : Int × Str) (v : V) : Prop := ∃ a, v = .ref a ∧ H a = some (.tup [.int q.1, .str q.2])
def StepAt (H : Hp) (q : Str × Int) (v : V) : Prop := ∃ a, v = .ref a ∧ H a = some (.tup [.str q.1, .int q.2])
/-- a run, but for its steps -/
structure RunC (K : PySem.W.Frag) (H : Hp) (A : RA) (m : M) : Prop where
  ins : ∃ dx, H A.p = some (.ins (He.ga K "Run") dx (flRun A.ba m.ring A.lo A.one A.oth A.fo A.ho A.st))
  bnd : H A.ba = some (.tup [.int m.w, .int m.r, .int m.d, .int m.b])
  lore : H A.lo = some (.lst (m.tx.map V.str))
  one : ∃ dx, H A.one = some (.ins (He.ga K "Sender") dx (flSender m.w m.ring m.tx.length m.base m.top))
  oth : TkAt K H A.oth A.otx A.ohx m.r m.ring m.want m.out m.kept
  forth : ∃ ts, PostAt K H A.fo A.fx m.d ts ∧ All2 (LetAt H) m.ls ts
  home : PostAt K H A.ho A.hx m.b (m.an.map V.int)
  nd : A.al.Nodup
theorem LetAt.fr {H H1 : Hp} {B : List Addr} (f : Fr B H H1) (hT : ∀ x ∈ B, ∀ xs, H x ≠ some (.tup xs)) {q : Int × Str} {v : V} (h : LetAt H q v) : LetAt H1 q v := by
  obtain ⟨a, e, h⟩ := h
  exact ⟨a, e, f _ _ (fun m => hT a m _ h) h⟩
theorem StepAt.fr {H H1 : Hp} {B : List Addr} (f : Fr B H H1) (hT : ∀ x ∈ B, ∀ xs, H x ≠ some (.tup xs)) {q : Str × Int} {v : V} (h : StepAt H q v) : StepAt H1 q v := by
  obtain ⟨a, e, h⟩ := h
  exact ⟨a, e, f _ _ (fun m => hT a m _ h) h⟩
theorem RunC.fr {K : PySem.W.Frag} {H H1 : Hp} {A : RA} {m : M} {B : List Addr} (t : RunC K H A m) (f : Fr B H H1) (hB : ∀ x ∈ A.al, x ∉ B) (hT : ∀ x ∈ B, ∀ xs, H x ≠ some (.tup xs)) : RunC K H1 A m := by
  have hB' : ∀ x, x ∈ A.al → x ∉ B := hB
  simp only [RA.al, List.mem_cons, List.not_mem_nil, or_false, forall_eq_or_imp, forall_eq] at hB
  obtain ⟨b1, b2, b3, b4, b5, b6, b7, b8, b9, b10, b11⟩ := hB
  exact ⟨t.ins.elim fun dx e => ⟨dx, f _ _ b1 e⟩, f _ _ (fun m => hT _ m _ t.bnd) t.bnd, f _ _ b2 t.lore, t.one.elim fun dx e => ⟨dx, f _ _ b5 e⟩, t.oth.fr f b6 b7 b8, t.forth.elim fun ts e => ⟨ts, e.1.fr f b3 b9, e.2.mono fun _ _ => LetAt.fr f hT⟩, t.home.fr f b4 b10, t.nd⟩
theorem RunC.same {K : PySem.W.Frag} {H H1 : Hp} {A : RA} {m : M} (t : RunC K H A m) (f : Same H H1) : RunC K H1 A m :=
  t.fr (.of (A := []) f) (fun _ _ => by simp) (fun _ h => by simp at h)
/-- none of a run's places is a tuple -/
theorem RunC.nt {K : PySem.W.Frag} {H : Hp} {A : RA} {m : M} (t : RunC K H A m) (hs : ∃ sx, H A.st = some (.lst sx)) : ∀ x ∈ A.al, ∀ xs, H x ≠ some (.tup xs) := by
  intro x hx xs e
  simp only [RA.al, List.mem_cons, List.not_mem_nil, or_false] at hx
  obtain ⟨dx, h1⟩ := t.ins
  obtain ⟨dx1, h2⟩ := t.one
  obtain ⟨dx2, h3⟩ := t.oth.ins
  obtain ⟨ts, pf, _⟩ := t.forth
  obtain ⟨dx3, h4⟩ := pf.ins
  obtain ⟨dx4, h5⟩ := t.home.ins
  obtain ⟨sx, h6⟩ := hs
  have h7 := t.lore
  have h8 := t.oth.txt
  have h9 := t.oth.hel
  have h10 := pf.txt
  have h11 := t.home.txt
  rcases hx with rfl | rfl | rfl | rfl | rfl | rfl | rfl | rfl | rfl | rfl | rfl <;> simp_all
/-- some place changed, others stay -/
theorem RunC.nt2 {K : PySem.W.Frag} {H : Hp} {A : RA} {m : M} (t : RunC K H A m) : ∀ x ∈ A.mu, ∀ xs, H x ≠ some (.tup xs) := by
  intro x hx xs e
  simp only [RA.mu, List.mem_cons, List.not_mem_nil, or_false] at hx
  obtain ⟨dx1, h2⟩ := t.one
  obtain ⟨dx2, h3⟩ := t.oth.ins
  obtain ⟨ts, pf, _⟩ := t.forth
  have h8 := t.oth.txt
  have h9 := t.oth.hel
  have h10 := pf.txt
  have h11 := t.home.txt
  rcases hx with rfl | rfl | rfl | rfl | rfl | rfl <;> simp_all
abbrev s_Run_done : Stmt := inClass (top 31) 1
abbrev N_Run_done : List Str := ["self", "step", "word", "number", "letter"]
theorem sc_Run_done : FnScope N_Run_done ["self", "step"] (defScope s_Run_done) := ⟨rfl, rfl, rfl, by decide +kernel, rfl, by decide +kernel, by decide +kernel⟩
def sp_Run_done (K : PySem.W.Frag) : Sp := fun vs H Q E => ∃ (A : RA) (m : M) (N : Nat) (a : Addr) (z : Str) (n : Int), vs = [.ref A.p, .ref a] ∧ RunC K H A m ∧ m.Ok N ∧ N < 90000 ∧ H a = some (.tup [.str z, .int n]) ∧ isWord z ∧ 0 ≤ n ∧ n ≤ 999999 ∧
  (∀ t m' H1, m.step z n = some (t, m') → Fr A.mu H H1 → RunC K H1 A m' → Q (.int t) H1) ∧ (m.step z n = none → ∀ H1, Same H H1 → E (.ref (He.ga K (errOf z))) none H1)
theorem ok_Run_done {P : Program} {w : World} {K : PySem.W.Frag} {mg : Str → Option Value} {base : Heap} (F : FnP K ("Run", some "done") "done" "Run.done" s_Run_done) (hc : Cls K (He.ga K "Run")) (hm : Meth K (He.ga K "Run") "done" (He.ma K (He.ga K "Run") "done")) (bl : Blt mg) (hRun : RunF K) (hPost : PostF K) (hSender : SenderF K) (hTaker : TakerF K) (m_Post_posted : MCal P w K mg base 1 (He.ga K "Post") "posted" (sp_Post_posted K)) (m_Post_taken : MCal P w K mg base 2 (He.ga K "Post") "taken" (sp_Post_taken K)) (m_Sender_heard : MCal P w K mg base 1 (He.ga K "Sender") "heard" (sp_Sender_heard K)) (m_Sender_sent : MCal P w K mg base 2 (He.ga K "Sender") "sent" (sp_Sender_sent K)) (m_Sender_span : MCal P w K mg base 1 (He.ga K "Sender") "span" (sp_Sender_span K)) (m_Taker_came : MCal P w K mg base 1 (He.ga K "Taker") "came" (sp_Taker_came K)) : MCal P w K mg base 3 (He.ga K "Run") "done" (sp_Run_done K) := by
  refine fn_mcal F hc hm sc_Run_done (fun vs H Q E => by walk_at "len") (fun _ _ _ _ _ _ us hl => match us, hl with | [_, _], _ => rfl) (fun f cdv A outer s H vs Q E hr h => ?_)
  have hu := hu_of hr
  obtain ⟨A, m, N, a, z, n, rfl, t, ok, hN, ha, hz, n0, n1, q1, q2⟩ := h
  obtain ⟨dx, hp⟩ := t.ins
  refine ⟨_, (pss_cons (ps_asg (pv 1) (pg_tupC (n := 2) rfl (pgs_cons (pg_name (i := 2) sc_Run_done.nd rfl (Or.inl rfl)) (pgs_cons (pg_name (i := 3) sc_Run_done.nd rfl (Or.inl rfl)) pgs_nil))))
  (pss_cons (ps_if (pt_cmpR op_eq (pv 2) pe_str (nomark _))
  (pss_one (ps_ret (pe_mth (pe_fld (pv 0) rfl) m_Post_posted (hr.mono (by decide)) (L2N.takes_of rfl rfl rfl rfl) (pa_cons (pe_tup (pa_cons (pe_mth (pe_fld (pv 0) rfl) m_Sender_sent (hr.mono (by decide)) (L2N.takes_of rfl rfl rfl rfl) (pa_cons (pv 3) pa_nil)) (pa_cons (pe_ix ix_C (pe_fld (pv 0) rfl) (pv 3) (fun _ _ => rfl)) pa_nil))) pa_nil))))
  pss_nil)
  (pss_cons (ps_if (pt_cmpR op_eq (pv 2) pe_str (nomark _))
  (pss_cons (ps_set (i := 4) sc_Run_done.nd rfl (Or.inl rfl) (pe_mth (pe_fld (pv 0) rfl) m_Post_taken (hr.mono (by decide)) (L2N.takes_of rfl rfl rfl rfl) (pa_cons (pv 3) pa_nil)))
  (pss_one (ps_ret (pe_mth (pe_fld (pv 0) rfl) m_Post_posted (hr.mono (by decide)) (L2N.takes_of rfl rfl rfl rfl) (pa_cons (pe_mth (pe_fld (pv 0) rfl) m_Taker_came (hr.mono (by decide)) (L2N.takes_of rfl rfl rfl rfl) (pa_cons (pe_ix ix_C (pv 4) pe_int (fun _ _ => rfl)) (pa_cons (pe_ix ix_C (pv 4) pe_int (fun _ _ => rfl)) pa_nil))) pa_nil)))))
  pss_nil)
  (pss_cons (ps_expr (pe_mth (pe_fld (pv 0) rfl) m_Sender_heard (hr.mono (by decide)) (L2N.takes_of rfl rfl rfl rfl) (pa_cons (pe_mth (pe_fld (pv 0) rfl) m_Post_taken (hr.mono (by decide)) (L2N.takes_of rfl rfl rfl rfl) (pa_cons (pv 3) pa_nil)) pa_nil)))
  (pss_one (ps_ret (pe_ix ix_C (pe_mth0 (pe_fld (pv 0) rfl) m_Sender_span (hr.mono (by decide)) (L2N.takes_of rfl rfl rfl rfl)) pe_int (fun _ _ => rfl)))))))), ?_⟩
  walk_at "st0"
  refine seq_gen fun N_a h_a => ?_
  simp only [RDa, RDb, RDv, RDk, RDx, RDe, RDd, RDp, RDq, List.getElem?_cons_zero, List.getElem?_cons_succ, List.set_cons_zero, List.set_cons_succ, List.cons.injEq, List.cons_ne_nil, reduceCtorEq, exists_eq_left', exists_eq_left, exists_and_left, and_assoc, exists_const, true_and, and_true, if_true, if_false, false_and, and_false, exists_false, false_or, or_false, true_implies, false_implies, implies_true, forall_eq, forall_eq', Bool.false_eq_true, if_neg, decide_eq_true_eq, Bool.not_eq_true', decide_eq_false_iff_not, Bool.not_true, Bool.not_false, List.length_cons, List.length_nil, sizeLine_eq, Nat.reduceAdd, Nat.reduceLeDiff, Nat.reduceLT, Int.reduceLT, Int.reduceLE, Int.emod_nonneg, ne_eq, Int.reduceEq, not_false_eq_true, not_true_eq_false, ha]
  refine h_a _ _ ?_
  clear h_a
  have sh : (("hand" : Str) == "send") = false ∧ (("tell" : Str) == "send") = false ∧ (("tell" : Str) == "hand") = false := by decide +kernel
  have sn : ("hand" : Str) ≠ "send" ∧ ("tell" : Str) ≠ "send" ∧ ("tell" : Str) ≠ "hand" := by decide +kernel
  have kn : ∀ H' n, Kn H' (.int n) := fun _ _ => rfl
  rcases hz with rfl | rfl | rfl
  · obtain ⟨dx1, h1⟩ := t.one
    obtain ⟨ts, pf, al⟩ := t.forth
    obtain ⟨dxf, hf⟩ := pf.ins
    simp only [RDa, RDb, RDv, RDk, RDx, RDe, RDd, RDp, RDq, List.getElem?_cons_zero, List.getElem?_cons_succ, List.set_cons_zero, List.set_cons_succ, List.cons.injEq, List.cons_ne_nil, reduceCtorEq, exists_eq_left', exists_eq_left, exists_and_left, and_assoc, exists_const, true_and, and_true, if_true, if_false, false_and, and_false, exists_false, false_or, or_false, true_implies, false_implies, implies_true, forall_eq, forall_eq', Bool.false_eq_true, if_neg, decide_eq_true_eq, Bool.not_eq_true', decide_eq_false_iff_not, Bool.not_true, Bool.not_false, List.length_cons, List.length_nil, sizeLine_eq, Nat.reduceAdd, Nat.reduceLeDiff, Nat.reduceLT, Int.reduceLT, Int.reduceLE, Int.emod_nonneg, ne_eq, Int.reduceEq, not_false_eq_true, not_true_eq_false, hRun, RunL, hp, hPost, PostL, hf, hSender, SenderL, h1]
    have est : m.step "send" n = m.send n := rfl
    rw [est] at q1 q2
    unfold M.send at q1 q2
    refine ⟨A.one, dx1, m.w, m.ring, m.tx.length, m.base, m.top, .int n, rfl, h1, by have := ok.g1; omega, rfl, fun hin k e => ?_, fun hno => ?_⟩
    · cases e
      simp only [amongV, Bool.and_eq_true, decide_eq_true_eq] at hin
      have hl := last_le.mp hin.2
      have hin' : m.base ≤ n ∧ n ≤ m.last := hin
      rw [if_pos hin'] at q1
      have f1 : Fr [A.one] H (upd H A.one (.ins (He.ga K "Sender") dx1 (flSender m.w m.ring m.tx.length m.base (sTop m.top n)))) := (Fr.refl _ _).upd (by simp)
      have h1' : (upd H A.one (.ins (He.ga K "Sender") dx1 (flSender m.w m.ring m.tx.length m.base (sTop m.top n)))) A.one = _ := upd_same
      generalize upd H A.one (.ins (He.ga K "Sender") dx1 (flSender m.w m.ring m.tx.length m.base (sTop m.top n))) = H1 at f1 h1'
      have hp1 : H1 A.p = _ := f1 _ _ (nin t.nd 0 [4] (by decide)) hp
      have lo1 : H1 A.lo = _ := f1 _ _ (nin t.nd 1 [4] (by decide)) t.lore
      have hnl : n.toNat < m.tx.length := by have := ok.b0; omega
      have hat : atI (m.tx.map V.str) n = some (.str (m.tx.getD n.toNat "")) := by
        have e : n = ((n.toNat : Nat) : Int) := by omega
        have : atI (m.tx.map V.str) ((n.toNat : Nat) : Int) = some (.str (m.tx.getD n.toNat "")) := by
          refine atI_nat ?_
          rw [List.getElem?_map, List.getElem?_eq_getElem hnl, List.getD_eq_getElem?_getD, List.getElem?_eq_getElem hnl]
          rfl
        rw [← e] at this
        exact this
      simp only [RDa, RDb, RDv, RDk, RDx, RDe, RDd, RDp, RDq, List.getElem?_cons_zero, List.getElem?_cons_succ, List.set_cons_zero, List.set_cons_succ, List.cons.injEq, List.cons_ne_nil, reduceCtorEq, exists_eq_left', exists_eq_left, exists_and_left, and_assoc, exists_const, true_and, and_true, if_true, if_false, false_and, and_false, exists_false, false_or, or_false, true_implies, false_implies, implies_true, forall_eq, forall_eq', Bool.false_eq_true, if_neg, decide_eq_true_eq, Bool.not_eq_true', decide_eq_false_iff_not, Bool.not_true, Bool.not_false, List.length_cons, List.length_nil, sizeLine_eq, Nat.reduceAdd, Nat.reduceLeDiff, Nat.reduceLT, Int.reduceLT, Int.reduceLE, Int.emod_nonneg, ne_eq, Int.reduceEq, not_false_eq_true, not_true_eq_false, hRun, RunL, hp1, seqO_lst lo1, hat]
      intro q n_q
      generalize e_H2 : upd H1 q (.tup [.int (n % m.ring), .str (m.tx.getD n.toNat "")]) = H2
      have a_H2 : H2 q = some (.tup [.int (n % m.ring), .str (m.tx.getD n.toNat "")]) := by rw [← e_H2]; exact upd_same
      have s_H2 : Same H1 H2 := by rw [← e_H2]; exact same_new n_q
      have t2 : PostAt K H2 A.fo A.fx m.d ts := (pf.fr f1 (nin t.nd 2 [4] (by decide)) (nin t.nd 8 [4] (by decide))).same s_H2
      refine ⟨A.fo, A.fx, m.d, ts, .ref q, rfl, t2, by have := ok.ls; have := al.length; omega, fun H3 f3 p3 => ?_⟩
      rw [← al.length]
      have g : Fr [A.one, A.fx] H H3 := ((f1.mono (by simp)).trans (.of s_H2)).trans (f3.mono (by simp))
      refine q1 _ _ H3 rfl (g.mono (by simp [RA.mu])) ?_
      have hT : ∀ x ∈ [A.one, A.fx], ∀ xs, H x ≠ some (.tup xs) := fun x hx => t.nt2 x (by revert hx; simp only [RA.mu, List.mem_cons, List.not_mem_nil, or_false]; rintro (rfl | rfl) <;> simp)
      have hT3 : ∀ x ∈ [A.fx], ∀ xs, H2 x ≠ some (.tup xs) := fun x hx xs => by
        rw [List.mem_singleton.mp hx, t2.txt]
        simp
      refine ⟨⟨dx, g _ _ (nin t.nd 0 [4, 8] (by decide)) hp⟩, g _ _ (fun m' => hT _ m' _ t.bnd) t.bnd, g _ _ (nin t.nd 1 [4, 8] (by decide)) t.lore, ⟨dx1, f3 _ _ (nin t.nd 4 [8] (by decide)) (s_H2 _ _ h1')⟩,
        t.oth.fr g (nin t.nd 5 [4, 8] (by decide)) (nin t.nd 6 [4, 8] (by decide)) (nin t.nd 7 [4, 8] (by decide)), ⟨ts ++ [.ref q], p3, ?_⟩,
        t.home.fr g (nin t.nd 3 [4, 8] (by decide)) (nin t.nd 9 [4, 8] (by decide)), t.nd⟩
      exact (al.mono fun _ _ => LetAt.fr g hT).snoc ⟨q, rfl, f3 _ _ (fun m' => hT3 _ m' _ a_H2) a_H2⟩
    · refine q2 ?_ H (Same.refl _)
      rw [if_neg]
      simp only [amongV, Bool.and_eq_false_iff, decide_eq_false_iff_not] at hno
      exact fun h => hno.elim (fun z => z h.1) fun z => z h.2
  · obtain ⟨ts, pf, al⟩ := t.forth
    obtain ⟨dxf, hf⟩ := pf.ins
    obtain ⟨dxt, h2⟩ := t.oth.ins
    obtain ⟨dxh, hh⟩ := t.home.ins
    simp only [RDa, RDb, RDv, RDk, RDx, RDe, RDd, RDp, RDq, List.getElem?_cons_zero, List.getElem?_cons_succ, List.set_cons_zero, List.set_cons_succ, List.cons.injEq, List.cons_ne_nil, reduceCtorEq, exists_eq_left', exists_eq_left, exists_and_left, and_assoc, exists_const, true_and, and_true, if_true, if_false, false_and, and_false, exists_false, false_or, or_false, true_implies, false_implies, implies_true, forall_eq, forall_eq', Bool.false_eq_true, if_neg, decide_eq_true_eq, Bool.not_eq_true', decide_eq_false_iff_not, Bool.not_true, Bool.not_false, List.length_cons, List.length_nil, sizeLine_eq, Nat.reduceAdd, Nat.reduceLeDiff, Nat.reduceLT, Int.reduceLT, Int.reduceLE, Int.emod_nonneg, ne_eq, Int.reduceEq, not_false_eq_true, not_true_eq_false, sn, hRun, RunL, hp, hPost, PostL, hf]
    have est : m.step "hand" n = m.hand n := by
      unfold M.step
      rw [if_neg sn.1, if_pos rfl]
    rw [est] at q1 q2
    unfold M.hand at q1 q2
    have hal := al.length
    refine ⟨A.fo, A.fx, m.d, ts, .int n, rfl, pf, ok.d1, by have := ok.d2; omega, by have := ok.ls; omega, rfl, fun k v H1 e k1 k2 k3 s1 => ?_, fun ha H1 s1 => ?_⟩
    · cases e
      have hT : isT n m.ls.length m.d = true := by
        unfold isT
        rw [hal, decide_eq_true k1, decide_eq_true k2]
        rfl
      rw [if_pos hT] at q1
      have hv : ts[n.toNat]? = some v := by
        obtain ⟨j, z1, z2, z3, z4, z5⟩ := atI_get k3
        rw [seqIndex_of n0 z5] at z1
        rw [Option.some.inj z1]
        exact z2
      obtain ⟨qq, hq, c, rfl, hc⟩ := al.get hv
      have hc1 := s1 _ _ hc
      have hp1 : H1 A.p = _ := s1 _ _ hp
      have hh1 : H1 A.ho = _ := s1 _ _ hh
      have ht1 : H1 A.oth = _ := s1 _ _ h2
      simp only [RDa, RDb, RDv, RDk, RDx, RDe, RDd, RDp, RDq, List.getElem?_cons_zero, List.getElem?_cons_succ, List.set_cons_zero, List.set_cons_succ, List.cons.injEq, List.cons_ne_nil, reduceCtorEq, exists_eq_left', exists_eq_left, exists_and_left, and_assoc, exists_const, true_and, and_true, if_true, if_false, false_and, and_false, exists_false, false_or, or_false, true_implies, false_implies, implies_true, forall_eq, forall_eq', Bool.false_eq_true, if_neg, decide_eq_true_eq, Bool.not_eq_true', decide_eq_false_iff_not, Bool.not_true, Bool.not_false, List.length_cons, List.length_nil, sizeLine_eq, Nat.reduceAdd, Nat.reduceLeDiff, Nat.reduceLT, Int.reduceLT, Int.reduceLE, Int.emod_nonneg, ne_eq, Int.reduceEq, not_false_eq_true, not_true_eq_false, hRun, RunL, hp1, hPost, PostL, hh1, hTaker, TakerL, ht1, seqO_tup hc1]
      refine ⟨A.oth, A.otx, A.ohx, m.r, m.ring, m.want, m.out, m.kept, qq.1, qq.2, rfl, t.oth.same s1, by have := ok.g1; omega, by have := ok.ok; omega, fun H2 w2 g2 k2' ec f2 t2 => ?_⟩
      have f02 : Fr [A.oth, A.otx, A.ohx] H H2 := (Fr.of s1).trans f2
      refine ⟨A.ho, A.hx, m.b, m.an.map V.int, .int (w2 % m.ring), rfl, t.home.fr f02 (nin t.nd 3 [5, 6, 7] (by decide)) (nin t.nd 9 [5, 6, 7] (by decide)), by rw [List.length_map]; have := ok.an; omega, fun H3 f3 p3 => ?_⟩
      have g : Fr [A.oth, A.otx, A.ohx, A.hx] H H3 := (f02.mono (by simp)).trans (f3.mono (by simp))
      have eg : m.ls.getD n.toNat (0, "") = qq := by
        rw [List.getD_eq_getElem?_getD, hq]
        rfl
      have em : m.handed qq = { m with want := w2, out := g2, kept := k2', an := m.an ++ [w2 % m.ring] } := by
        unfold M.handed
        rw [ec]
      rw [eg, em] at q1
      rw [List.length_map]
      refine q1 _ _ H3 rfl (g.mono (by simp [RA.mu])) ?_
      have hT2 : ∀ x ∈ [A.oth, A.otx, A.ohx, A.hx], ∀ xs, H x ≠ some (.tup xs) := fun x hx => t.nt2 x (by revert hx; simp only [RA.mu, List.mem_cons, List.not_mem_nil, or_false]; rintro (rfl | rfl | rfl | rfl) <;> simp)
      exact ⟨⟨dx, g _ _ (nin t.nd 0 [5, 6, 7, 9] (by decide)) hp⟩, g _ _ (fun m' => hT2 _ m' _ t.bnd) t.bnd, g _ _ (nin t.nd 1 [5, 6, 7, 9] (by decide)) t.lore, t.one.elim fun dx1 h1 => ⟨dx1, g _ _ (nin t.nd 4 [5, 6, 7, 9] (by decide)) h1⟩,
        t2.fr f3 (nin t.nd 5 [9] (by decide)) (nin t.nd 6 [9] (by decide)) (nin t.nd 7 [9] (by decide)), ⟨ts, pf.fr g (nin t.nd 2 [5, 6, 7, 9] (by decide)) (nin t.nd 8 [5, 6, 7, 9] (by decide)), al.mono fun _ _ => LetAt.fr g hT2⟩,
        (by rw [← List.map_singleton, ← List.map_append] at p3; exact p3), t.nd⟩
    · refine q2 ?_ H1 s1
      rw [if_neg]
      rw [isT_iff]
      simp only [amongV, Bool.and_eq_false_iff, decide_eq_false_iff_not, mx2_le] at ha
      rw [hal]
      omega
  · obtain ⟨dx1, h1⟩ := t.one
    obtain ⟨dxh, hh⟩ := t.home.ins
    simp only [RDa, RDb, RDv, RDk, RDx, RDe, RDd, RDp, RDq, List.getElem?_cons_zero, List.getElem?_cons_succ, List.set_cons_zero, List.set_cons_succ, List.cons.injEq, List.cons_ne_nil, reduceCtorEq, exists_eq_left', exists_eq_left, exists_and_left, and_assoc, exists_const, true_and, and_true, if_true, if_false, false_and, and_false, exists_false, false_or, or_false, true_implies, false_implies, implies_true, forall_eq, forall_eq', Bool.false_eq_true, if_neg, decide_eq_true_eq, Bool.not_eq_true', decide_eq_false_iff_not, Bool.not_true, Bool.not_false, List.length_cons, List.length_nil, sizeLine_eq, Nat.reduceAdd, Nat.reduceLeDiff, Nat.reduceLT, Int.reduceLT, Int.reduceLE, Int.emod_nonneg, ne_eq, Int.reduceEq, not_false_eq_true, not_true_eq_false, sn, hRun, RunL, hp, hPost, PostL, hSender, SenderL, h1, hh]
    have est : m.step "tell" n = m.tell n := by
      unfold M.step
      rw [if_neg sn.2.1, if_neg sn.2.2]
    rw [est] at q1 q2
    unfold M.tell at q1 q2
    refine ⟨A.ho, A.hx, m.b, m.an.map V.int, .int n, rfl, t.home, ok.b1, by have := ok.b2; omega, by rw [List.length_map]; have := ok.an; omega, rfl, fun k v H1 e k1 k2 k3 s1 => ?_, fun ha H1 s1 => ?_⟩
    · cases e
      rw [List.length_map] at k1 k2
      have hT : isT n m.an.length m.b = true := by
        unfold isT
        rw [decide_eq_true k1, decide_eq_true k2]
        rfl
      rw [if_pos hT] at q1
      rw [atInt n0 k2] at k3
      cases k3
      refine ⟨A.one, dx1, m.w, m.ring, m.tx.length, m.base, m.top, m.an.getD n.toNat 0, rfl, s1 _ _ h1, by have := ok.g1; omega, ?_⟩
      have f1 : Fr [A.one] H1 (upd H1 A.one (.ins (He.ga K "Sender") dx1 (flSender m.w m.ring m.tx.length (sBase m.base m.top m.ring (m.an.getD n.toNat 0)) m.top))) := (Fr.refl _ _).upd (by simp)
      have h1' : (upd H1 A.one (.ins (He.ga K "Sender") dx1 (flSender m.w m.ring m.tx.length (sBase m.base m.top m.ring (m.an.getD n.toNat 0)) m.top))) A.one = _ := upd_same
      generalize upd H1 A.one (.ins (He.ga K "Sender") dx1 (flSender m.w m.ring m.tx.length (sBase m.base m.top m.ring (m.an.getD n.toNat 0)) m.top)) = H2 at f1 h1'
      have g : Fr [A.one] H H2 := (Fr.of s1).trans f1
      have hp2 : H2 A.p = _ := g _ _ (nin t.nd 0 [4] (by decide)) hp
      simp only [RDa, RDb, RDv, RDk, RDx, RDe, RDd, RDp, RDq, List.getElem?_cons_zero, List.getElem?_cons_succ, List.set_cons_zero, List.set_cons_succ, List.cons.injEq, List.cons_ne_nil, reduceCtorEq, exists_eq_left', exists_eq_left, exists_and_left, and_assoc, exists_const, true_and, and_true, if_true, if_false, false_and, and_false, exists_false, false_or, or_false, true_implies, false_implies, implies_true, forall_eq, forall_eq', Bool.false_eq_true, if_neg, decide_eq_true_eq, Bool.not_eq_true', decide_eq_false_iff_not, Bool.not_true, Bool.not_false, List.length_cons, List.length_nil, sizeLine_eq, Nat.reduceAdd, Nat.reduceLeDiff, Nat.reduceLT, Int.reduceLT, Int.reduceLE, Int.emod_nonneg, ne_eq, Int.reduceEq, not_false_eq_true, not_true_eq_false, hRun, RunL, hp2, hSender, SenderL, h1']
      refine ⟨A.one, dx1, _, _, _, _, _, rfl, h1', fun c nc => ?_⟩
      have sc : Same H2 (upd H2 c (.tup [.int (sBase m.base m.top m.ring (m.an.getD n.toNat 0)), .int m.top])) := same_new nc
      simp only [RDa, RDb, RDv, RDk, RDx, RDe, RDd, RDp, RDq, List.getElem?_cons_zero, List.getElem?_cons_succ, List.set_cons_zero, List.set_cons_succ, List.cons.injEq, List.cons_ne_nil, reduceCtorEq, exists_eq_left', exists_eq_left, exists_and_left, and_assoc, exists_const, true_and, and_true, if_true, if_false, false_and, and_false, exists_false, false_or, or_false, true_implies, false_implies, implies_true, forall_eq, forall_eq', Bool.false_eq_true, if_neg, decide_eq_true_eq, Bool.not_eq_true', decide_eq_false_iff_not, Bool.not_true, Bool.not_false, List.length_cons, List.length_nil, sizeLine_eq, Nat.reduceAdd, Nat.reduceLeDiff, Nat.reduceLT, Int.reduceLT, Int.reduceLE, Int.emod_nonneg, ne_eq, Int.reduceEq, not_false_eq_true, not_true_eq_false, seqO_tup upd_same]
      refine q1 _ _ _ rfl ((g.trans (.of sc)).mono (by simp [RA.mu])) ?_
      have hT2 : ∀ x ∈ [A.one], ∀ xs, H x ≠ some (.tup xs) := fun x hx => t.nt2 x (by rw [List.mem_singleton.mp hx]; simp [RA.mu])
      refine RunC.same ?_ sc
      exact ⟨⟨dx, hp2⟩, g _ _ (fun m' => hT2 _ m' _ t.bnd) t.bnd, g _ _ (nin t.nd 1 [4] (by decide)) t.lore, ⟨dx1, h1'⟩,
        t.oth.fr g (nin t.nd 5 [4] (by decide)) (nin t.nd 6 [4] (by decide)) (nin t.nd 7 [4] (by decide)), t.forth.elim fun ts e => ⟨ts, e.1.fr g (nin t.nd 2 [4] (by decide)) (nin t.nd 8 [4] (by decide)), e.2.mono fun _ _ => LetAt.fr g hT2⟩,
        t.home.fr g (nin t.nd 3 [4] (by decide)) (nin t.nd 9 [4] (by decide)), t.nd⟩
    · refine q2 ?_ H1 s1
      rw [if_neg]
      rw [isT_iff]
      simp only [amongV, Bool.and_eq_false_iff, decide_eq_false_iff_not, mx2_le, List.length_map] at ha
      omega
end RP

namespace RP
open PySem PySem.Spec PyProof.Rows L2 L2H
/-- a run with its steps -/
structure RunAt (K : PySem.W.Frag) (H : Hp) (A : RA) (m : M) (hs : List (Str × Int)) : Prop where
  c : RunC K H A m
  stp : ∃ sx, H A.st = some (.lst sx) ∧ All2 (StepAt H) hs sx
  rep : (M.begun m.w m.r m.d m.b m.ring m.tx).run hs = some m
  okh : ∀ q ∈ hs, isWord q.1 ∧ 0 ≤ q.2 ∧ q.2 ≤ 999999
def RA.mu' (A : RA) : List Addr := [A.one, A.oth, A.otx, A.ohx, A.fx, A.hx, A.st]
theorem RunAt.fr {K : PySem.W.Frag} {H H1 : Hp} {A : RA} {m : M} {hs : List (Str × Int)} {B : List Addr} (t : RunAt K H A m hs) (f : Fr B H H1) (hB : ∀ x ∈ A.al, x ∉ B) (hT : ∀ x ∈ B, ∀ xs, H x ≠ some (.tup xs)) : RunAt K H1 A m hs :=
  ⟨t.c.fr f hB hT, t.stp.elim fun sx e => ⟨sx, f _ _ (hB _ (by simp [RA.al])) e.1, e.2.mono fun _ _ => StepAt.fr f hT⟩, t.rep, t.okh⟩
theorem RunAt.same {K : PySem.W.Frag} {H H1 : Hp} {A : RA} {m : M} {hs : List (Str × Int)} (t : RunAt K H A m hs) (f : Same H H1) : RunAt K H1 A m hs :=
  t.fr (.of (A := []) f) (fun _ _ => by simp) (fun _ h => by simp at h)
theorem RunAt.nt {K : PySem.W.Frag} {H : Hp} {A : RA} {m : M} {hs : List (Str × Int)} (t : RunAt K H A m hs) : ∀ x ∈ A.al, ∀ xs, H x ≠ some (.tup xs) := t.c.nt (t.stp.elim fun sx e => ⟨sx, e.1⟩)
theorem RunAt.live {K : PySem.W.Frag} {H : Hp} {A : RA} {m : M} {hs : List (Str × Int)} (t : RunAt K H A m hs) : ∀ x ∈ A.al, H x ≠ none := by
  intro x hx e
  simp only [RA.al, List.mem_cons, List.not_mem_nil, or_false] at hx
  obtain ⟨dx, h1⟩ := t.c.ins
  obtain ⟨dx1, h2⟩ := t.c.one
  obtain ⟨dx2, h3⟩ := t.c.oth.ins
  obtain ⟨ts, pf, _⟩ := t.c.forth
  obtain ⟨dx3, h4⟩ := pf.ins
  obtain ⟨dx4, h5⟩ := t.c.home.ins
  obtain ⟨sx, h6, _⟩ := t.stp
  have h7 := t.c.lore
  have h8 := t.c.oth.txt
  have h9 := t.c.oth.hel
  have h10 := pf.txt
  have h11 := t.c.home.txt
  rcases hx with rfl | rfl | rfl | rfl | rfl | rfl | rfl | rfl | rfl | rfl | rfl <;> simp_all
abbrev s_Run_do : Stmt := inClass (top 31) 2
abbrev N_Run_do : List Str := ["self", "step", "found"]
theorem sc_Run_do : FnScope N_Run_do ["self", "step"] (defScope s_Run_do) := ⟨rfl, rfl, rfl, by decide +kernel, rfl, by decide +kernel, by decide +kernel⟩
def sp_Run_do (K : PySem.W.Frag) : Sp := fun vs H Q E => ∃ (A : RA) (m : M) (hs : List (Str × Int)) (N : Nat) (x : V), vs = [.ref A.p, x] ∧ RunAt K H A m hs ∧ m.Ok N ∧ N < 90000 ∧ hs.length < 90000 ∧ KnI H x ∧
  (∀ a z n t m' H1, x = .ref a → H a = some (.tup [.str z, .int n]) → stepV H x = true → m.step z n = some (t, m') → Fr A.mu' H H1 → RunAt K H1 A m' (hs ++ [(z, n)]) → Q (.int t) H1) ∧
  (∀ a z n H1, x = .ref a → H a = some (.tup [.str z, .int n]) → stepV H x = true → m.step z n = none → Same H H1 → E (.ref (He.ga K (errOf z))) none H1) ∧
  (stepV H x = false → E (.ref (He.ga K "BadStep")) none H)
theorem ok_Run_do {P : Program} {w : World} {K : PySem.W.Frag} {mg : Str → Option Value} {base : Heap} (F : FnP K ("Run", some "do") "do" "Run.do" s_Run_do) (hc : Cls K (He.ga K "Run")) (hm : Meth K (He.ga K "Run") "do" (He.ma K (He.ga K "Run") "do")) (bl : Blt mg) (hRun : RunF K) (m_Run_done : MCal P w K mg base 3 (He.ga K "Run") "done" (sp_Run_done K)) (c_need_step : Cal P w K mg base 2 "need_step" (sp_need_step K)) : MCal P w K mg base 4 (He.ga K "Run") "do" (sp_Run_do K) := by
  refine fn_mcal F hc hm sc_Run_do (fun vs H Q E => by walk_at "len") (fun _ _ _ _ _ _ us hl => match us, hl with | [_, _], _ => rfl) (fun f cdv A outer s H vs Q E hr h => ?_)
  have hu := hu_of hr
  obtain ⟨A, m, hs, N, x, rfl, t, ok, hN, hl, hk, q1, q2, q3⟩ := h
  obtain ⟨dx, hp⟩ := t.c.ins
  refine ⟨_, (pss_cons (ps_expr (pe_fn c_need_step (hr.mono (by decide)) (L2N.takes_of rfl rfl rfl rfl) (pa_cons (pv 1) pa_nil)))
  (pss_cons (ps_set (i := 2) sc_Run_do.nd rfl (Or.inl rfl) (pe_mth (pv 0) m_Run_done (hr.mono (by decide)) (L2N.takes_of rfl rfl rfl rfl) (pa_cons (pv 1) pa_nil)))
  (pss_cons (ps_expr (pe_app (pe_fld (pv 0) rfl) (pv 1)))
  (pss_one (ps_ret (pv 2)))))), ?_⟩
  walk_at "st0"
  refine seq_gen fun N_a h_a => ?_
  simp only [RDa, RDb, RDv, RDk, RDx, RDe, RDd, RDp, RDq, List.getElem?_cons_zero, List.getElem?_cons_succ, List.set_cons_zero, List.set_cons_succ, List.cons.injEq, List.cons_ne_nil, reduceCtorEq, exists_eq_left', exists_eq_left, exists_and_left, and_assoc, exists_const, true_and, and_true, if_true, if_false, false_and, and_false, exists_false, false_or, or_false, true_implies, false_implies, implies_true, forall_eq, forall_eq', Bool.false_eq_true, if_neg, decide_eq_true_eq, Bool.not_eq_true', decide_eq_false_iff_not, Bool.not_true, Bool.not_false, List.length_cons, List.length_nil, sizeLine_eq, Nat.reduceAdd, Nat.reduceLeDiff, Nat.reduceLT, Int.reduceLT, Int.reduceLE, Int.emod_nonneg, ne_eq, Int.reduceEq, not_false_eq_true, not_true_eq_false]
  refine ⟨x, rfl, hk, fun hv => ?_, q3⟩
  obtain ⟨a, z, n, rfl, ha, hz, n0, n1⟩ := stepV_parts hv
  refine h_a _ _ ?_
  clear h_a
  refine seq_gen fun N_b h_b => ?_
  simp only [RDa, RDb, RDv, RDk, RDx, RDe, RDd, RDp, RDq, List.getElem?_cons_zero, List.getElem?_cons_succ, List.set_cons_zero, List.set_cons_succ, List.cons.injEq, List.cons_ne_nil, reduceCtorEq, exists_eq_left', exists_eq_left, exists_and_left, and_assoc, exists_const, true_and, and_true, if_true, if_false, false_and, and_false, exists_false, false_or, or_false, true_implies, false_implies, implies_true, forall_eq, forall_eq', Bool.false_eq_true, if_neg, decide_eq_true_eq, Bool.not_eq_true', decide_eq_false_iff_not, Bool.not_true, Bool.not_false, List.length_cons, List.length_nil, sizeLine_eq, Nat.reduceAdd, Nat.reduceLeDiff, Nat.reduceLT, Int.reduceLT, Int.reduceLE, Int.emod_nonneg, ne_eq, Int.reduceEq, not_false_eq_true, not_true_eq_false, hRun, RunL, hp]
  refine ⟨A, m, N, a, z, n, rfl, t.c, ok, hN, ha, hz, n0, n1, fun u m' H1 es f1 c1 => ?_, fun es H1 s1 => q2 a z n H1 rfl ha hv es s1⟩
  refine h_b _ _ ?_
  clear h_b
  obtain ⟨sx, hst, al⟩ := t.stp
  have hp1 : H1 A.p = _ := f1 _ _ (nin t.c.nd 0 [4, 5, 6, 7, 8, 9] (by decide)) hp
  have hs1 : H1 A.st = _ := f1 _ _ (nin t.c.nd 10 [4, 5, 6, 7, 8, 9] (by decide)) hst
  have hls := al.length
  simp only [RDa, RDb, RDv, RDk, RDx, RDe, RDd, RDp, RDq, List.getElem?_cons_zero, List.getElem?_cons_succ, List.set_cons_zero, List.set_cons_succ, List.cons.injEq, List.cons_ne_nil, reduceCtorEq, exists_eq_left', exists_eq_left, exists_and_left, and_assoc, exists_const, true_and, and_true, if_true, if_false, false_and, and_false, exists_false, false_or, or_false, true_implies, false_implies, implies_true, forall_eq, forall_eq', Bool.false_eq_true, if_neg, decide_eq_true_eq, Bool.not_eq_true', decide_eq_false_iff_not, Bool.not_true, Bool.not_false, List.length_cons, List.length_nil, sizeLine_eq, Nat.reduceAdd, Nat.reduceLeDiff, Nat.reduceLT, Int.reduceLT, Int.reduceLE, Int.emod_nonneg, ne_eq, Int.reduceEq, not_false_eq_true, not_true_eq_false, hRun, RunL, hp1, hs1]
  have f2 : Fr [A.st] H1 (upd H1 A.st (.lst (sx ++ [.ref a]))) := (Fr.refl _ _).upd (by simp)
  have e2 : (upd H1 A.st (.lst (sx ++ [.ref a]))) A.st = _ := upd_same
  generalize upd H1 A.st (.lst (sx ++ [.ref a])) = H2 at f2 e2
  have f3 : Fr A.mu' H H2 := (f1.mono (by simp [RA.mu, RA.mu'])).trans (f2.mono (by simp [RA.mu']))
  have nt : ∀ x ∈ A.mu', ∀ xs, H x ≠ some (.tup xs) := fun x hx => t.nt x (by revert hx; simp only [RA.mu', RA.al, List.mem_cons, List.not_mem_nil, or_false]; rintro (rfl | rfl | rfl | rfl | rfl | rfl | rfl) <;> simp)
  have nt2 : ∀ x ∈ [A.st], ∀ xs, H1 x ≠ some (.tup xs) := fun x hx xs => by
    rw [List.mem_singleton.mp hx, hs1]
    simp
  obtain ⟨dx1, ho⟩ := c1.one
  obtain ⟨dx2, hi⟩ := c1.ins
  obtain ⟨ts, pf, al2⟩ := c1.forth
  have c2 : RunC K H2 A m' := ⟨⟨dx2, f2 _ _ (nin t.c.nd 0 [10] (by decide)) hi⟩, f2 _ _ (fun m'' => nt2 _ m'' _ c1.bnd) c1.bnd, f2 _ _ (nin t.c.nd 1 [10] (by decide)) c1.lore, ⟨dx1, f2 _ _ (nin t.c.nd 4 [10] (by decide)) ho⟩,
    c1.oth.fr f2 (nin t.c.nd 5 [10] (by decide)) (nin t.c.nd 6 [10] (by decide)) (nin t.c.nd 7 [10] (by decide)), ⟨ts, pf.fr f2 (nin t.c.nd 2 [10] (by decide)) (nin t.c.nd 8 [10] (by decide)), al2.mono fun _ _ => LetAt.fr f2 nt2⟩,
    c1.home.fr f2 (nin t.c.nd 3 [10] (by decide)) (nin t.c.nd 9 [10] (by decide)), t.c.nd⟩
  have ec := M.step_const es
  refine ⟨by omega, q1 a z n u m' H2 rfl ha hv es f3 ⟨c2, ⟨_, e2, ?_⟩, ?_, ?_⟩⟩
  · exact (al.mono fun _ _ => StepAt.fr f3 nt).snoc ⟨a, rfl, f3 _ _ (fun m'' => nt _ m'' _ ha) ha⟩
  · rw [ec.1, ec.2.1, ec.2.2.1, ec.2.2.2.1, ec.2.2.2.2.1, ec.2.2.2.2.2]
    exact M.run_snoc hs _ _ _ _ _ _ t.rep es
  · intro q hq
    rcases List.mem_append.mp hq with h | h
    · exact t.okh q h
    · rw [List.mem_singleton.mp h]
      exact ⟨hz, n0, n1⟩
abbrev s_Run_out : Stmt := inClass (top 31) 3
abbrev N_Run_out : List Str := ["self"]
theorem sc_Run_out : FnScope N_Run_out ["self"] (defScope s_Run_out) := ⟨rfl, rfl, rfl, by decide +kernel, rfl, by decide +kernel, by decide +kernel⟩
def sp_Run_out (K : PySem.W.Frag) : Sp := fun vs H Q E => ∃ (A : RA) (m : M), vs = [.ref A.p] ∧ RunC K H A m ∧ ∀ l H', H l = none → Same H H' → H' l = some (.lst (m.out.map V.str)) → Q (.ref l) H'
theorem ok_Run_out {P : Program} {w : World} {K : PySem.W.Frag} {mg : Str → Option Value} {base : Heap} (F : FnP K ("Run", some "out") "out" "Run.out" s_Run_out) (hc : Cls K (He.ga K "Run")) (hm : Meth K (He.ga K "Run") "out" (He.ma K (He.ga K "Run") "out")) (bl : Blt mg) (hRun : RunF K) (hTaker : TakerF K) (m_Taker_gone : MCal P w K mg base 1 (He.ga K "Taker") "gone" (sp_Taker_gone K)) : MCal P w K mg base 2 (He.ga K "Run") "out" (sp_Run_out K) := by
  refine fn_mcal F hc hm sc_Run_out (fun vs H Q E => by walk_at "len") (fun _ _ _ _ _ _ us hl => match us, hl with | [_], _ => rfl) (fun f cdv A outer s H vs Q E hr h => ?_)
  have hu := hu_of hr
  obtain ⟨A, m, rfl, t, q⟩ := h
  obtain ⟨dx, hp⟩ := t.ins
  obtain ⟨dx2, ho⟩ := t.oth.ins
  refine ⟨_, (pss_one (ps_ret (pe_mth0 (pe_fld (pv 0) rfl) m_Taker_gone (hr.mono (by decide)) (L2N.takes_of rfl rfl rfl rfl)))), ?_⟩
  walk_at "st0"
  simp only [RDa, RDb, RDv, RDk, RDx, RDe, RDd, RDp, RDq, List.getElem?_cons_zero, List.getElem?_cons_succ, List.set_cons_zero, List.set_cons_succ, List.cons.injEq, List.cons_ne_nil, reduceCtorEq, exists_eq_left', exists_eq_left, exists_and_left, and_assoc, exists_const, true_and, and_true, if_true, if_false, false_and, and_false, exists_false, false_or, or_false, true_implies, false_implies, implies_true, forall_eq, forall_eq', Bool.false_eq_true, if_neg, decide_eq_true_eq, Bool.not_eq_true', decide_eq_false_iff_not, Bool.not_true, Bool.not_false, List.length_cons, List.length_nil, sizeLine_eq, Nat.reduceAdd, Nat.reduceLeDiff, Nat.reduceLT, Int.reduceLT, Int.reduceLE, Int.emod_nonneg, ne_eq, Int.reduceEq, not_false_eq_true, not_true_eq_false, hRun, RunL, hp, hTaker, TakerL, ho]
  exact ⟨A.oth, A.otx, A.ohx, m.r, m.ring, m.want, m.out, m.kept, rfl, t.oth, q⟩
def rCatTC : R2 := fun x y H Q => ∃ a b xs ys, x = .ref a ∧ y = .ref b ∧ H a = some (.tup xs) ∧ H b = some (.tup ys) ∧ xs ≠ [] ∧ ys ≠ [] ∧ xs.length + ys.length ≤ sizeLine ∧ ∀ p, H p = none → Q (.ref p) (upd H p (.tup (xs ++ ys)))
theorem op_catTC {X : Cx} : OpR X (binaryOp .Add) rCatTC := op_imp op_catT fun x y H Q ⟨a, b, xs, ys, e1, e2, h1, h2, n1, n2, l, q⟩ => ⟨a, b, xs, ys, e1, e2, SqT.of h1, SqT.of h2, n1, l, fun e => absurd e n2, fun _ => q⟩
theorem RDc : ∀ (x y : V) (H : Hp) (Q : VK), rCatTC x y H Q = ∃ a b xs ys, x = .ref a ∧ y = .ref b ∧ H a = some (.tup xs) ∧ H b = some (.tup ys) ∧ xs ≠ [] ∧ ys ≠ [] ∧ xs.length + ys.length ≤ sizeLine ∧ ∀ p, H p = none → Q (.ref p) (upd H p (.tup (xs ++ ys))) := fun _ _ _ _ => rfl
end RP

namespace RP
open PySem PySem.Spec PyProof.Rows L2 L2H
abbrev s_Run_counts : Stmt := inClass (top 31) 4
abbrev N_Run_counts : List Str := ["self"]
theorem sc_Run_counts : FnScope N_Run_counts ["self"] (defScope s_Run_counts) := ⟨rfl, rfl, rfl, by decide +kernel, rfl, by decide +kernel, by decide +kernel⟩
def sp_Run_counts (K : PySem.W.Frag) : Sp := fun vs H Q E => ∃ (A : RA) (m : M), vs = [.ref A.p] ∧ RunC K H A m ∧ ∀ l H', H l = none → Same H H' → H' l = some (.tup [.int m.base, .int m.top, .int m.want]) → Q (.ref l) H'
theorem ok_Run_counts {P : Program} {w : World} {K : PySem.W.Frag} {mg : Str → Option Value} {base : Heap} (F : FnP K ("Run", some "counts") "counts" "Run.counts" s_Run_counts) (hc : Cls K (He.ga K "Run")) (hm : Meth K (He.ga K "Run") "counts" (He.ma K (He.ga K "Run") "counts")) (bl : Blt mg) (hRun : RunF K) (hSender : SenderF K) (hTaker : TakerF K) (m_Sender_span : MCal P w K mg base 1 (He.ga K "Sender") "span" (sp_Sender_span K)) (m_Taker_want : MCal P w K mg base 1 (He.ga K "Taker") "want" (sp_Taker_want K)) : MCal P w K mg base 2 (He.ga K "Run") "counts" (sp_Run_counts K) := by
  refine fn_mcal F hc hm sc_Run_counts (fun vs H Q E => by walk_at "len") (fun _ _ _ _ _ _ us hl => match us, hl with | [_], _ => rfl) (fun f cdv A outer s H vs Q E hr h => ?_)
  have hu := hu_of hr
  obtain ⟨A, m, rfl, t, q⟩ := h
  obtain ⟨dx, hp⟩ := t.ins
  obtain ⟨dx1, h1⟩ := t.one
  obtain ⟨dx2, ho⟩ := t.oth.ins
  refine ⟨_, (pss_one (ps_ret (pe_op op_catTC (pe_mth0 (pe_fld (pv 0) rfl) m_Sender_span (hr.mono (by decide)) (L2N.takes_of rfl rfl rfl rfl)) (pe_tup (pa_cons (pe_mth0 (pe_fld (pv 0) rfl) m_Taker_want (hr.mono (by decide)) (L2N.takes_of rfl rfl rfl rfl)) pa_nil))))), ?_⟩
  walk_at "st0"
  simp only [RDa, RDb, RDv, RDk, RDx, RDe, RDd, RDp, RDq, List.getElem?_cons_zero, List.getElem?_cons_succ, List.set_cons_zero, List.set_cons_succ, List.cons.injEq, List.cons_ne_nil, reduceCtorEq, exists_eq_left', exists_eq_left, exists_and_left, and_assoc, exists_const, true_and, and_true, if_true, if_false, false_and, and_false, exists_false, false_or, or_false, true_implies, false_implies, implies_true, forall_eq, forall_eq', Bool.false_eq_true, if_neg, decide_eq_true_eq, Bool.not_eq_true', decide_eq_false_iff_not, Bool.not_true, Bool.not_false, List.length_cons, List.length_nil, sizeLine_eq, Nat.reduceAdd, Nat.reduceLeDiff, Nat.reduceLT, Int.reduceLT, Int.reduceLE, Int.emod_nonneg, ne_eq, Int.reduceEq, not_false_eq_true, not_true_eq_false, hRun, RunL, hp, hSender, SenderL, h1]
  refine ⟨A.one, dx1, _, _, _, _, _, rfl, h1, fun a na => ?_⟩
  have s1 : Same H (upd H a (.tup [.int m.base, .int m.top])) := same_new na
  have ea : (upd H a (.tup [.int m.base, .int m.top])) a = _ := upd_same
  generalize upd H a (.tup [.int m.base, .int m.top]) = H1 at s1 ea
  have hp1 : H1 A.p = _ := s1 _ _ hp
  have ho1 : H1 A.oth = _ := s1 _ _ ho
  simp only [RDa, RDb, RDv, RDk, RDx, RDe, RDd, RDp, RDq, List.getElem?_cons_zero, List.getElem?_cons_succ, List.set_cons_zero, List.set_cons_succ, List.cons.injEq, List.cons_ne_nil, reduceCtorEq, exists_eq_left', exists_eq_left, exists_and_left, and_assoc, exists_const, true_and, and_true, if_true, if_false, false_and, and_false, exists_false, false_or, or_false, true_implies, false_implies, implies_true, forall_eq, forall_eq', Bool.false_eq_true, if_neg, decide_eq_true_eq, Bool.not_eq_true', decide_eq_false_iff_not, Bool.not_true, Bool.not_false, List.length_cons, List.length_nil, sizeLine_eq, Nat.reduceAdd, Nat.reduceLeDiff, Nat.reduceLT, Int.reduceLT, Int.reduceLE, Int.emod_nonneg, ne_eq, Int.reduceEq, not_false_eq_true, not_true_eq_false, hRun, RunL, hp1, hTaker, TakerL, ho1, RDc]
  refine ⟨A.oth, dx2, _, _, _, _, _, rfl, ho1, fun c nc => ?_⟩
  have s2 : Same H1 (upd H1 c (.tup [.int m.want])) := same_new nc
  refine ⟨_, s2 _ _ ea, _, upd_same, by simp, by simp, by simp, fun l nl => ?_⟩
  exact q l _ (s1.free (s2.free nl)) ((s1.trans s2).trans (same_new nl)) upd_same
end RP

namespace RP
open PySem PySem.Spec PyProof.Rows L2 L2H
theorem textsV_strs {H : Hp} {x : V} (h : textsV H x = true) : ∃ (a : Addr) (tx : List Str), x = .ref a ∧ H a = some (.lst (tx.map V.str)) ∧ tx.length ≤ 400 ∧ ∀ z ∈ tx, z.length ≤ 40 := by
  unfold textsV at h
  split at h
  · rename_i a
    split at h
    · rename_i xs e
      rw [Bool.and_eq_true, decide_eq_true_eq, List.all_eq_true] at h
      have key : ∀ xs : List V, (∀ x ∈ xs, textV x = true) → ∃ tx : List Str, xs = tx.map V.str ∧ ∀ z ∈ tx, z.length ≤ 40 := by
        intro xs
        induction xs with
        | nil => exact fun _ => ⟨[], rfl, fun _ m => by cases m⟩
        | cons y r ih =>
          intro hx
          obtain ⟨tx, e1, e2⟩ := ih fun z hz => hx z (List.mem_cons_of_mem _ hz)
          have hy := hx y List.mem_cons_self
          cases y <;> simp only [textV, Bool.false_eq_true, reduceCtorEq, decide_eq_true_eq] at hy
          rename_i z
          exact ⟨z :: tx, by rw [e1]; rfl, fun z' hz' => by
            rcases List.mem_cons.mp hz' with rfl | h
            · exact hy
            · exact e2 z' h⟩
      obtain ⟨tx, e1, e2⟩ := key xs h.2
      refine ⟨a, tx, rfl, by rw [← e1]; exact e, ?_, e2⟩
      have := h.1
      rw [e1, List.length_map] at this
      exact this
    · cases h
  · cases h
theorem free_fr {H H1 : Hp} {p c : Addr} {o : HO} (f : Fr [p] H H1) (hp : H1 p = some o) (n : H1 c = none) : H c = none := by
  cases e : H c with
  | none => rfl
  | some u =>
    have cp : c ≠ p := fun e2 => by rw [e2, hp] at n; cases n
    rw [f c u (by simpa using cp) e] at n
    cases n
/-- a place gets a new thing -/
def FldQ (K : PySem.W.Frag) (p : Addr) (f : Str) (N : L2.St → Hp → Prop) (σ : L2.St) : VK := fun v H2 => ∃ x1 x2 x3, H2 p = some (.ins x1 x2 x3) ∧ Cls K x1 ∧ NoAttr K x1 f ∧ x3.length < 1000 ∧ N σ (upd H2 p (.ins x1 x2 (putF f v x3)))
theorem mk_Sender {K : PySem.W.Frag} {H : Hp} {w r m : Int} {Q : VK} {E : XK} (q : ∀ p dx H', H p = none → Same H H' → H' p = some (.ins (He.ga K "Sender") dx (flSender w r m 0 0)) → Q (.ref p) H') (x dx : Addr) (h1 : H x = none) (h2 : H dx = none) (h3 : ¬ dx = x) :
    sp_Sender_init K [.ref x, .int w, .int r, .int m] (upd (upd H dx (.own x)) x (.ins (He.ga K "Sender") dx [])) (fun v H2 => v = .non ∧ Q (.ref x) H2) E := by
  refine ⟨x, dx, w, r, m, rfl, upd_same, rfl, q x dx _ h1 (fun c o e => ?_) upd_same⟩
  have e1 : c ≠ x := ne_of_none e h1
  have e2 : c ≠ dx := ne_of_none e h2
  rw [upd_ne e1, upd_ne e1, upd_ne e2]
  exact e
abbrev s_Run_init : Stmt := inClass (top 31) 0
abbrev N_Run_init : List Str := ["self", "bounds", "ring", "texts"]
theorem sc_Run_init : FnScope N_Run_init ["self", "bounds", "ring", "texts"] (defScope s_Run_init) := ⟨rfl, rfl, rfl, by decide +kernel, rfl, by decide +kernel, by decide +kernel⟩
def sp_Run_init (K : PySem.W.Frag) : Sp := fun vs H Q E => ∃ p dx x y z, vs = [.ref p, x, y, z] ∧ H p = some (.ins (He.ga K "Run") dx []) ∧ KnI H x ∧ Kn H y ∧ KnI H z ∧ (∀ a xs z', z = .ref a → H a = some (.lst xs) → .str z' ∈ xs → z'.length ≤ 100000) ∧
  (boundsV H x = false → E (.ref (He.ga K "BadBounds")) none H) ∧ (boundsV H x = true → amongV y 1 200 = false → E (.ref (He.ga K "BadRing")) none H) ∧ (boundsV H x = true → amongV y 1 200 = true → textsV H z = false → E (.ref (He.ga K "BadTexts")) none H) ∧
  (∀ ba w r d b g tl tx A H', x = .ref ba → H ba = some (.tup [.int w, .int r, .int d, .int b]) → boundsV H x = true → y = .int g → 1 ≤ g → g ≤ 200 → z = .ref tl → H tl = some (.lst (tx.map V.str)) → textsV H z = true → A.p = p → A.ba = ba → (∀ c ∈ A.al, c = p ∨ H c = none) → Fr [p] H H' → RunAt K H' A (M.begun w r d b g tx) [] → Q .non H')
theorem ok_Run_init {P : Program} {w : World} {K : PySem.W.Frag} {mg : Str → Option Value} {base : Heap} (F : FnP K ("Run", some "__init__") "__init__" "Run.__init__" s_Run_init) (hm : mg "Run" = some (.ref (He.ga K "Run"))) (hmk : Mk K (He.ga K "Run") (He.ma K (He.ga K "Run") "__init__")) (bl : Blt mg) (hRun : RunF K) (c_Post : KCal P w K mg base 1 "Post" (He.ga K "Post") (sp_Post_init K)) (c_Sender : KCal P w K mg base 1 "Sender" (He.ga K "Sender") (sp_Sender_init K)) (c_Taker : KCal P w K mg base 1 "Taker" (He.ga K "Taker") (sp_Taker_init K)) (c_need_bounds : Cal P w K mg base 3 "need_bounds" (sp_need_bounds K)) (c_need_ring : Cal P w K mg base 2 "need_ring" (sp_need_ring K)) (c_need_texts : Cal P w K mg base 2 "need_texts" (sp_need_texts K)) : KCal P w K mg base 4 "Run" (He.ga K "Run") (sp_Run_init K) := by
  refine fn_kcal F hm hmk sc_Run_init (fun vs H Q E => by walk_at "len") (fun _ _ _ _ _ _ us hl => match us, hl with | [_, _, _, _], _ => rfl) (fun f cdv A outer s H vs Q E hr h => ?_)
  have hu := hu_of hr
  obtain ⟨p, dx, x, y, z, rfl, hp, kx, ky, kz, lz, q1, q2, q3, q4⟩ := h
  refine ⟨_, (pss_cons (ps_expr (pe_fn c_need_bounds (hr.mono (by decide)) (L2N.takes_of rfl rfl rfl rfl) (pa_cons (pv 1) pa_nil)))
  (pss_cons (ps_expr (pe_fn c_need_ring (hr.mono (by decide)) (L2N.takes_of rfl rfl rfl rfl) (pa_cons (pv 2) pa_nil)))
  (pss_cons (ps_expr (pe_fn c_need_texts (hr.mono (by decide)) (L2N.takes_of rfl rfl rfl rfl) (pa_cons (pv 3) pa_nil)))
  (pss_cons (ps_fld (pv 0) (pv 1) rfl)
  (pss_cons (ps_fld (pv 0) (pv 2) rfl)
  (pss_cons (ps_fld (pv 0) (pe_callTy call_listC (by rfl) (bl.list) (by decide +kernel) (pa_cons (pv 3) pa_nil)) rfl)
  (pss_cons (ps_fld (pv 0) (pe_mk c_Sender (hr.mono (by decide)) (L2N.takes_of rfl rfl rfl rfl) (pa_cons (pe_ix ix_C (pv 1) pe_int (fun _ _ => rfl)) (pa_cons (pv 2) (pa_cons (pe_callB call_lenC (by rfl) (bl.len) (by decide +kernel) (pa_cons (pv 3) pa_nil)) pa_nil)))) rfl)
  (pss_cons (ps_fld (pv 0) (pe_mk c_Taker (hr.mono (by decide)) (L2N.takes_of rfl rfl rfl rfl) (pa_cons (pe_ix ix_C (pv 1) pe_int (fun _ _ => rfl)) (pa_cons (pv 2) pa_nil))) rfl)
  (pss_cons (ps_fld (pv 0) (pe_mk c_Post (hr.mono (by decide)) (L2N.takes_of rfl rfl rfl rfl) (pa_cons (pe_ix ix_C (pv 1) pe_int (fun _ _ => rfl)) pa_nil)) rfl)
  (pss_cons (ps_fld (pv 0) (pe_mk c_Post (hr.mono (by decide)) (L2N.takes_of rfl rfl rfl rfl) (pa_cons (pe_ix ix_C (pv 1) pe_int (fun _ _ => rfl)) pa_nil)) rfl)
  (pss_one (ps_fld (pv 0) (pe_lst pa_nil) rfl)))))))))))), ?_⟩
  walk_at "st0"
  refine seq_gen fun N_a h_a => ?_
  simp only [RDa, RDb, RDv, RDk, RDx, RDe, RDd, RDp, RDq, List.getElem?_cons_zero, List.getElem?_cons_succ, List.set_cons_zero, List.set_cons_succ, List.cons.injEq, List.cons_ne_nil, reduceCtorEq, exists_eq_left', exists_eq_left, exists_and_left, and_assoc, exists_const, true_and, and_true, if_true, if_false, false_and, and_false, exists_false, false_or, or_false, true_implies, false_implies, implies_true, forall_eq, forall_eq', Bool.false_eq_true, if_neg, decide_eq_true_eq, Bool.not_eq_true', decide_eq_false_iff_not, Bool.not_true, Bool.not_false, List.length_cons, List.length_nil, sizeLine_eq, Nat.reduceAdd, Nat.reduceLeDiff, Nat.reduceLT, Int.reduceLT, Int.reduceLE, Int.emod_nonneg, ne_eq, Int.reduceEq, not_false_eq_true, not_true_eq_false]
  refine ⟨x, rfl, kx, fun hb => h_a _ _ ?_, q1⟩
  clear h_a
  refine seq_gen fun N_b h_b => ?_
  simp only [RDa, RDb, RDv, RDk, RDx, RDe, RDd, RDp, RDq, List.getElem?_cons_zero, List.getElem?_cons_succ, List.set_cons_zero, List.set_cons_succ, List.cons.injEq, List.cons_ne_nil, reduceCtorEq, exists_eq_left', exists_eq_left, exists_and_left, and_assoc, exists_const, true_and, and_true, if_true, if_false, false_and, and_false, exists_false, false_or, or_false, true_implies, false_implies, implies_true, forall_eq, forall_eq', Bool.false_eq_true, if_neg, decide_eq_true_eq, Bool.not_eq_true', decide_eq_false_iff_not, Bool.not_true, Bool.not_false, List.length_cons, List.length_nil, sizeLine_eq, Nat.reduceAdd, Nat.reduceLeDiff, Nat.reduceLT, Int.reduceLT, Int.reduceLE, Int.emod_nonneg, ne_eq, Int.reduceEq, not_false_eq_true, not_true_eq_false]
  refine ⟨y, rfl, ky, fun hr => h_b _ _ ?_, q2 hb⟩
  clear h_b
  refine seq_gen fun N_c h_c => ?_
  simp only [RDa, RDb, RDv, RDk, RDx, RDe, RDd, RDp, RDq, List.getElem?_cons_zero, List.getElem?_cons_succ, List.set_cons_zero, List.set_cons_succ, List.cons.injEq, List.cons_ne_nil, reduceCtorEq, exists_eq_left', exists_eq_left, exists_and_left, and_assoc, exists_const, true_and, and_true, if_true, if_false, false_and, and_false, exists_false, false_or, or_false, true_implies, false_implies, implies_true, forall_eq, forall_eq', Bool.false_eq_true, if_neg, decide_eq_true_eq, Bool.not_eq_true', decide_eq_false_iff_not, Bool.not_true, Bool.not_false, List.length_cons, List.length_nil, sizeLine_eq, Nat.reduceAdd, Nat.reduceLeDiff, Nat.reduceLT, Int.reduceLT, Int.reduceLE, Int.emod_nonneg, ne_eq, Int.reduceEq, not_false_eq_true, not_true_eq_false]
  refine ⟨z, rfl, kz, lz, fun ht => h_c _ _ ?_, q3 hb hr⟩
  clear h_c
  obtain ⟨ba, w', r, d, b, rfl, hba, hcs⟩ := boundsV_ints hb
  obtain ⟨g, rfl, g1, g2⟩ := amongV_int hr
  obtain ⟨tl, tx, rfl, htl, htx, htz⟩ := textsV_strs ht
  have np : ba ≠ p := ne_of_obj hba hp (by simp)
  have npt : tl ≠ p := ne_of_obj htl hp (by simp)
  refine seq_gen fun N_d h_d => ?_
  simp only [RDa, RDb, RDv, RDk, RDx, RDe, RDd, RDp, RDq, List.getElem?_cons_zero, List.getElem?_cons_succ, List.set_cons_zero, List.set_cons_succ, List.cons.injEq, List.cons_ne_nil, reduceCtorEq, exists_eq_left', exists_eq_left, exists_and_left, and_assoc, exists_const, true_and, and_true, if_true, if_false, false_and, and_false, exists_false, false_or, or_false, true_implies, false_implies, implies_true, forall_eq, forall_eq', Bool.false_eq_true, if_neg, decide_eq_true_eq, Bool.not_eq_true', decide_eq_false_iff_not, Bool.not_true, Bool.not_false, List.length_cons, List.length_nil, sizeLine_eq, Nat.reduceAdd, Nat.reduceLeDiff, Nat.reduceLT, Int.reduceLT, Int.reduceLE, Int.emod_nonneg, ne_eq, Int.reduceEq, not_false_eq_true, not_true_eq_false, RunI, hp, hRun.1, hRun.2.1]
  refine h_d _ _ ?_
  clear h_d
  refine seq_gen fun N_e h_e => ?_
  simp only [RDa, RDb, RDv, RDk, RDx, RDe, RDd, RDp, RDq, List.getElem?_cons_zero, List.getElem?_cons_succ, List.set_cons_zero, List.set_cons_succ, List.cons.injEq, List.cons_ne_nil, reduceCtorEq, exists_eq_left', exists_eq_left, exists_and_left, and_assoc, exists_const, true_and, and_true, if_true, if_false, false_and, and_false, exists_false, false_or, or_false, true_implies, false_implies, implies_true, forall_eq, forall_eq', Bool.false_eq_true, if_neg, decide_eq_true_eq, Bool.not_eq_true', decide_eq_false_iff_not, Bool.not_true, Bool.not_false, List.length_cons, List.length_nil, sizeLine_eq, Nat.reduceAdd, Nat.reduceLeDiff, Nat.reduceLT, Int.reduceLT, Int.reduceLE, Int.emod_nonneg, ne_eq, Int.reduceEq, not_false_eq_true, not_true_eq_false, RunI, upd_same, upd_upd, hRun]
  refine h_e _ _ ?_
  clear h_e
  have f1 : Fr [p] H (upd H p (.ins (He.ga K "Run") dx [("bounds", .ref ba), ("ring", .int g)])) := (Fr.refl _ _).upd (by simp)
  have p1 : (upd H p (.ins (He.ga K "Run") dx [("bounds", .ref ba), ("ring", .int g)])) p = _ := upd_same
  generalize upd H p (.ins (He.ga K "Run") dx [("bounds", .ref ba), ("ring", .int g)]) = H1 at f1 p1
  have hba1 : H1 ba = _ := f1 _ _ (by simpa using np) hba
  have htl1 : H1 tl = _ := f1 _ _ (by simpa using npt) htl
  refine seq_gen fun N_f h_f => ?_
  simp only [RDa, RDb, RDv, RDk, RDx, RDe, RDd, RDp, RDq, List.getElem?_cons_zero, List.getElem?_cons_succ, List.set_cons_zero, List.set_cons_succ, List.cons.injEq, List.cons_ne_nil, reduceCtorEq, exists_eq_left', exists_eq_left, exists_and_left, and_assoc, exists_const, true_and, and_true, if_true, if_false, false_and, and_false, exists_false, false_or, or_false, true_implies, false_implies, implies_true, forall_eq, forall_eq', Bool.false_eq_true, if_neg, decide_eq_true_eq, Bool.not_eq_true', decide_eq_false_iff_not, Bool.not_true, Bool.not_false, List.length_cons, List.length_nil, sizeLine_eq, Nat.reduceAdd, Nat.reduceLeDiff, Nat.reduceLT, Int.reduceLT, Int.reduceLE, Int.emod_nonneg, ne_eq, Int.reduceEq, not_false_eq_true, not_true_eq_false, seqO_lst htl1, RunI, p1, hRun]
  intro lo nlo
  have plo : p ≠ lo := ne_of_none p1 nlo
  refine ⟨_, dx, _, (upd_ne plo).trans p1, hRun.1, hRun.2.2.2.1, by simp, ?_⟩
  simp only [RDa, RDb, RDv, RDk, RDx, RDe, RDd, RDp, RDq, List.getElem?_cons_zero, List.getElem?_cons_succ, List.set_cons_zero, List.set_cons_succ, List.cons.injEq, List.cons_ne_nil, reduceCtorEq, exists_eq_left', exists_eq_left, exists_and_left, and_assoc, exists_const, true_and, and_true, if_true, if_false, false_and, and_false, exists_false, false_or, or_false, true_implies, false_implies, implies_true, forall_eq, forall_eq', Bool.false_eq_true, if_neg, decide_eq_true_eq, Bool.not_eq_true', decide_eq_false_iff_not, Bool.not_true, Bool.not_false, List.length_cons, List.length_nil, sizeLine_eq, Nat.reduceAdd, Nat.reduceLeDiff, Nat.reduceLT, Int.reduceLT, Int.reduceLE, Int.emod_nonneg, ne_eq, Int.reduceEq, not_false_eq_true, not_true_eq_false, RunI]
  refine h_f _ _ ?_
  clear h_f
  have f2 : Fr [p] H1 (upd (upd H1 lo (.lst (tx.map V.str))) p (.ins (He.ga K "Run") dx [("bounds", .ref ba), ("ring", .int g), ("lore", .ref lo)])) := ((Fr.refl _ _).new nlo).upd (by simp)
  have p2 : (upd (upd H1 lo (.lst (tx.map V.str))) p (.ins (He.ga K "Run") dx [("bounds", .ref ba), ("ring", .int g), ("lore", .ref lo)])) p = _ := upd_same
  have lo2 : (upd (upd H1 lo (.lst (tx.map V.str))) p (.ins (He.ga K "Run") dx [("bounds", .ref ba), ("ring", .int g), ("lore", .ref lo)])) lo = _ := (upd_ne (Ne.symm plo)).trans upd_same
  generalize upd (upd H1 lo (.lst (tx.map V.str))) p (.ins (He.ga K "Run") dx [("bounds", .ref ba), ("ring", .int g), ("lore", .ref lo)]) = H2 at f2 p2 lo2
  have hba2 : H2 ba = _ := f2 _ _ (by simpa using np) hba1
  have htl2 : H2 tl = _ := f2 _ _ (by simpa using npt) htl1
  refine seq_gen fun N_g h_g => ?_
  simp only [RDa, RDb, RDv, RDk, RDx, RDe, RDd, RDp, RDq, List.getElem?_cons_zero, List.getElem?_cons_succ, List.set_cons_zero, List.set_cons_succ, List.cons.injEq, List.cons_ne_nil, reduceCtorEq, exists_eq_left', exists_eq_left, exists_and_left, and_assoc, exists_const, true_and, and_true, if_true, if_false, false_and, and_false, exists_false, false_or, or_false, true_implies, false_implies, implies_true, forall_eq, forall_eq', Bool.false_eq_true, if_neg, decide_eq_true_eq, Bool.not_eq_true', decide_eq_false_iff_not, Bool.not_true, Bool.not_false, List.length_cons, List.length_nil, sizeLine_eq, Nat.reduceAdd, Nat.reduceLeDiff, Nat.reduceLT, Int.reduceLT, Int.reduceLE, Int.emod_nonneg, ne_eq, Int.reduceEq, not_false_eq_true, not_true_eq_false, seqO_tup hba2, lenO_lst htl2, RunI, p2, hRun]
  refine mk_Sender (Q := FldQ K p "one" N_g [some (.ref p), some (.ref ba), some (.int g), some (.ref tl)]) fun one dxo Hm3 none3 sm3 ho3 => ?_
  have pm3 : Hm3 p = _ := sm3 _ _ p2
  refine ⟨_, dx, _, pm3, hRun.1, hRun.2.2.2.2.1, by simp, ?_⟩
  simp only [RDa, RDb, RDv, RDk, RDx, RDe, RDd, RDp, RDq, List.getElem?_cons_zero, List.getElem?_cons_succ, List.set_cons_zero, List.set_cons_succ, List.cons.injEq, List.cons_ne_nil, reduceCtorEq, exists_eq_left', exists_eq_left, exists_and_left, and_assoc, exists_const, true_and, and_true, if_true, if_false, false_and, and_false, exists_false, false_or, or_false, true_implies, false_implies, implies_true, forall_eq, forall_eq', Bool.false_eq_true, if_neg, decide_eq_true_eq, Bool.not_eq_true', decide_eq_false_iff_not, Bool.not_true, Bool.not_false, List.length_cons, List.length_nil, sizeLine_eq, Nat.reduceAdd, Nat.reduceLeDiff, Nat.reduceLT, Int.reduceLT, Int.reduceLE, Int.emod_nonneg, ne_eq, Int.reduceEq, not_false_eq_true, not_true_eq_false, RunI]
  refine h_g _ _ ?_
  clear h_g
  have f3 : Fr [p] Hm3 (upd Hm3 p (.ins (He.ga K "Run") dx [("bounds", .ref ba), ("ring", .int g), ("lore", .ref lo), ("one", .ref one)])) := (Fr.refl _ _).upd (by simp)
  have p3 : (upd Hm3 p (.ins (He.ga K "Run") dx [("bounds", .ref ba), ("ring", .int g), ("lore", .ref lo), ("one", .ref one)])) p = _ := upd_same
  generalize upd Hm3 p (.ins (He.ga K "Run") dx [("bounds", .ref ba), ("ring", .int g), ("lore", .ref lo), ("one", .ref one)]) = H3 at f3 p3
  have fz3 : Fr [p] H2 H3 := (Fr.of sm3).trans f3
  have hba3 : H3 ba = _ := fz3 _ _ (by simpa using np) hba2
  have htl3 : H3 tl = _ := fz3 _ _ (by simpa using npt) htl2
  refine seq_gen fun N_i h_i => ?_
  simp only [RDa, RDb, RDv, RDk, RDx, RDe, RDd, RDp, RDq, List.getElem?_cons_zero, List.getElem?_cons_succ, List.set_cons_zero, List.set_cons_succ, List.cons.injEq, List.cons_ne_nil, reduceCtorEq, exists_eq_left', exists_eq_left, exists_and_left, and_assoc, exists_const, true_and, and_true, if_true, if_false, false_and, and_false, exists_false, false_or, or_false, true_implies, false_implies, implies_true, forall_eq, forall_eq', Bool.false_eq_true, if_neg, decide_eq_true_eq, Bool.not_eq_true', decide_eq_false_iff_not, Bool.not_true, Bool.not_false, List.length_cons, List.length_nil, sizeLine_eq, Nat.reduceAdd, Nat.reduceLeDiff, Nat.reduceLT, Int.reduceLT, Int.reduceLE, Int.emod_nonneg, ne_eq, Int.reduceEq, not_false_eq_true, not_true_eq_false, seqO_tup hba3, lenO_lst htl3, RunI, p3, hRun]
  refine mk_Taker (Q := FldQ K p "other" N_i [some (.ref p), some (.ref ba), some (.int g), some (.ref tl)]) fun oth otx ohx Hm4 noth notx nohx sm4 ht4 => ?_
  have pm4 : Hm4 p = _ := sm4 _ _ p3
  refine ⟨_, dx, _, pm4, hRun.1, hRun.2.2.2.2.2.1, by simp, ?_⟩
  simp only [RDa, RDb, RDv, RDk, RDx, RDe, RDd, RDp, RDq, List.getElem?_cons_zero, List.getElem?_cons_succ, List.set_cons_zero, List.set_cons_succ, List.cons.injEq, List.cons_ne_nil, reduceCtorEq, exists_eq_left', exists_eq_left, exists_and_left, and_assoc, exists_const, true_and, and_true, if_true, if_false, false_and, and_false, exists_false, false_or, or_false, true_implies, false_implies, implies_true, forall_eq, forall_eq', Bool.false_eq_true, if_neg, decide_eq_true_eq, Bool.not_eq_true', decide_eq_false_iff_not, Bool.not_true, Bool.not_false, List.length_cons, List.length_nil, sizeLine_eq, Nat.reduceAdd, Nat.reduceLeDiff, Nat.reduceLT, Int.reduceLT, Int.reduceLE, Int.emod_nonneg, ne_eq, Int.reduceEq, not_false_eq_true, not_true_eq_false, RunI]
  refine h_i _ _ ?_
  clear h_i
  have f4 : Fr [p] Hm4 (upd Hm4 p (.ins (He.ga K "Run") dx [("bounds", .ref ba), ("ring", .int g), ("lore", .ref lo), ("one", .ref one), ("other", .ref oth)])) := (Fr.refl _ _).upd (by simp)
  have p4 : (upd Hm4 p (.ins (He.ga K "Run") dx [("bounds", .ref ba), ("ring", .int g), ("lore", .ref lo), ("one", .ref one), ("other", .ref oth)])) p = _ := upd_same
  generalize upd Hm4 p (.ins (He.ga K "Run") dx [("bounds", .ref ba), ("ring", .int g), ("lore", .ref lo), ("one", .ref one), ("other", .ref oth)]) = H4 at f4 p4
  have fz4 : Fr [p] H3 H4 := (Fr.of sm4).trans f4
  have hba4 : H4 ba = _ := fz4 _ _ (by simpa using np) hba3
  have htl4 : H4 tl = _ := fz4 _ _ (by simpa using npt) htl3
  refine seq_gen fun N_j h_j => ?_
  simp only [RDa, RDb, RDv, RDk, RDx, RDe, RDd, RDp, RDq, List.getElem?_cons_zero, List.getElem?_cons_succ, List.set_cons_zero, List.set_cons_succ, List.cons.injEq, List.cons_ne_nil, reduceCtorEq, exists_eq_left', exists_eq_left, exists_and_left, and_assoc, exists_const, true_and, and_true, if_true, if_false, false_and, and_false, exists_false, false_or, or_false, true_implies, false_implies, implies_true, forall_eq, forall_eq', Bool.false_eq_true, if_neg, decide_eq_true_eq, Bool.not_eq_true', decide_eq_false_iff_not, Bool.not_true, Bool.not_false, List.length_cons, List.length_nil, sizeLine_eq, Nat.reduceAdd, Nat.reduceLeDiff, Nat.reduceLT, Int.reduceLT, Int.reduceLE, Int.emod_nonneg, ne_eq, Int.reduceEq, not_false_eq_true, not_true_eq_false, seqO_tup hba4, RunI, p4, hRun]
  refine mk_Post (Q := FldQ K p "forth" N_j [some (.ref p), some (.ref ba), some (.int g), some (.ref tl)]) fun fo fx Hm5 nfo nfx sm5 hf5 => ?_
  have pm5 : Hm5 p = _ := sm5 _ _ p4
  refine ⟨_, dx, _, pm5, hRun.1, hRun.2.2.2.2.2.2.1, by simp, ?_⟩
  simp only [RDa, RDb, RDv, RDk, RDx, RDe, RDd, RDp, RDq, List.getElem?_cons_zero, List.getElem?_cons_succ, List.set_cons_zero, List.set_cons_succ, List.cons.injEq, List.cons_ne_nil, reduceCtorEq, exists_eq_left', exists_eq_left, exists_and_left, and_assoc, exists_const, true_and, and_true, if_true, if_false, false_and, and_false, exists_false, false_or, or_false, true_implies, false_implies, implies_true, forall_eq, forall_eq', Bool.false_eq_true, if_neg, decide_eq_true_eq, Bool.not_eq_true', decide_eq_false_iff_not, Bool.not_true, Bool.not_false, List.length_cons, List.length_nil, sizeLine_eq, Nat.reduceAdd, Nat.reduceLeDiff, Nat.reduceLT, Int.reduceLT, Int.reduceLE, Int.emod_nonneg, ne_eq, Int.reduceEq, not_false_eq_true, not_true_eq_false, RunI]
  refine h_j _ _ ?_
  clear h_j
  have f5 : Fr [p] Hm5 (upd Hm5 p (.ins (He.ga K "Run") dx [("bounds", .ref ba), ("ring", .int g), ("lore", .ref lo), ("one", .ref one), ("other", .ref oth), ("forth", .ref fo)])) := (Fr.refl _ _).upd (by simp)
  have p5 : (upd Hm5 p (.ins (He.ga K "Run") dx [("bounds", .ref ba), ("ring", .int g), ("lore", .ref lo), ("one", .ref one), ("other", .ref oth), ("forth", .ref fo)])) p = _ := upd_same
  generalize upd Hm5 p (.ins (He.ga K "Run") dx [("bounds", .ref ba), ("ring", .int g), ("lore", .ref lo), ("one", .ref one), ("other", .ref oth), ("forth", .ref fo)]) = H5 at f5 p5
  have fz5 : Fr [p] H4 H5 := (Fr.of sm5).trans f5
  have hba5 : H5 ba = _ := fz5 _ _ (by simpa using np) hba4
  have htl5 : H5 tl = _ := fz5 _ _ (by simpa using npt) htl4
  refine seq_gen fun N_k h_k => ?_
  simp only [RDa, RDb, RDv, RDk, RDx, RDe, RDd, RDp, RDq, List.getElem?_cons_zero, List.getElem?_cons_succ, List.set_cons_zero, List.set_cons_succ, List.cons.injEq, List.cons_ne_nil, reduceCtorEq, exists_eq_left', exists_eq_left, exists_and_left, and_assoc, exists_const, true_and, and_true, if_true, if_false, false_and, and_false, exists_false, false_or, or_false, true_implies, false_implies, implies_true, forall_eq, forall_eq', Bool.false_eq_true, if_neg, decide_eq_true_eq, Bool.not_eq_true', decide_eq_false_iff_not, Bool.not_true, Bool.not_false, List.length_cons, List.length_nil, sizeLine_eq, Nat.reduceAdd, Nat.reduceLeDiff, Nat.reduceLT, Int.reduceLT, Int.reduceLE, Int.emod_nonneg, ne_eq, Int.reduceEq, not_false_eq_true, not_true_eq_false, seqO_tup hba5, RunI, p5, hRun]
  refine mk_Post (Q := FldQ K p "home" N_k [some (.ref p), some (.ref ba), some (.int g), some (.ref tl)]) fun ho hx Hm6 nho nhx sm6 hh6 => ?_
  have pm6 : Hm6 p = _ := sm6 _ _ p5
  refine ⟨_, dx, _, pm6, hRun.1, hRun.2.2.2.2.2.2.2.1, by simp, ?_⟩
  simp only [RDa, RDb, RDv, RDk, RDx, RDe, RDd, RDp, RDq, List.getElem?_cons_zero, List.getElem?_cons_succ, List.set_cons_zero, List.set_cons_succ, List.cons.injEq, List.cons_ne_nil, reduceCtorEq, exists_eq_left', exists_eq_left, exists_and_left, and_assoc, exists_const, true_and, and_true, if_true, if_false, false_and, and_false, exists_false, false_or, or_false, true_implies, false_implies, implies_true, forall_eq, forall_eq', Bool.false_eq_true, if_neg, decide_eq_true_eq, Bool.not_eq_true', decide_eq_false_iff_not, Bool.not_true, Bool.not_false, List.length_cons, List.length_nil, sizeLine_eq, Nat.reduceAdd, Nat.reduceLeDiff, Nat.reduceLT, Int.reduceLT, Int.reduceLE, Int.emod_nonneg, ne_eq, Int.reduceEq, not_false_eq_true, not_true_eq_false, RunI]
  refine h_k _ _ ?_
  clear h_k
  have f6 : Fr [p] Hm6 (upd Hm6 p (.ins (He.ga K "Run") dx [("bounds", .ref ba), ("ring", .int g), ("lore", .ref lo), ("one", .ref one), ("other", .ref oth), ("forth", .ref fo), ("home", .ref ho)])) := (Fr.refl _ _).upd (by simp)
  have p6 : (upd Hm6 p (.ins (He.ga K "Run") dx [("bounds", .ref ba), ("ring", .int g), ("lore", .ref lo), ("one", .ref one), ("other", .ref oth), ("forth", .ref fo), ("home", .ref ho)])) p = _ := upd_same
  generalize upd Hm6 p (.ins (He.ga K "Run") dx [("bounds", .ref ba), ("ring", .int g), ("lore", .ref lo), ("one", .ref one), ("other", .ref oth), ("forth", .ref fo), ("home", .ref ho)]) = H6 at f6 p6
  have fz6 : Fr [p] H5 H6 := (Fr.of sm6).trans f6
  have hba6 : H6 ba = _ := fz6 _ _ (by simpa using np) hba5
  have htl6 : H6 tl = _ := fz6 _ _ (by simpa using npt) htl5
  simp only [RDa, RDb, RDv, RDk, RDx, RDe, RDd, RDp, RDq, List.getElem?_cons_zero, List.getElem?_cons_succ, List.set_cons_zero, List.set_cons_succ, List.cons.injEq, List.cons_ne_nil, reduceCtorEq, exists_eq_left', exists_eq_left, exists_and_left, and_assoc, exists_const, true_and, and_true, if_true, if_false, false_and, and_false, exists_false, false_or, or_false, true_implies, false_implies, implies_true, forall_eq, forall_eq', Bool.false_eq_true, if_neg, decide_eq_true_eq, Bool.not_eq_true', decide_eq_false_iff_not, Bool.not_true, Bool.not_false, List.length_cons, List.length_nil, sizeLine_eq, Nat.reduceAdd, Nat.reduceLeDiff, Nat.reduceLT, Int.reduceLT, Int.reduceLE, Int.emod_nonneg, ne_eq, Int.reduceEq, not_false_eq_true, not_true_eq_false, RunI, p6, hRun]
  intro st nst
  have sm7 : Same H6 (upd H6 st (.lst [])) := same_new nst
  have st7' : (upd H6 st (.lst [])) st = _ := upd_same
  generalize upd H6 st (.lst []) = Hm7 at sm7 st7'
  have pm7 : Hm7 p = _ := sm7 _ _ p6
  refine ⟨_, dx, _, pm7, hRun.1, hRun.2.2.2.2.2.2.2.2, by simp, ?_⟩
  simp only [RDa, RDb, RDv, RDk, RDx, RDe, RDd, RDp, RDq, List.getElem?_cons_zero, List.getElem?_cons_succ, List.set_cons_zero, List.set_cons_succ, List.cons.injEq, List.cons_ne_nil, reduceCtorEq, exists_eq_left', exists_eq_left, exists_and_left, and_assoc, exists_const, true_and, and_true, if_true, if_false, false_and, and_false, exists_false, false_or, or_false, true_implies, false_implies, implies_true, forall_eq, forall_eq', Bool.false_eq_true, if_neg, decide_eq_true_eq, Bool.not_eq_true', decide_eq_false_iff_not, Bool.not_true, Bool.not_false, List.length_cons, List.length_nil, sizeLine_eq, Nat.reduceAdd, Nat.reduceLeDiff, Nat.reduceLT, Int.reduceLT, Int.reduceLE, Int.emod_nonneg, ne_eq, Int.reduceEq, not_false_eq_true, not_true_eq_false, RunI]
  have f7 : Fr [p] Hm7 (upd Hm7 p (.ins (He.ga K "Run") dx (flRun ba g lo one oth fo ho st))) := (Fr.refl _ _).upd (by simp)
  have p7 : (upd Hm7 p (.ins (He.ga K "Run") dx (flRun ba g lo one oth fo ho st))) p = _ := upd_same
  generalize upd Hm7 p (.ins (He.ga K "Run") dx (flRun ba g lo one oth fo ho st)) = H7 at f7 p7
  have fz7 : Fr [p] H6 H7 := (Fr.of sm7).trans f7
  have hba7 : H7 ba = _ := fz7 _ _ (by simpa using np) hba6
  have xp_one : one ∉ [p] := by rw [List.mem_singleton]; exact Ne.symm (ne_of_none p2 none3)
  have xp_oth : oth ∉ [p] := by rw [List.mem_singleton]; exact Ne.symm (ne_of_none p3 noth)
  have xp_otx : otx ∉ [p] := by rw [List.mem_singleton]; exact Ne.symm (ne_of_none p3 notx)
  have xp_ohx : ohx ∉ [p] := by rw [List.mem_singleton]; exact Ne.symm (ne_of_none p3 nohx)
  have xp_fo : fo ∉ [p] := by rw [List.mem_singleton]; exact Ne.symm (ne_of_none p4 nfo)
  have xp_fx : fx ∉ [p] := by rw [List.mem_singleton]; exact Ne.symm (ne_of_none p4 nfx)
  have xp_ho : ho ∉ [p] := by rw [List.mem_singleton]; exact Ne.symm (ne_of_none p5 nho)
  have xp_hx : hx ∉ [p] := by rw [List.mem_singleton]; exact Ne.symm (ne_of_none p5 nhx)
  have xp_st : st ∉ [p] := by rw [List.mem_singleton]; exact Ne.symm (ne_of_none p6 nst)
  have xp_lo : lo ∉ [p] := by rw [List.mem_singleton]; exact Ne.symm plo
  have o3 := f3 _ _ xp_one ho3
  have t4 := ht4.fr f4 xp_oth xp_otx xp_ohx
  have r5 := hf5.fr f5 xp_fo xp_fx
  have h6 := hh6.fr f6 xp_ho xp_hx
  have s7 := f7 _ _ xp_st st7'
  have l3 : H3 lo = _ := fz3 _ _ xp_lo lo2
  have l4 : H4 lo = _ := fz4 _ _ xp_lo l3
  have l5 : H5 lo = _ := fz5 _ _ xp_lo l4
  have l6 : H6 lo = _ := fz6 _ _ xp_lo l5
  have l7 : H7 lo = _ := fz7 _ _ xp_lo l6
  have o4 : H4 one = _ := fz4 _ _ xp_one o3
  have o5 : H5 one = _ := fz5 _ _ xp_one o4
  have o6 : H6 one = _ := fz6 _ _ xp_one o5
  have o7 : H7 one = _ := fz7 _ _ xp_one o6
  have t5 := t4.fr fz5 xp_oth xp_otx xp_ohx
  have t6 := t5.fr fz6 xp_oth xp_otx xp_ohx
  have t7 := t6.fr fz7 xp_oth xp_otx xp_ohx
  have r6 := r5.fr fz6 xp_fo xp_fx
  have r7 := r6.fr fz7 xp_fo xp_fx
  have h7 := h6.fr fz7 xp_ho xp_hx
  obtain ⟨_, dT4⟩ := t4.ins
  obtain ⟨_, dT5⟩ := t5.ins
  obtain ⟨_, dT6⟩ := t6.ins
  obtain ⟨_, dT7⟩ := t7.ins
  obtain ⟨_, dF5⟩ := r5.ins
  obtain ⟨_, dF6⟩ := r6.ins
  obtain ⟨_, dF7⟩ := r7.ins
  obtain ⟨_, dH6⟩ := h6.ins
  obtain ⟨_, dH7⟩ := h7.ins
  have nd : ([p, lo, fo, ho, one, oth, otx, ohx, fx, hx, st] : List Addr).Nodup := by
    simp only [List.nodup_cons, List.mem_cons, List.not_mem_nil, or_false, not_or, List.nodup_nil, not_false_eq_true, and_true]
    exact ⟨⟨plo, (ne_of_none p4 nfo), (ne_of_none p5 nho), (ne_of_none p2 none3), (ne_of_none p3 noth), (ne_of_none p3 notx), (ne_of_none p3 nohx), (ne_of_none p4 nfx), (ne_of_none p5 nhx), (ne_of_none p6 nst)⟩, ⟨(ne_of_none l4 nfo), (ne_of_none l5 nho), (ne_of_none lo2 none3), (ne_of_none l3 noth), (ne_of_none l3 notx), (ne_of_none l3 nohx), (ne_of_none l4 nfx), (ne_of_none l5 nhx), (ne_of_none l6 nst)⟩, ⟨(ne_of_none dF5 nho), (Ne.symm (ne_of_none o4 nfo)), (Ne.symm (ne_of_none dT4 nfo)), (Ne.symm (ne_of_none t4.txt nfo)), (Ne.symm (ne_of_none t4.hel nfo)), r5.ne, (ne_of_none dF5 nhx), (ne_of_none dF6 nst)⟩, ⟨(Ne.symm (ne_of_none o5 nho)), (Ne.symm (ne_of_none dT5 nho)), (Ne.symm (ne_of_none t5.txt nho)), (Ne.symm (ne_of_none t5.hel nho)), (Ne.symm (ne_of_none r5.txt nho)), h6.ne, (ne_of_none dH6 nst)⟩, ⟨(ne_of_none o3 noth), (ne_of_none o3 notx), (ne_of_none o3 nohx), (ne_of_none o4 nfx), (ne_of_none o5 nhx), (ne_of_none o6 nst)⟩, ⟨t4.ne.1, t4.ne.2.1, (ne_of_none dT4 nfx), (ne_of_none dT5 nhx), (ne_of_none dT6 nst)⟩, ⟨t4.ne.2.2, (ne_of_none t4.txt nfx), (ne_of_none t5.txt nhx), (ne_of_none t6.txt nst)⟩, ⟨(ne_of_none t4.hel nfx), (ne_of_none t5.hel nhx), (ne_of_none t6.hel nst)⟩, ⟨(ne_of_none r5.txt nhx), (ne_of_none r6.txt nst)⟩, (ne_of_none h6.txt nst)⟩
  have g7 : Fr [p] H H7 := ((((((f1.trans f2).trans fz3).trans fz4).trans fz5).trans fz6).trans fz7)
  refine q4 ba w' r d b g tl tx ⟨p, ba, lo, one, oth, otx, ohx, fo, fx, ho, hx, st⟩ H7 rfl hba hb rfl g1 g2 rfl htl ht rfl rfl ?_ g7 ?_
  · intro c hc
    simp only [RA.al, List.mem_cons, List.not_mem_nil, or_false] at hc
    rcases hc with rfl | rfl | rfl | rfl | rfl | rfl | rfl | rfl | rfl | rfl | rfl
    · exact .inl rfl
    · exact .inr (free_fr f1 p1 nlo)
    · exact .inr (free_fr (((f1.trans f2).trans fz3).trans fz4) p4 nfo)
    · exact .inr (free_fr ((((f1.trans f2).trans fz3).trans fz4).trans fz5) p5 nho)
    · exact .inr (free_fr (f1.trans f2) p2 none3)
    · exact .inr (free_fr ((f1.trans f2).trans fz3) p3 noth)
    · exact .inr (free_fr ((f1.trans f2).trans fz3) p3 notx)
    · exact .inr (free_fr ((f1.trans f2).trans fz3) p3 nohx)
    · exact .inr (free_fr (((f1.trans f2).trans fz3).trans fz4) p4 nfx)
    · exact .inr (free_fr ((((f1.trans f2).trans fz3).trans fz4).trans fz5) p5 nhx)
    · exact .inr (free_fr (((((f1.trans f2).trans fz3).trans fz4).trans fz5).trans fz6) p6 nst)
  · refine ⟨⟨⟨dx, p7⟩, hba7, l7, ⟨dxo, ?_⟩, t7, ⟨[], r7, .nil⟩, h7, nd⟩, ⟨[], s7, .nil⟩, rfl, fun _ h => by cases h⟩
    rw [List.length_map] at o7
    exact o7
end RP

namespace RP
open PySem PySem.Spec PyProof.Rows L2 L2H
theorem Kn.obj {H : Hp} {a : Addr} (h : Kn H (.ref a)) : ∃ o, H a = some o := by
  unfold Kn tyN at h
  dsimp only at h
  cases e : H a with
  | none => rw [e] at h; cases h
  | some o => exact ⟨o, rfl⟩
theorem Kn.at {H H' : Hp} {a : Addr} (h : Kn H (.ref a)) (s : Same H H') : H' a = H a := by
  obtain ⟨o, e⟩ := h.obj
  rw [e, s _ _ e]
theorem KnI.same {H H' : Hp} {x : V} (h : KnI H x) (s : Same H H') : KnI H' x := by
  refine ⟨h.1.same s, fun a xs e hs y hy => ?_⟩
  subst e
  have ea := h.1.at s
  unfold seqO at hs
  rw [ea] at hs
  exact (h.2 a xs rfl hs y hy).same s
theorem boundsV_same {H H' : Hp} {x : V} (h : Kn H x) (s : Same H H') : boundsV H' x = boundsV H x := by
  cases x with
  | ref a => unfold boundsV; dsimp only; rw [h.at s]
  | _ => rfl
theorem textsV_same {H H' : Hp} {x : V} (h : Kn H x) (s : Same H H') : textsV H' x = textsV H x := by
  cases x with
  | ref a => unfold textsV; dsimp only; rw [h.at s]
  | _ => rfl
theorem stepV_same {H H' : Hp} {x : V} (h : Kn H x) (s : Same H H') : stepV H' x = stepV H x := by
  cases x with
  | ref a => unfold stepV; dsimp only; rw [h.at s]
  | _ => rfl
/-- no text of a list is very long -/
def NoLong (H : Hp) (x : V) : Prop := ∀ a xs z, x = .ref a → H a = some (.lst xs) → .str z ∈ xs → z.length ≤ 100000
theorem NoLong.same {H H' : Hp} {x : V} (h : NoLong H x) (k : Kn H x) (s : Same H H') : NoLong H' x := by
  intro a xs z e h2 hz
  subst e
  rw [k.at s] at h2
  exact h a xs z rfl h2 hz
theorem RunAt.free {K : PySem.W.Frag} {H H1 : Hp} {A : RA} {m : M} {hs : List (Str × Int)} (t : RunAt K H1 A m hs) (f : Fr A.mu' H H1) {c : Addr} (n : H1 c = none) : H c = none := by
  cases e : H c with
  | none => rfl
  | some o =>
    have hc : c ∉ A.mu' := fun hm => t.live c (by revert hm; simp only [RA.mu', RA.al, List.mem_cons, List.not_mem_nil, or_false]; rintro (rfl | rfl | rfl | rfl | rfl | rfl | rfl) <;> simp) n
    rw [f c o hc e] at n
    cases n
theorem mk_Run {K : PySem.W.Frag} {H : Hp} {x y z : V} {Q : VK} {E : XK} (kx : KnI H x) (ky : Kn H y) (kz : KnI H z) (lz : NoLong H z)
    (q1 : boundsV H x = false → ∀ H1, Same H H1 → E (.ref (He.ga K "BadBounds")) none H1) (q2 : boundsV H x = true → amongV y 1 200 = false → ∀ H1, Same H H1 → E (.ref (He.ga K "BadRing")) none H1)
    (q3 : boundsV H x = true → amongV y 1 200 = true → textsV H z = false → ∀ H1, Same H H1 → E (.ref (He.ga K "BadTexts")) none H1)
    (q4 : ∀ ba w r d b g tl tx A H', x = .ref ba → H ba = some (.tup [.int w, .int r, .int d, .int b]) → boundsV H x = true → y = .int g → 1 ≤ g → g ≤ 200 → z = .ref tl → H tl = some (.lst (tx.map V.str)) → textsV H z = true → A.ba = ba → (∀ c ∈ A.al, H c = none) → Same H H' → RunAt K H' A (M.begun w r d b g tx) [] → Q (.ref A.p) H')
    (p dx : Addr) (h1 : H p = none) (h2 : H dx = none) (h3 : ¬ dx = p) :
    sp_Run_init K [.ref p, x, y, z] (upd (upd H dx (.own p)) p (.ins (He.ga K "Run") dx [])) (fun v H2 => v = .non ∧ Q (.ref p) H2) E := by
  have s1 : Same H (upd (upd H dx (.own p)) p (.ins (He.ga K "Run") dx [])) := fun c o e => by
    rw [upd_ne (ne_of_none e h1), upd_ne (ne_of_none e h2)]
    exact e
  have eb := boundsV_same kx.1 s1
  have et := textsV_same kz.1 s1
  refine ⟨p, dx, x, y, z, rfl, upd_same, kx.same s1, ky.same s1, kz.same s1, lz.same kz.1 s1, fun hb => q1 (eb.symm.trans hb) _ s1, fun hb hr => q2 (eb.symm.trans hb) hr _ s1, fun hb hr ht => q3 (eb.symm.trans hb) hr (et.symm.trans ht) _ s1, ?_⟩
  intro ba w r d b g tl tx A H' ex hba hb ey g1 g2 ez htl ht ep eba hfr f7 run
  subst ex ey ez ep
  have fresh : ∀ c, upd (upd H dx (.own A.p)) A.p (.ins (He.ga K "Run") dx []) c = none → H c = none := fun c n => by
    have e1 : c ≠ A.p := fun e => by rw [e, upd_same] at n; cases n
    rw [upd_ne e1] at n
    have e2 : c ≠ dx := fun e => by rw [e, upd_same] at n; cases n
    rw [upd_ne e2] at n
    exact n
  refine ⟨rfl, q4 ba w r d b g tl tx A H' rfl ?_ (eb.symm.trans hb) rfl g1 g2 rfl ?_ (et.symm.trans ht) eba (fun c hc => ?_) (fun c o e => ?_) run⟩
  · rw [← kx.1.at s1]
    exact hba
  · rw [← kz.1.at s1]
    exact htl
  · rcases hfr c hc with rfl | n
    · exact h1
    · exact fresh c n
  · have e1 : c ≠ A.p := ne_of_none e h1
    exact f7 c o (by simpa using e1) (s1 _ _ e)
theorem textsV_ok {H : Hp} {l : Addr} {tx : List Str} (h : H l = some (.lst (tx.map V.str))) (h1 : tx.length ≤ 400) (h2 : ∀ x ∈ tx, TxtOk 40 x) : textsV H (.ref l) = true := by
  unfold textsV
  dsimp only
  rw [h]
  dsimp only
  rw [List.length_map, decide_eq_true h1, List.all_eq_true.mpr]
  · rfl
  · intro v hv
    obtain ⟨u, hu, rfl⟩ := List.mem_map.mp hv
    exact decide_eq_true (h2 _ hu).2
theorem texts_KnI {H : Hp} {l : Addr} {tx : List Str} (h : H l = some (.lst (tx.map V.str))) : KnI H (.ref l) := by
  refine ⟨by unfold Kn; rw [tyN_lst h]; rfl, fun a' xs e hs y hy => ?_⟩
  cases e
  rw [seqO_lst h] at hs
  cases hs
  obtain ⟨u, _, rfl⟩ := List.mem_map.mp hy
  rfl
theorem texts_NoLong {H : Hp} {l : Addr} {tx : List Str} (h : H l = some (.lst (tx.map V.str))) (h2 : ∀ x ∈ tx, TxtOk 40 x) : NoLong H (.ref l) := by
  intro a' xs z e hs hz
  cases e
  rw [h] at hs
  cases hs
  obtain ⟨u, hu, e⟩ := List.mem_map.mp hz
  cases e
  exact Nat.le_trans (h2 _ hu).2 (by decide)
theorem map_str_inj {xs ys : List Str} (h : xs.map V.str = ys.map V.str) : xs = ys := by
  refine List.map_inj_right (f := V.str) (fun _ _ e => V.str.inj e) |>.mp h
end RP

namespace RP
open PySem PySem.Spec PyProof.Rows L2 L2H
theorem rgV_there (len : Nat) (b : Int) : rgV (mx2 0 ((len : Int) - 1 - b)) len = (thereN len b).map fun i => V.int (i : Nat) := by
  have h0 : 0 ≤ mx2 0 ((len : Int) - 1 - b) := ((mx2_le (c := mx2 0 ((len : Int) - 1 - b))).mp (Int.le_refl _)).1
  unfold rgV thereN
  rw [List.map_map, show ((len : Int) - mx2 0 ((len : Int) - 1 - b)).toNat = len - (mx2 0 ((len : Int) - 1 - b)).toNat by omega]
  refine List.map_congr_left fun i _ => ?_
  show V.int (mx2 0 ((len : Int) - 1 - b) + (i : Nat)) = V.int (((mx2 0 ((len : Int) - 1 - b)).toNat + i : Nat) : Int)
  congr 1
  omega
theorem thereN_mem {len : Nat} {b : Int} {i : Nat} (h : i ∈ thereN len b) : mx2 0 ((len : Int) - 1 - b) ≤ (i : Int) ∧ i < len := by
  have h0 : 0 ≤ mx2 0 ((len : Int) - 1 - b) := ((mx2_le (c := mx2 0 ((len : Int) - 1 - b))).mp (Int.le_refl _)).1
  unfold thereN at h
  obtain ⟨j, hj, rfl⟩ := List.mem_map.mp h
  rw [List.mem_range] at hj
  omega
theorem thereN_len (len : Nat) (b : Int) : (thereN len b).length ≤ len := by
  unfold thereN
  rw [List.length_map, List.length_range]
  omega
/-- a row of the letters, of the answers -/
def LRow (m : M) (H : Hp) (i : Nat) (v : V) : Prop := ∃ a, v = .ref a ∧ H a = some (.tup [.int (i : Nat), .int (m.ls.getD i (0, "")).1, .str (m.ls.getD i (0, "")).2])
def ARow (m : M) (H : Hp) (i : Nat) (v : V) : Prop := ∃ a, v = .ref a ∧ H a = some (.tup [.int (i : Nat), .int (m.an.getD i 0)])
theorem keeps_L {m : M} : Keeps (LRow m) := fun H H' D xs x y hD fr ⟨a, e, h⟩ => ⟨a, e, fr _ _ (by simpa using ne_of_obj h hD (by simp)) h⟩
theorem keeps_A {m : M} : Keeps (ARow m) := fun H H' D xs x y hD fr ⟨a, e, h⟩ => ⟨a, e, fr _ _ (by simpa using ne_of_obj h hD (by simp)) h⟩
abbrev s_Run_letters : Stmt := inClass (top 31) 5
abbrev N_Run_letters : List Str := ["self", "number"]
theorem sc_Run_letters : FnScope N_Run_letters ["self"] (defScope s_Run_letters) := ⟨rfl, rfl, rfl, by decide +kernel, rfl, by decide +kernel, by decide +kernel⟩
def sp_Run_letters (K : PySem.W.Frag) : Sp := fun vs H Q E => ∃ (A : RA) (m : M) (N : Nat), vs = [.ref A.p] ∧ RunC K H A m ∧ m.Ok N ∧ N < 90000 ∧ ∀ l rs H', H l = none → Same H H' → H' l = some (.lst rs) → All2 (LRow m H') (thereN m.ls.length m.d) rs → Q (.ref l) H'
theorem ok_Run_letters {P : Program} {w : World} {K : PySem.W.Frag} {mg : Str → Option Value} {base : Heap} (F : FnP K ("Run", some "letters") "letters" "Run.letters" s_Run_letters) (hc : Cls K (He.ga K "Run")) (hm : Meth K (He.ga K "Run") "letters" (He.ma K (He.ga K "Run") "letters")) (bl : Blt mg) (hRun : RunF K) (hPost : PostF K) (m_Post_taken : MCal P w K mg base 2 (He.ga K "Post") "taken" (sp_Post_taken K)) (m_Post_there : MCal P w K mg base 1 (He.ga K "Post") "there" (sp_Post_there K)) : MCal P w K mg base 3 (He.ga K "Run") "letters" (sp_Run_letters K) := by
  refine fn_mcal F hc hm sc_Run_letters (fun vs H Q E => by walk_at "len") (fun _ _ _ _ _ _ us hl => match us, hl with | [_], _ => rfl) (fun f cdv A outer s H vs Q E hr h => ?_)
  have hu := hu_of hr
  obtain ⟨A, m, N, rfl, t, ok, hN, q⟩ := h
  obtain ⟨dx, hp⟩ := t.ins
  obtain ⟨ts, pf, al⟩ := t.forth
  obtain ⟨dxf, hf⟩ := pf.ins
  have hal := al.length
  refine ⟨_, (pss_one (ps_ret (pe_lc (own := [("number", 1)]) rfl sc_Run_letters.nd (pi_list (pe_mth0 (pe_fld (pv 0) rfl) m_Post_there (hr.mono (by decide)) (L2N.takes_of rfl rfl rfl rfl))) (blkOk_by (own := [("number", 1)]) (N := N_Run_letters) (sc := defScope s_Run_letters) (by decide +kernel)) (fun _ _ _ _ _ =>  by exact (pg_name (i := 1) sc_Run_letters.nd rfl (Or.inl rfl))) (fun _ _ _ _ _ =>  by exact pts_nil) (fun _ _ _ _ _ =>  by exact (pe_op op_catTC (pe_tup (pa_cons (pv 1) pa_nil)) (pe_mth (pe_fldK (K := K) rfl (pv 0) rfl) m_Post_taken (hr.mono (by decide)) tkB (pa_cons (pv 1) pa_nil))))))), ?_⟩
  walk_at "st0"
  simp only [RDa]
  refine lcut (fun a H1 => Same H H1 ∧ H1 a = some (.lst ((thereN m.ls.length m.d).map fun i => V.int (i : Nat)))) (fun H x y => ∃ k : Nat, x = .int k ∧ LRow m H k y) ((thereN m.ls.length m.d).map fun i => V.int (i : Nat)) ?_ ?_ ?_ ?_ ?_ ?_
  · rintro H1 H2 D xs x y hD fr ⟨k, e, pa⟩
    exact ⟨k, e, keeps_L H1 H2 D xs k y hD fr pa⟩
  · intro Z hZ
    simp only [RDa, RDb, RDv, RDk, RDx, RDe, RDd, RDp, RDq, List.getElem?_cons_zero, List.getElem?_cons_succ, List.set_cons_zero, List.set_cons_succ, List.cons.injEq, List.cons_ne_nil, reduceCtorEq, exists_eq_left', exists_eq_left, exists_and_left, and_assoc, exists_const, true_and, and_true, if_true, if_false, false_and, and_false, exists_false, false_or, or_false, true_implies, false_implies, implies_true, forall_eq, forall_eq', Bool.false_eq_true, if_neg, decide_eq_true_eq, Bool.not_eq_true', decide_eq_false_iff_not, Bool.not_true, Bool.not_false, List.length_cons, List.length_nil, sizeLine_eq, Nat.reduceAdd, Nat.reduceLeDiff, Nat.reduceLT, Int.reduceLT, Int.reduceLE, Int.emod_nonneg, ne_eq, Int.reduceEq, not_false_eq_true, not_true_eq_false, hRun, RunL, hp, hPost, PostL, hf]
    refine ⟨A.fo, A.fx, m.d, ts, rfl, pf, ok.d1, by have := ok.d2; omega, by have := ok.ls; omega, fun l H1 nl s1 hl => hZ _ _ ⟨s1, ?_⟩⟩
    rw [hl, ← hal, rgV_there]
  · rintro a H1 ⟨_, h⟩
    exact SqL.of h
  · rw [List.length_map]
    have := thereN_len m.ls.length m.d
    have := ok.ls
    exact Nat.le_trans (show (thereN m.ls.length m.d).length ≤ 90000 by omega) (by decide)
  · rintro a H1 H2 i x Z ⟨s1, h1⟩ hx s2 hZ
    have sh := s1.trans s2
    obtain ⟨k, mk, rfl⟩ := List.mem_map.mp (List.mem_of_getElem? hx)
    obtain ⟨k1, k2⟩ := thereN_mem mk
    have hp2 : H2 A.p = _ := sh _ _ hp
    have hf2 : H2 A.fo = _ := sh _ _ hf
    simp only [RDa, RDb, RDv, RDk, RDx, RDe, RDd, RDp, RDq, List.getElem?_cons_zero, List.getElem?_cons_succ, List.set_cons_zero, List.set_cons_succ, List.cons.injEq, List.cons_ne_nil, reduceCtorEq, exists_eq_left', exists_eq_left, exists_and_left, and_assoc, exists_const, true_and, and_true, if_true, if_false, false_and, and_false, exists_false, false_or, or_false, true_implies, false_implies, implies_true, forall_eq, forall_eq', Bool.false_eq_true, if_neg, decide_eq_true_eq, Bool.not_eq_true', decide_eq_false_iff_not, Bool.not_true, Bool.not_false, List.length_cons, List.length_nil, sizeLine_eq, Nat.reduceAdd, Nat.reduceLeDiff, Nat.reduceLT, Int.reduceLT, Int.reduceLE, Int.emod_nonneg, ne_eq, Int.reduceEq, not_false_eq_true, not_true_eq_false, hRun, RunL, hp2, hPost, PostL, hf2, RDc]
    intro T n_T
    generalize e_H4 : upd H2 T (.tup [.int (k : Int)]) = H4
    have a_H4 : H4 T = some (.tup [.int (k : Int)]) := by rw [← e_H4]; exact upd_same
    have s_H4 : Same H2 H4 := by rw [← e_H4]; exact same_new n_T
    have sh4 := sh.trans s_H4
    have hp4 : H4 A.p = _ := sh4 _ _ hp
    have hf4 : H4 A.fo = _ := sh4 _ _ hf
    simp only [RDa, RDb, RDv, RDk, RDx, RDe, RDd, RDp, RDq, List.getElem?_cons_zero, List.getElem?_cons_succ, List.set_cons_zero, List.set_cons_succ, List.cons.injEq, List.cons_ne_nil, reduceCtorEq, exists_eq_left', exists_eq_left, exists_and_left, and_assoc, exists_const, true_and, and_true, if_true, if_false, false_and, and_false, exists_false, false_or, or_false, true_implies, false_implies, implies_true, forall_eq, forall_eq', Bool.false_eq_true, if_neg, decide_eq_true_eq, Bool.not_eq_true', decide_eq_false_iff_not, Bool.not_true, Bool.not_false, List.length_cons, List.length_nil, sizeLine_eq, Nat.reduceAdd, Nat.reduceLeDiff, Nat.reduceLT, Int.reduceLT, Int.reduceLE, Int.emod_nonneg, ne_eq, Int.reduceEq, not_false_eq_true, not_true_eq_false, hRun, RunL, hp4, hPost, PostL, hf4]
    refine ⟨A.fo, A.fx, m.d, ts, .int (k : Nat), rfl, pf.same sh4, ok.d1, by have := ok.d2; omega, by have := ok.ls; omega, rfl, fun j v H5 e j1 j2 j3 s5 => ?_, fun ha => ?_⟩
    · cases e
      have hv : ts[k]? = some v := by
        obtain ⟨j, z1, z2, z3, z4, z5⟩ := atI_get j3
        rw [seqIndex_of (by omega) z5, Int.toNat_natCast] at z1
        rw [Option.some.inj z1]
        exact z2
      obtain ⟨qq, hq, c, rfl, hc⟩ := al.get hv
      refine ⟨_, rfl, _, s5 _ _ a_H4, _, s5 _ _ (sh4 _ _ hc), by simp, by simp, by simp, fun U nU => hZ _ _ ((s_H4.trans s5).trans (same_new nU)) ⟨k, rfl, U, rfl, ?_⟩⟩
      rw [upd_same, List.getD_eq_getElem?_getD, hq]
      rfl
    · simp only [amongV, Bool.and_eq_false_iff, decide_eq_false_iff_not] at ha
      rw [hal] at k1 k2
      omega
  · rintro a H1 H3 D rs ⟨s1, h1⟩ nD s3 hD ar
    refine q D rs H3 (s1.free nD) (s1.trans s3) hD ?_
    refine ar.map_l.mono fun x y ⟨k, e, pa⟩ => ?_
    have : x = k := by
      have e2 := V.int.inj e
      omega
    rw [this]
    exact pa
abbrev s_Run_answers : Stmt := inClass (top 31) 6
abbrev N_Run_answers : List Str := ["self", "number"]
theorem sc_Run_answers : FnScope N_Run_answers ["self"] (defScope s_Run_answers) := ⟨rfl, rfl, rfl, by decide +kernel, rfl, by decide +kernel, by decide +kernel⟩
def sp_Run_answers (K : PySem.W.Frag) : Sp := fun vs H Q E => ∃ (A : RA) (m : M) (N : Nat), vs = [.ref A.p] ∧ RunC K H A m ∧ m.Ok N ∧ N < 90000 ∧ ∀ l rs H', H l = none → Same H H' → H' l = some (.lst rs) → All2 (ARow m H') (thereN m.an.length m.b) rs → Q (.ref l) H'
theorem ok_Run_answers {P : Program} {w : World} {K : PySem.W.Frag} {mg : Str → Option Value} {base : Heap} (F : FnP K ("Run", some "answers") "answers" "Run.answers" s_Run_answers) (hc : Cls K (He.ga K "Run")) (hm : Meth K (He.ga K "Run") "answers" (He.ma K (He.ga K "Run") "answers")) (bl : Blt mg) (hRun : RunF K) (hPost : PostF K) (m_Post_taken : MCal P w K mg base 2 (He.ga K "Post") "taken" (sp_Post_taken K)) (m_Post_there : MCal P w K mg base 1 (He.ga K "Post") "there" (sp_Post_there K)) : MCal P w K mg base 3 (He.ga K "Run") "answers" (sp_Run_answers K) := by
  refine fn_mcal F hc hm sc_Run_answers (fun vs H Q E => by walk_at "len") (fun _ _ _ _ _ _ us hl => match us, hl with | [_], _ => rfl) (fun f cdv A outer s H vs Q E hr h => ?_)
  have hu := hu_of hr
  obtain ⟨A, m, N, rfl, t, ok, hN, q⟩ := h
  obtain ⟨dx, hp⟩ := t.ins
  obtain ⟨dxf, hf⟩ := t.home.ins
  refine ⟨_, (pss_one (ps_ret (pe_lc (own := [("number", 1)]) rfl sc_Run_answers.nd (pi_list (pe_mth0 (pe_fld (pv 0) rfl) m_Post_there (hr.mono (by decide)) (L2N.takes_of rfl rfl rfl rfl))) (blkOk_by (own := [("number", 1)]) (N := N_Run_answers) (sc := defScope s_Run_answers) (by decide +kernel)) (fun _ _ _ _ _ =>  by exact (pg_name (i := 1) sc_Run_answers.nd rfl (Or.inl rfl))) (fun _ _ _ _ _ =>  by exact pts_nil) (fun _ _ _ _ _ =>  by exact (pe_tup (pa_cons (pv 1) (pa_cons (pe_mth (pe_fldK (K := K) rfl (pv 0) rfl) m_Post_taken (hr.mono (by decide)) tkB (pa_cons (pv 1) pa_nil)) pa_nil))))))), ?_⟩
  walk_at "st0"
  simp only [RDa]
  refine lcut (fun a H1 => Same H H1 ∧ H1 a = some (.lst ((thereN m.an.length m.b).map fun i => V.int (i : Nat)))) (fun H x y => ∃ k : Nat, x = .int k ∧ ARow m H k y) ((thereN m.an.length m.b).map fun i => V.int (i : Nat)) ?_ ?_ ?_ ?_ ?_ ?_
  · rintro H1 H2 D xs x y hD fr ⟨k, e, pa⟩
    exact ⟨k, e, keeps_A H1 H2 D xs k y hD fr pa⟩
  · intro Z hZ
    simp only [RDa, RDb, RDv, RDk, RDx, RDe, RDd, RDp, RDq, List.getElem?_cons_zero, List.getElem?_cons_succ, List.set_cons_zero, List.set_cons_succ, List.cons.injEq, List.cons_ne_nil, reduceCtorEq, exists_eq_left', exists_eq_left, exists_and_left, and_assoc, exists_const, true_and, and_true, if_true, if_false, false_and, and_false, exists_false, false_or, or_false, true_implies, false_implies, implies_true, forall_eq, forall_eq', Bool.false_eq_true, if_neg, decide_eq_true_eq, Bool.not_eq_true', decide_eq_false_iff_not, Bool.not_true, Bool.not_false, List.length_cons, List.length_nil, sizeLine_eq, Nat.reduceAdd, Nat.reduceLeDiff, Nat.reduceLT, Int.reduceLT, Int.reduceLE, Int.emod_nonneg, ne_eq, Int.reduceEq, not_false_eq_true, not_true_eq_false, hRun, RunL, hp, hPost, PostL, hf]
    refine ⟨A.ho, A.hx, m.b, _, rfl, t.home, ok.b1, by have := ok.b2; omega, by rw [List.length_map]; have := ok.an; omega, fun l H1 nl s1 hl => hZ _ _ ⟨s1, ?_⟩⟩
    rw [hl, List.length_map, rgV_there]
  · rintro a H1 ⟨_, h⟩
    exact SqL.of h
  · rw [List.length_map]
    have := thereN_len m.an.length m.b
    have := ok.an
    exact Nat.le_trans (show (thereN m.an.length m.b).length ≤ 90000 by omega) (by decide)
  · rintro a H1 H2 i x Z ⟨s1, h1⟩ hx s2 hZ
    have sh := s1.trans s2
    obtain ⟨k, mk, rfl⟩ := List.mem_map.mp (List.mem_of_getElem? hx)
    obtain ⟨k1, k2⟩ := thereN_mem mk
    have hp2 : H2 A.p = _ := sh _ _ hp
    have hf2 : H2 A.ho = _ := sh _ _ hf
    simp only [RDa, RDb, RDv, RDk, RDx, RDe, RDd, RDp, RDq, List.getElem?_cons_zero, List.getElem?_cons_succ, List.set_cons_zero, List.set_cons_succ, List.cons.injEq, List.cons_ne_nil, reduceCtorEq, exists_eq_left', exists_eq_left, exists_and_left, and_assoc, exists_const, true_and, and_true, if_true, if_false, false_and, and_false, exists_false, false_or, or_false, true_implies, false_implies, implies_true, forall_eq, forall_eq', Bool.false_eq_true, if_neg, decide_eq_true_eq, Bool.not_eq_true', decide_eq_false_iff_not, Bool.not_true, Bool.not_false, List.length_cons, List.length_nil, sizeLine_eq, Nat.reduceAdd, Nat.reduceLeDiff, Nat.reduceLT, Int.reduceLT, Int.reduceLE, Int.emod_nonneg, ne_eq, Int.reduceEq, not_false_eq_true, not_true_eq_false, hRun, RunL, hp2, hPost, PostL, hf2, RDc]
    refine ⟨A.ho, A.hx, m.b, m.an.map V.int, .int (k : Nat), rfl, t.home.same sh, ok.b1, by have := ok.b2; omega, by rw [List.length_map]; have := ok.an; omega, rfl, fun j v H3 e j1 j2 j3 s3 => ?_, fun ha => ?_⟩
    · cases e
      rw [atInt (by omega) (by omega)] at j3
      cases j3
      intro T nT
      exact hZ _ _ (s3.trans (same_new nT)) ⟨k, rfl, T, rfl, by rw [upd_same, Int.toNat_natCast]⟩
    · rw [List.length_map] at ha
      simp only [amongV, Bool.and_eq_false_iff, decide_eq_false_iff_not] at ha
      omega
  · rintro a H1 H3 D rs ⟨s1, h1⟩ nD s3 hD ar
    refine q D rs H3 (s1.free nD) (s1.trans s3) hD ?_
    refine ar.map_l.mono fun x y ⟨k, e, pa⟩ => ?_
    have : x = k := by
      have e2 := V.int.inj e
      omega
    rw [this]
    exact pa
end RP

namespace RP
open PySem PySem.Spec PyProof.Rows L2 L2H
theorem eqvAll_strs : ∀ (xs ys : List Str), PyData.eqvAll (xs.map PyData.str) (ys.map PyData.str) = decide (xs = ys)
  | [], [] => by simp [PyData.eqvAll]
  | [], _ :: _ => by simp [PyData.eqvAll]
  | _ :: _, [] => by simp [PyData.eqvAll]
  | x :: xs, y :: ys => by
    rw [List.map_cons, List.map_cons, PyData.eqvAll, eqvAll_strs xs ys]
    have e : PyData.eqv (.str x) (.str y) = decide (x = y) := by
      rw [PyData.eqv]
      rw [Bool.eq_iff_iff, beq_iff_eq, decide_eq_true_eq]
    rw [e, Bool.eq_iff_iff]
    simp
theorem shaped_strs {xs : List Str} (h : ∀ x ∈ xs, PyData.strOk x = true) : SeqAt.shaped (.list (xs.map PyData.str)) = true ∧ PyData.canLay0 (.list (xs.map PyData.str)) = true := by
  have sh : Shp 2 (.list (xs.map PyData.str)) := shp_list fun d hd => by
    obtain ⟨x, hx, rfl⟩ := List.mem_map.mp hd
    exact (shp_s 1).2.2.2 x (h x hx)
  exact ⟨(sh.mono (show 2 ≤ 64 by decide)).ok, sh.1⟩
theorem cut_take (xs : List V) (n : Nat) : cutV xs none (some (n : Int)) = xs.take n := by
  unfold cutV
  rw [HT.sIx_nat]
  show (xs.drop 0).take (min n xs.length - 0) = _
  rw [List.drop_zero, Nat.sub_zero, List.take_eq_take_iff]
  omega
abbrev s_Run_wrong : Stmt := inClass (top 31) 7
abbrev N_Run_wrong : List Str := ["self", "out"]
theorem sc_Run_wrong : FnScope N_Run_wrong ["self"] (defScope s_Run_wrong) := ⟨rfl, rfl, rfl, by decide +kernel, rfl, by decide +kernel, by decide +kernel⟩
def sp_Run_wrong (K : PySem.W.Frag) : Sp := fun vs H Q E => ∃ (A : RA) (m : M) (N : Nat), vs = [.ref A.p] ∧ RunC K H A m ∧ m.Ok N ∧ N < 90000 ∧ ∀ H', Same H H' → Q (.bl m.isWrong) H'
theorem ok_Run_wrong {P : Program} {w : World} {K : PySem.W.Frag} {mg : Str → Option Value} {base : Heap} (F : FnP K ("Run", some "wrong") "wrong" "Run.wrong" s_Run_wrong) (hc : Cls K (He.ga K "Run")) (hm : Meth K (He.ga K "Run") "wrong" (He.ma K (He.ga K "Run") "wrong")) (bl : Blt mg) (hRun : RunF K) (m_Run_counts : MCal P w K mg base 2 (He.ga K "Run") "counts" (sp_Run_counts K)) (m_Run_out : MCal P w K mg base 2 (He.ga K "Run") "out" (sp_Run_out K)) : MCal P w K mg base 3 (He.ga K "Run") "wrong" (sp_Run_wrong K) := by
  refine fn_mcal F hc hm sc_Run_wrong (fun vs H Q E => by walk_at "len") (fun _ _ _ _ _ _ us hl => match us, hl with | [_], _ => rfl) (fun f cdv A outer s H vs Q E hr h => ?_)
  have hu := hu_of hr
  obtain ⟨A, m, N, rfl, t, ok, hN, q⟩ := h
  obtain ⟨dx, hp⟩ := t.ins
  refine ⟨_, (pss_cons (ps_set (i := 1) sc_Run_wrong.nd rfl (Or.inl rfl) (pe_mth0 (pv 0) m_Run_out (hr.mono (by decide)) (L2N.takes_of rfl rfl rfl rfl)))
  (pss_one (ps_ret (pe_or (pe_cmpR (op_neC hr.units) (pv 1) (pe_slice sl_list (pe_fld (pv 0) rfl) po_none (po_some (pe_callB call_lenC (by rfl) (bl.len) (by decide +kernel) (pa_cons (pv 1) pa_nil)))) (nomark _)) (pe_one (pe_cmpR op_gt (pe_ix ix_C (pe_mth0 (pv 0) m_Run_counts (hr.mono (by decide)) (L2N.takes_of rfl rfl rfl rfl)) pe_int (fun _ _ => rfl)) (pe_callB call_lenC (by rfl) (bl.len) (by decide +kernel) (pa_cons (pv 1) pa_nil)) (nomark _))))))), ?_⟩
  walk_at "st0"
  refine seq_gen fun N_a h_a => ?_
  simp only [RDa, RDb, RDv, RDk, RDx, RDe, RDd, RDp, RDq, List.getElem?_cons_zero, List.getElem?_cons_succ, List.set_cons_zero, List.set_cons_succ, List.cons.injEq, List.cons_ne_nil, reduceCtorEq, exists_eq_left', exists_eq_left, exists_and_left, and_assoc, exists_const, true_and, and_true, if_true, if_false, false_and, and_false, exists_false, false_or, or_false, true_implies, false_implies, implies_true, forall_eq, forall_eq', Bool.false_eq_true, if_neg, decide_eq_true_eq, Bool.not_eq_true', decide_eq_false_iff_not, Bool.not_true, Bool.not_false, List.length_cons, List.length_nil, sizeLine_eq, Nat.reduceAdd, Nat.reduceLeDiff, Nat.reduceLT, Int.reduceLT, Int.reduceLE, Int.emod_nonneg, ne_eq, Int.reduceEq, not_false_eq_true, not_true_eq_false, hRun, RunL, hp]
  refine ⟨A, m, rfl, t, fun l H1 nl s1 hl => h_a _ _ ?_⟩
  clear h_a
  have hp1 : H1 A.p = _ := s1 _ _ hp
  have lo1 : H1 A.lo = _ := s1 _ _ t.lore
  simp only [RDa, RDb, RDv, RDk, RDx, RDe, RDd, RDp, RDq, List.getElem?_cons_zero, List.getElem?_cons_succ, List.set_cons_zero, List.set_cons_succ, List.cons.injEq, List.cons_ne_nil, reduceCtorEq, exists_eq_left', exists_eq_left, exists_and_left, and_assoc, exists_const, true_and, and_true, if_true, if_false, false_and, and_false, exists_false, false_or, or_false, true_implies, false_implies, implies_true, forall_eq, forall_eq', Bool.false_eq_true, if_neg, decide_eq_true_eq, Bool.not_eq_true', decide_eq_false_iff_not, Bool.not_true, Bool.not_false, List.length_cons, List.length_nil, sizeLine_eq, Nat.reduceAdd, Nat.reduceLeDiff, Nat.reduceLT, Int.reduceLT, Int.reduceLE, Int.emod_nonneg, ne_eq, Int.reduceEq, not_false_eq_true, not_true_eq_false, hRun, RunL, hp1, lo1, SqL.of lo1, lenO_lst hl]
  refine ⟨_, SqL.of lo1, fun c nc => ?_⟩
  rw [List.length_map, cut_take, ← List.map_take]
  have s2 : Same H1 (upd H1 c (.lst ((m.tx.take m.out.length).map V.str))) := same_new nc
  have c2 : (upd H1 c (.lst ((m.tx.take m.out.length).map V.str))) c = _ := upd_same
  generalize upd H1 c (.lst ((m.tx.take m.out.length).map V.str)) = H2 at s2 c2
  have hl2 : H2 l = _ := s2 _ _ hl
  have hp2 : H2 A.p = _ := s2 _ _ hp1
  have sh1 := (shaped_strs (xs := m.out) fun x hx => (ok.so x hx).1).1
  have sh2 := (shaped_strs (xs := m.tx.take m.out.length) fun x hx => (ok.sx x (List.mem_of_mem_take hx)).1).1
  have ev : PyData.eqv (.list (m.out.map PyData.str)) (.list ((m.tx.take m.out.length).map PyData.str)) = decide (m.out = m.tx.take m.out.length) := by
    rw [PyData.eqv]
    exact eqvAll_strs _ _
  have s12 := s1.trans s2
  simp only [RDa, RDb, RDv, RDk, RDx, RDe, RDd, RDp, RDq, List.getElem?_cons_zero, List.getElem?_cons_succ, List.set_cons_zero, List.set_cons_succ, List.cons.injEq, List.cons_ne_nil, reduceCtorEq, exists_eq_left', exists_eq_left, exists_and_left, and_assoc, exists_const, true_and, and_true, if_true, if_false, false_and, and_false, exists_false, false_or, or_false, true_implies, false_implies, implies_true, forall_eq, forall_eq', Bool.false_eq_true, if_neg, decide_eq_true_eq, Bool.not_eq_true', decide_eq_false_iff_not, Bool.not_true, Bool.not_false, List.length_cons, List.length_nil, sizeLine_eq, Nat.reduceAdd, Nat.reduceLeDiff, Nat.reduceLT, Int.reduceLT, Int.reduceLE, Int.emod_nonneg, ne_eq, Int.reduceEq, not_false_eq_true, not_true_eq_false, dat_lst hl2, dat_lst c2, dat_strs, Option.map_some, sh1, sh2, ev]
  unfold M.isWrong at q
  by_cases e : m.out = m.tx.take m.out.length
  · rw [if_neg (fun h => h e)]
    rw [decide_eq_true e, Bool.not_true, Bool.false_or] at q
    refine ⟨_, _, hp2, rfl, A, m, rfl, t.same s12, fun k H3 nk s3 hk => ?_⟩
    simp only [RDa, RDb, RDv, RDk, RDx, RDe, RDd, RDp, RDq, List.getElem?_cons_zero, List.getElem?_cons_succ, List.set_cons_zero, List.set_cons_succ, List.cons.injEq, List.cons_ne_nil, reduceCtorEq, exists_eq_left', exists_eq_left, exists_and_left, and_assoc, exists_const, true_and, and_true, if_true, if_false, false_and, and_false, exists_false, false_or, or_false, true_implies, false_implies, implies_true, forall_eq, forall_eq', Bool.false_eq_true, if_neg, decide_eq_true_eq, Bool.not_eq_true', decide_eq_false_iff_not, Bool.not_true, Bool.not_false, List.length_cons, List.length_nil, sizeLine_eq, Nat.reduceAdd, Nat.reduceLeDiff, Nat.reduceLT, Int.reduceLT, Int.reduceLE, Int.emod_nonneg, ne_eq, Int.reduceEq, not_false_eq_true, not_true_eq_false, seqO_tup hk, lenO_lst (s3 _ _ hl2)]
    rw [List.length_map]
    exact q _ (s12.trans s3)
  · rw [if_pos e]
    rw [decide_eq_false e, Bool.not_false, Bool.true_or] at q
    exact q _ s12
end RP

namespace RP
open PySem PySem.Spec PyProof.Rows L2 L2H
theorem step_tup {H : Hp} {p : Addr} {z : Str} {n : Int} (h : H p = some (.tup [.str z, .int n])) (hz : isWord z) (h0 : 0 ≤ n) (h1 : n ≤ 999999) : KnI H (.ref p) ∧ stepV H (.ref p) = true := by
  refine ⟨⟨by unfold Kn; rw [tyN_tup h]; rfl, fun a' xs e hx y hy => ?_⟩, ?_⟩
  · cases e
    rw [seqO_tup h] at hx
    cases hx
    simp only [List.mem_cons, List.not_mem_nil, or_false] at hy
    rcases hy with rfl | rfl <;> rfl
  · unfold stepV
    dsimp only
    rw [h]
    dsimp only
    rw [Bool.and_eq_true]
    refine ⟨?_, ?_⟩
    · rcases hz with rfl | rfl | rfl <;> decide +kernel
    · simp only [amongV, Bool.and_eq_true, decide_eq_true_eq]
      omega
/-- a step that is done -/
theorem do_it {K : PySem.W.Frag} {H : Hp} {A : RA} {m m' : M} {hs : List (Str × Int)} {N : Nat} {p : Addr} {z : Str} {n t : Int} {Q : VK} {E : XK} (run : RunAt K H A m hs) (ok : m.Ok N) (hN : N < 90000) (hl : hs.length < 90000) (h : H p = some (.tup [.str z, .int n])) (hz : isWord z) (h0 : 0 ≤ n) (h1 : n ≤ 999999) (es : m.step z n = some (t, m'))
    (q : ∀ H1, Fr A.mu' H H1 → RunAt K H1 A m' (hs ++ [(z, n)]) → Q (.int t) H1) : sp_Run_do K [.ref A.p, .ref p] H Q E := by
  obtain ⟨k1, k2⟩ := step_tup h hz h0 h1
  refine ⟨A, m, hs, N, .ref p, rfl, run, ok, hN, hl, k1, fun a z2 n2 t2 m2 H1 e ha _ es2 f r => ?_, fun a z2 n2 H1 e ha _ es2 => ?_, fun hv => by rw [k2] at hv; cases hv⟩
  · cases e
    rw [h] at ha
    cases ha
    rw [es] at es2
    cases es2
    exact q H1 f r
  · cases e
    rw [h] at ha
    cases ha
    rw [es] at es2
    cases es2
end RP

namespace RP
open PySem PySem.Spec PyProof.Rows L2 L2H
theorem M.run_append : ∀ (xs ys : List (Str × Int)) (m : M), m.run (xs ++ ys) = (m.run xs).bind fun c => c.run ys
  | [], ys, m => rfl
  | q :: t, ys, m => by
    show (m.step q.1 q.2).bind (fun c => c.2.run (t ++ ys)) = ((m.step q.1 q.2).bind fun c => c.2.run t).bind fun c => c.run ys
    cases m.step q.1 q.2 with
    | none => rfl
    | some c => exact M.run_append t ys c.2
theorem M.run_at {hs : List (Str × Int)} {m m' mi : M} {i : Nat} {q : Str × Int} (h : m.run hs = some m') (hi : m.run (hs.take i) = some mi) (hq : hs[i]? = some q) : ∃ t m2, mi.step q.1 q.2 = some (t, m2) := by
  have e : hs = hs.take i ++ (q :: hs.drop (i + 1)) := by
    obtain ⟨hl, rfl⟩ := List.getElem?_eq_some_iff.mp hq
    rw [List.getElem_cons_drop, List.take_append_drop]
  rw [e, M.run_append, hi] at h
  have h2 : mi.run (q :: hs.drop (i + 1)) = some m' := h
  unfold M.run at h2
  cases es : mi.step q.1 q.2 with
  | none => rw [es] at h2; cases h2
  | some c => exact ⟨c.1, c.2, rfl⟩
theorem M.Ok.begun {m : M} {N : Nat} (ok : m.Ok N) : (M.begun m.w m.r m.d m.b m.ring m.tx).Ok 0 where
  w1 := ok.w1
  w2 := ok.w2
  r1 := ok.r1
  r2 := ok.r2
  d1 := ok.d1
  d2 := ok.d2
  b1 := ok.b1
  b2 := ok.b2
  g1 := ok.g1
  g2 := ok.g2
  tx := ok.tx
  ls := Nat.zero_le _
  an := Nat.zero_le _
  ok := Nat.zero_le _
  b0 := Int.le_refl _
  t0 := Int.natCast_nonneg _
  sx := ok.sx
  so := fun _ m => by cases m
  sk := fun _ m => by cases m
  sl := fun _ m => by cases m
abbrev s_Run_copied : Stmt := inClass (top 31) 8
abbrev N_Run_copied : List Str := ["self", "found", "step"]
theorem sc_Run_copied : FnScope N_Run_copied ["self"] (defScope s_Run_copied) := ⟨rfl, rfl, rfl, by decide +kernel, rfl, by decide +kernel, by decide +kernel⟩
def sp_Run_copied (K : PySem.W.Frag) : Sp := fun vs H Q E => ∃ (A : RA) (m : M) (hs : List (Str × Int)) (N : Nat), vs = [.ref A.p] ∧ RunAt K H A m hs ∧ m.Ok N ∧ m.r ≤ m.w ∧ hs.length < 80000 ∧
  ∀ A' H', Same H H' → (∀ c ∈ A'.al, H c = none) → RunAt K H' A' m hs → Q (.ref A'.p) H'
theorem ok_Run_copied {P : Program} {w : World} {K : PySem.W.Frag} {mg : Str → Option Value} {base : Heap} (F : FnP K ("Run", some "copied") "copied" "Run.copied" s_Run_copied) (hc : Cls K (He.ga K "Run")) (hm : Meth K (He.ga K "Run") "copied" (He.ma K (He.ga K "Run") "copied")) (bl : Blt mg) (hRun : RunF K) (m_Run_do : MCal P w K mg base 4 (He.ga K "Run") "do" (sp_Run_do K)) (c_Run : KCal P w K mg base 4 "Run" (He.ga K "Run") (sp_Run_init K)) : MCal P w K mg base 6 (He.ga K "Run") "copied" (sp_Run_copied K) := by
  refine fn_mcal F hc hm sc_Run_copied (fun vs H Q E => by walk_at "len") (fun _ _ _ _ _ _ us hl => match us, hl with | [_], _ => rfl) (fun f cdv A outer s H vs Q E hr h => ?_)
  have hu := hu_of hr
  obtain ⟨A, m, hs, N, rfl, t, ok, hrw, hl, q⟩ := h
  obtain ⟨dx, hp⟩ := t.c.ins
  obtain ⟨sx, hst, al⟩ := t.stp
  refine ⟨_, (pss_cons (ps_set (i := 1) sc_Run_copied.nd rfl (Or.inl rfl) (pe_mk c_Run (hr.mono (by decide)) (L2N.takes_of rfl rfl rfl rfl) (pa_cons (pe_fld (pv 0) rfl) (pa_cons (pe_fld (pv 0) rfl) (pa_cons (pe_fld (pv 0) rfl) pa_nil)))))
  (pss_cons (ps_for (passes_of rfl) rfl (pi_list (pe_fld (pv 0) rfl)) (pg_name (i := 2) sc_Run_copied.nd rfl (Or.inl rfl))
  (pss_one (ps_expr (pe_mth (pv 1) m_Run_do (hr.mono (by decide)) (L2N.takes_of rfl rfl rfl rfl) (pa_cons (pv 2) pa_nil)))))
  (pss_one (ps_ret (pv 1))))), ?_⟩
  walk_at "st0"
  refine seq_gen fun N_a h_a => ?_
  simp only [RDa, RDb, RDv, RDk, RDx, RDe, RDd, RDp, RDq, List.getElem?_cons_zero, List.getElem?_cons_succ, List.set_cons_zero, List.set_cons_succ, List.cons.injEq, List.cons_ne_nil, reduceCtorEq, exists_eq_left', exists_eq_left, exists_and_left, and_assoc, exists_const, true_and, and_true, if_true, if_false, false_and, and_false, exists_false, false_or, or_false, true_implies, false_implies, implies_true, forall_eq, forall_eq', Bool.false_eq_true, if_neg, decide_eq_true_eq, Bool.not_eq_true', decide_eq_false_iff_not, Bool.not_true, Bool.not_false, List.length_cons, List.length_nil, sizeLine_eq, Nat.reduceAdd, Nat.reduceLeDiff, Nat.reduceLT, Int.reduceLT, Int.reduceLE, Int.emod_nonneg, ne_eq, Int.reduceEq, not_false_eq_true, not_true_eq_false, hRun, RunL, hp]
  have bc : 1 ≤ m.w ∧ m.w ≤ 20 ∧ 1 ≤ m.r ∧ m.r ≤ m.w ∧ 0 ≤ m.d ∧ m.d ≤ 20 ∧ 0 ≤ m.b ∧ m.b ≤ 20 := ⟨ok.w1, ok.w2, ok.r1, hrw, ok.d1, ok.d2, ok.b1, ok.b2⟩
  have bk := boundsV_of t.c.bnd bc
  have rk : amongV (.int m.ring) 1 200 = true := by
    have := ok.g1
    have := ok.g2
    simp only [amongV, Bool.and_eq_true, decide_eq_true_eq]
    omega
  have tz := textsV_ok t.c.lore ok.tx ok.sx
  refine mk_Run (Q := fun v H => N_a [some (.ref A.p), some v, none] H) (KnI_ints t.c.bnd) rfl (texts_KnI t.c.lore) (texts_NoLong t.c.lore ok.sx) (fun hb => by rw [bk] at hb; cases hb) (fun _ hr => by rw [rk] at hr; cases hr) (fun _ _ hz => by rw [tz] at hz; cases hz) (fun ba w' r d b g' tl' tx' A' H1 e1 e2 _ e3 _ _ e4 e5 _ eba fr s1 run => h_a _ _ ?_)
  clear h_a
  cases e1
  cases e3
  cases e4
  rw [t.c.bnd] at e2
  cases e2
  rw [t.c.lore] at e5
  have etx : m.tx = tx' := map_str_inj (HO.lst.inj (Option.some.inj e5))
  subst etx
  have hp1 : H1 A.p = _ := s1 _ _ hp
  have hst1 : H1 A.st = _ := s1 _ _ hst
  have out : ∀ c o, H c = some o → c ∉ A'.mu' := fun c o e hm => by
    have := fr c (by revert hm; simp only [RA.mu', RA.al, List.mem_cons, List.not_mem_nil, or_false]; rintro (rfl | rfl | rfl | rfl | rfl | rfl | rfl) <;> simp)
    rw [e] at this
    cases this
  have same : ∀ H2, Fr A'.mu' H1 H2 → Same H H2 := fun H2 f c o e => f _ _ (out c o e) (s1 _ _ e)
  refine seq_rel (fun σ1 H2 => ∃ u, σ1 = [some (.ref A.p), some (.ref A'.p), u] ∧ Fr A'.mu' H1 H2 ∧ RunAt K H2 A' m hs) (fun N_b h_b => ?_) ?_
  · refine for_lcut (fun la H2 => la = A.st ∧ H1 = H2) sx (fun Z hZ => ?_) (fun la i σ H2 => la = A.st ∧ ∃ u mi, σ = [some (.ref A.p), some (.ref A'.p), u] ∧ Fr A'.mu' H1 H2 ∧ RunAt K H2 A' mi (hs.take i) ∧ mi.Ok i ∧ (M.begun m.w m.r m.d m.b m.ring m.tx).run (hs.take i) = some mi) ?_ ?_ ?_ ?_
    · simp only [RDa, RDb, RDv, RDk, RDx, RDe, RDd, RDp, RDq, List.getElem?_cons_zero, List.getElem?_cons_succ, List.set_cons_zero, List.set_cons_succ, List.cons.injEq, List.cons_ne_nil, reduceCtorEq, exists_eq_left', exists_eq_left, exists_and_left, and_assoc, exists_const, true_and, and_true, if_true, if_false, false_and, and_false, exists_false, false_or, or_false, true_implies, false_implies, implies_true, forall_eq, forall_eq', Bool.false_eq_true, if_neg, decide_eq_true_eq, Bool.not_eq_true', decide_eq_false_iff_not, Bool.not_true, Bool.not_false, List.length_cons, List.length_nil, sizeLine_eq, Nat.reduceAdd, Nat.reduceLeDiff, Nat.reduceLT, Int.reduceLT, Int.reduceLE, Int.emod_nonneg, ne_eq, Int.reduceEq, not_false_eq_true, not_true_eq_false, hRun, RunL, hp1]
      exact hZ _ _ ⟨rfl, rfl⟩
    · rintro la H2 ⟨rfl, rfl⟩
      exact ⟨SqL.of hst1, rfl, _, _, rfl, .refl _ _, run, ok.begun, rfl⟩
    · rintro la i σ H2 _ ⟨rfl, _, _, _, f2, _⟩
      exact SqL.of (same H2 f2 _ _ hst)
    · rintro la i x σ H2 hx ⟨rfl, u, mi, rfl, f2, r2, ok2, rep2⟩
      have hi : i < sx.length := (List.getElem?_eq_some_iff.mp hx).1
      have hls := al.length
      obtain ⟨gq, hq, p, rfl, hpt⟩ := al.get hx
      have hp2 := same H2 f2 _ _ hpt
      obtain ⟨dx2, hpp⟩ := r2.c.ins
      obtain ⟨u', m2, es⟩ := M.run_at t.rep rep2 hq
      obtain ⟨k1, k2, k3⟩ := t.okh gq (List.mem_of_getElem? hq)
      obtain ⟨kk1, kk2⟩ := step_tup hp2 k1 k2 k3
      have et : hs.take (i + 1) = hs.take i ++ [(gq.1, gq.2)] := by
        rw [List.take_succ, hq]
        rfl
      have rep3 := M.run_snoc _ _ _ _ _ _ _ rep2 es
      simp only [RDa, RDb, RDv, RDk, RDx, RDe, RDd, RDp, RDq, List.getElem?_cons_zero, List.getElem?_cons_succ, List.set_cons_zero, List.set_cons_succ, List.cons.injEq, List.cons_ne_nil, reduceCtorEq, exists_eq_left', exists_eq_left, exists_and_left, and_assoc, exists_const, true_and, and_true, if_true, if_false, false_and, and_false, exists_false, false_or, or_false, true_implies, false_implies, implies_true, forall_eq, forall_eq', Bool.false_eq_true, if_neg, decide_eq_true_eq, Bool.not_eq_true', decide_eq_false_iff_not, Bool.not_true, Bool.not_false, List.length_cons, List.length_nil, sizeLine_eq, Nat.reduceAdd, Nat.reduceLeDiff, Nat.reduceLT, Int.reduceLT, Int.reduceLE, Int.emod_nonneg, ne_eq, Int.reduceEq, not_false_eq_true, not_true_eq_false, hRun, RunL, hpp]
      refine do_it (N := i) r2 ok2 (by omega) (by rw [List.length_take]; omega) hp2 k1 k2 k3 es fun H3 f3 r3 => ?_
      have fin : Fr A'.mu' H1 H3 ∧ RunAt K H3 A' m2 (hs.take (i + 1)) ∧ m2.Ok (i + 1) ∧ (M.begun m.w m.r m.d m.b m.ring m.tx).run (hs.take (i + 1)) = some m2 := ⟨f2.trans f3, by rw [et]; exact r3, (ok2.step es).1, by rw [et]; exact rep3⟩
      first
      | exact ⟨fin.1, m2, fin.2⟩
      | exact ⟨m2, fin⟩
      | exact ⟨_, m2, rfl, fin⟩
    · rintro la σ H2 ⟨rfl, u, mi, rfl, f2, r2, ok2, rep2⟩
      rw [← al.length, List.take_length] at r2 rep2
      rw [t.rep] at rep2
      cases rep2
      exact h_b _ _ ⟨u, rfl, f2, r2⟩
  rintro _ H2 ⟨u, rfl, f2, r2⟩
  simp only [RDa, RDb, RDv, RDk, RDx, RDe, RDd, RDp, RDq, List.getElem?_cons_zero, List.getElem?_cons_succ, List.set_cons_zero, List.set_cons_succ, List.cons.injEq, List.cons_ne_nil, reduceCtorEq, exists_eq_left', exists_eq_left, exists_and_left, and_assoc, exists_const, true_and, and_true, if_true, if_false, false_and, and_false, exists_false, false_or, or_false, true_implies, false_implies, implies_true, forall_eq, forall_eq', Bool.false_eq_true, if_neg, decide_eq_true_eq, Bool.not_eq_true', decide_eq_false_iff_not, Bool.not_true, Bool.not_false, List.length_cons, List.length_nil, sizeLine_eq, Nat.reduceAdd, Nat.reduceLeDiff, Nat.reduceLT, Int.reduceLT, Int.reduceLE, Int.emod_nonneg, ne_eq, Int.reduceEq, not_false_eq_true, not_true_eq_false]
  exact q A' H2 (same H2 f2) fr r2
end RP

namespace RP
open PySem PySem.Spec PyProof.Rows L2 L2H
/-- the data of what a run tells of itself -/
def letD (m : M) : PyData := .list ((thereN m.ls.length m.d).map fun i => .tuple [.int (i : Nat), .int (m.ls.getD i (0, "")).1, .str (m.ls.getD i (0, "")).2])
def anD (m : M) : PyData := .list ((thereN m.an.length m.b).map fun i => .tuple [.int (i : Nat), .int (m.an.getD i 0)])
def outD (m : M) : PyData := .list (m.out.map .str)
def cntD (m : M) : PyData := .tuple [.int m.base, .int m.top, .int m.want]
theorem shp_let {m : M} {N : Nat} (ok : m.Ok N) : Shp 2 (letD m) := shp_list fun d hd => by
  obtain ⟨i, _, rfl⟩ := List.mem_map.mp hd
  refine shp_tuple fun d h => ?_
  simp only [List.mem_cons, List.not_mem_nil, or_false] at h
  rcases h with rfl | rfl | rfl
  · exact (shp_s 0).2.2.1 _
  · exact (shp_s 0).2.2.1 _
  · exact (shp_s 0).2.2.2 _ (getD_all (p := fun q : Int × Str => TxtOk 40 q.2) (d := ((0 : Int), ("" : Str))) ok.sl (txt_empty 40) i).1
theorem shp_an {m : M} : Shp 2 (anD m) := shp_list fun d hd => by
  obtain ⟨i, _, rfl⟩ := List.mem_map.mp hd
  refine shp_tuple fun d h => ?_
  simp only [List.mem_cons, List.not_mem_nil, or_false] at h
  rcases h with rfl | rfl
  · exact (shp_s 0).2.2.1 _
  · exact (shp_s 0).2.2.1 _
theorem shp_out {m : M} {N : Nat} (ok : m.Ok N) : Shp 2 (outD m) := shp_list fun d hd => by
  obtain ⟨x, hx, rfl⟩ := List.mem_map.mp hd
  exact (shp_s 1).2.2.2 x (ok.so x hx).1
theorem shp_cnt {m : M} : Shp 2 (cntD m) := shp_tuple fun d h => by
  simp only [List.mem_cons, List.not_mem_nil, or_false] at h
  rcases h with rfl | rfl | rfl <;> exact (shp_s 1).2.2.1 _
theorem dat_let {m : M} {H : Hp} {l : Addr} {rs : List V} (h : H l = some (.lst rs)) (ar : All2 (LRow m H) (thereN m.ls.length m.d) rs) (n : Nat) : dat H (n + 2) (.ref l) = some (letD m) := by
  rw [dat_lst h]
  have e : mapO (dat H (n + 1)) rs = some ((thereN m.ls.length m.d).map fun i => .tuple [.int (i : Nat), .int (m.ls.getD i (0, "")).1, .str (m.ls.getD i (0, "")).2]) :=
    All2.mapO_eq (ar.mono fun i v ⟨a, e, h⟩ => by
      rw [e, dat_tup h n]
      simp only [mapO, (datE H).2.2.1, (datE H).2.2.2.1, Option.map_some])
  rw [e]
  rfl
theorem dat_an {m : M} {H : Hp} {l : Addr} {rs : List V} (h : H l = some (.lst rs)) (ar : All2 (ARow m H) (thereN m.an.length m.b) rs) (n : Nat) : dat H (n + 2) (.ref l) = some (anD m) := by
  rw [dat_lst h]
  have e : mapO (dat H (n + 1)) rs = some ((thereN m.an.length m.b).map fun i => .tuple [.int (i : Nat), .int (m.an.getD i 0)]) :=
    All2.mapO_eq (ar.mono fun i v ⟨a, e, h⟩ => by
      rw [e, dat_tup h n]
      simp only [mapO, (datE H).2.2.1, (datE H).2.2.2.1, Option.map_some])
  rw [e]
  rfl
theorem dat_out {m : M} {H : Hp} {l : Addr} (h : H l = some (.lst (m.out.map V.str))) (n : Nat) : dat H (n + 1) (.ref l) = some (outD m) := by
  rw [dat_lst h, dat_strs]
  rfl
theorem dat_cnt {m : M} {H : Hp} {l : Addr} (h : H l = some (.tup [.int m.base, .int m.top, .int m.want])) (n : Nat) : dat H (n + 1) (.ref l) = some (cntD m) := by
  rw [dat_tup h]
  simp only [mapO, (datE H).2.2.1, Option.map_some, cntD]
end RP

namespace RP
open PySem PySem.Spec PyProof.Rows L2 L2H
/-- for x in a list that is made meanwhile -/
theorem for_lcutx {K : PySem.W.Frag} {tl : TE} {g : TG} {tb : TS} {D : Ends} {σ : L2.St} {H : Hp} (G : Addr → List V → Hp → Prop) (h1 : ∀ Z : VK, (∀ a xs H1, G a xs H1 → Z (.ref a) H1) → tl σ H Z)
    (hb : ∀ a xs H1, G a xs H1 → ∃ Pv : Nat → L2.St → Hp → Prop, SqL K H1 a xs ∧ Pv 0 σ H1 ∧ (∀ i σ H, i ≤ xs.length → Pv i σ H → SqL K H a xs) ∧
      (∀ i x σ H, xs[i]? = some x → Pv i σ H → g x σ H fun σ2 H2 => tb { D with nx := Pv (i + 1), ct := Pv (i + 1), bk := D.nx } σ2 H2) ∧ (∀ σ H, Pv xs.length σ H → D.nx σ H)) : tFor (iList K tl) g tb D σ H :=
  h1 _ fun a xs H1 q => by
    obtain ⟨Pv, h0, p0, hl, hs, hd⟩ := hb a xs H1 q
    exact ⟨a, rfl, ⟨xs, h0⟩, for_list Pv p0 hl hs hd⟩
/-- a run that goes on, nothing wrong -/
structure Inv7 (K : PySem.W.Frag) (H0 H : Hp) (A : RA) (m0 m : M) (hs : List (Str × Int)) (n : Nat) : Prop where
  fr : Fr A.mu' H0 H
  run : RunAt K H A m hs
  ok : m.Ok n
  good : ∃ ks vs, Good m ks vs
  big : Big m
  len : hs.length ≤ n
  cw : m.w = m0.w ∧ m.r = m0.r ∧ m.d = m0.d ∧ m.b = m0.b ∧ m.ring = m0.ring ∧ m.tx = m0.tx
theorem Inv7.same {K : PySem.W.Frag} {H0 H H1 : Hp} {A : RA} {m0 m : M} {hs : List (Str × Int)} {n : Nat} (i : Inv7 K H0 H A m0 m hs n) (s : Same H H1) : Inv7 K H0 H1 A m0 m hs n := { i with fr := i.fr.trans (.of s), run := i.run.same s }
theorem Inv7.done {K : PySem.W.Frag} {H0 H H1 : Hp} {A : RA} {m0 m m' : M} {hs hs' : List (Str × Int)} {n : Nat} (i : Inv7 K H0 H A m0 m hs n) (hc : m' = m ∨ ∃ z k t, isWord z ∧ m.step z k = some (t, m')) (hl : hs'.length ≤ hs.length + 1) (f : Fr A.mu' H H1) (r : RunAt K H1 A m' hs') : Inv7 K H0 H1 A m0 m' hs' (n + 1) := by
  rcases hc with rfl | ⟨z, k, t, hz, es⟩
  · exact { i with fr := i.fr.trans f, run := r, ok := i.ok.mono (by omega), len := by have := i.len; omega }
  · obtain ⟨ks, vs, g⟩ := i.good
    have g2 := g.step i.big hz es
    have ec := M.step_const es
    have c := i.cw
    exact ⟨i.fr.trans f, r, (i.ok.step es).1, g2.1, g2.2, by have := i.len; omega, ec.1.trans c.1, ec.2.1.trans c.2.1, ec.2.2.1.trans c.2.2.1, ec.2.2.2.1.trans c.2.2.2.1, ec.2.2.2.2.1.trans c.2.2.2.2.1, ec.2.2.2.2.2.trans c.2.2.2.2.2⟩
theorem Inv7.base {K : PySem.W.Frag} {H0 H : Hp} {A : RA} {m0 m : M} {hs : List (Str × Int)} {n : Nat} (i : Inv7 K H0 H A m0 m hs n) : m.base ≤ 400 := by
  obtain ⟨ks, vs, g⟩ := i.good
  have h1 := g.bw
  have h2 := g.wt
  have h3 := g.tl
  have h4 := i.ok.tx
  omega
theorem mu_al (A : RA) : ∀ x ∈ A.mu', x ∈ A.al := fun x hx => by
  revert hx
  simp only [RA.mu', RA.al, List.mem_cons, List.not_mem_nil, or_false]
  rintro (rfl | rfl | rfl | rfl | rfl | rfl | rfl) <;> simp
/-- a step's tuple -/
theorem step_KnI {H : Hp} {q : Str × Int} {v : V} (h : StepAt H q v) : KnI H v := by
  obtain ⟨p, rfl, h⟩ := h
  refine ⟨by unfold Kn; rw [tyN_tup h]; rfl, fun a' xs e hx y hy => ?_⟩
  cases e
  rw [seqO_tup h] at hx
  cases hx
  simp only [List.mem_cons, List.not_mem_nil, or_false] at hy
  rcases hy with rfl | rfl <;> rfl
end RP

namespace RP
open PySem PySem.Spec PyProof.Rows L2 L2H
/-- a list of steps -/
def okSteps (hs : List (Str × Int)) : Prop := ∀ q ∈ hs, isWord q.1 ∧ 0 ≤ q.2 ∧ q.2 ≤ 999999
def StepsAt (H : Hp) (l : Addr) (hs : List (Str × Int)) : Prop := ∃ sx, H l = some (.lst sx) ∧ All2 (StepAt H) hs sx
theorem StepsAt.same {H H1 : Hp} {l : Addr} {hs : List (Str × Int)} (h : StepsAt H l hs) (s : Same H H1) : StepsAt H1 l hs := by
  obtain ⟨sx, e, a⟩ := h
  exact ⟨sx, s _ _ e, a.mono fun _ _ ⟨a, e, h⟩ => ⟨a, e, s _ _ h⟩⟩
theorem All2.append {α β : Type} {R : α → β → Prop} : ∀ {xs : List α} {ys : List β} {us : List α} {vs : List β}, All2 R xs ys → All2 R us vs → All2 R (xs ++ us) (ys ++ vs)
  | _, _, _, _, .nil, h => h
  | _, _, _, _, .cons h t, h2 => .cons h (t.append h2)
theorem okSteps.app {hs gs : List (Str × Int)} (h : okSteps hs) (g : okSteps gs) : okSteps (hs ++ gs) := fun q hq => by
  rcases List.mem_append.mp hq with z | z
  · exact h q z
  · exact g q z
theorem isWord3 : isWord "send" ∧ isWord "hand" ∧ isWord "tell" := ⟨.inl rfl, .inr (.inl rfl), .inr (.inr rfl)⟩
end RP

namespace RP
open PySem PySem.Spec PyProof.Rows L2 L2H
/-- the straight steps -/
def straightS (n : Nat) : List (Str × Int) := (List.range n).flatMap fun k : Nat => [(("send" : Str), (k : Int)), (("hand" : Str), (k : Int)), (("tell" : Str), (k : Int))]
theorem straightS_succ (n : Nat) : straightS (n + 1) = straightS n ++ [(("send" : Str), (n : Int)), (("hand" : Str), (n : Int)), (("tell" : Str), (n : Int))] := by
  unfold straightS
  rw [List.range_succ, List.flatMap_append]
  rfl
theorem straightS_ok : ∀ (n : Nat), n ≤ 1000 → okSteps (straightS n) ∧ (straightS n).length = 3 * n
  | 0, _ => ⟨fun q h => absurd h (by simp [straightS]), rfl⟩
  | n + 1, h => by
    obtain ⟨h1, h2⟩ := straightS_ok n (by omega)
    rw [straightS_succ]
    refine ⟨h1.app fun q hq => ?_, by rw [List.length_append, h2]; show 3 * n + 3 = _; omega⟩
    simp only [List.mem_cons, List.not_mem_nil, or_false] at hq
    rcases hq with rfl | rfl | rfl
    · exact ⟨isWord3.1, by show (0 : Int) ≤ n; omega, by show (n : Int) ≤ 999999; omega⟩
    · exact ⟨isWord3.2.1, by show (0 : Int) ≤ n; omega, by show (n : Int) ≤ 999999; omega⟩
    · exact ⟨isWord3.2.2, by show (0 : Int) ≤ n; omega, by show (n : Int) ≤ 999999; omega⟩
abbrev s__law_straight : Stmt := top 50
abbrev N__law_straight : List Str := ["_law_texts_here", "_law_first_here", "_law_steps", "_law_k"]
theorem sc__law_straight : FnScope N__law_straight ["_law_texts_here", "_law_first_here"] (defScope s__law_straight) := ⟨rfl, rfl, rfl, by decide +kernel, rfl, by decide +kernel, by decide +kernel⟩
def sp__law_straight (K : PySem.W.Frag) : Sp := fun vs H Q E => ∃ (tl : Addr) (tx : List Str) (first : Int), vs = [.ref tl, .int first] ∧ H tl = some (.lst (tx.map V.str)) ∧ tx.length ≤ 400 ∧ 0 ≤ first ∧ first ≤ 1000 ∧
  ∀ l H', H l = none → Same H H' → StepsAt H' l (straightS (mn2 first tx.length).toNat) → Q (.ref l) H'
theorem ok__law_straight {P : Program} {w : World} {K : PySem.W.Frag} {mg : Str → Option Value} {base : Heap} (F : FnP K ("_law_straight", none) "_law_straight" "_law_straight" s__law_straight) (hm : mg "_law_straight" = some (.ref (He.ga K "_law_straight"))) (bl : Blt mg) : Cal P w K mg base 1 "_law_straight" (sp__law_straight K) := by
  refine fn_cal F hm sc__law_straight (fun vs H Q E => by walk_at "len") (fun _ _ _ _ _ _ us hl => match us, hl with | [_, _], _ => rfl) (fun f cdv A outer s H vs Q E hr h => ?_)
  have hu := hu_of hr
  obtain ⟨tl, tx, first, rfl, htl, htx, f0, f1, q⟩ := h
  have hmn : 0 ≤ mn2 first tx.length := mn2_le.mpr ⟨f0, by omega⟩
  have hmn2 := mn2_le.mp (Int.le_refl (mn2 first tx.length))
  refine ⟨_, (pss_cons (ps_set (i := 2) sc__law_straight.nd rfl (Or.inl rfl) (pe_lst pa_nil))
  (pss_cons (ps_for (passes_of rfl) rfl (pi_range1 rfl (bl.range) (pa_cons (pe_callB (call_min2 rfl) (by rfl) (bl.min) (by decide +kernel) (pa_cons (pv 1) (pa_cons (pe_callB call_lenC (by rfl) (bl.len) (by decide +kernel) (pa_cons (pv 0) pa_nil)) pa_nil))) pa_nil)) (pg_name (i := 3) sc__law_straight.nd rfl (Or.inl rfl))
  (pss_one (ps_set (i := 2) sc__law_straight.nd rfl (Or.inl rfl) (pe_op op_cat (pv 2) (pe_lst (pa_cons (pe_tup (pa_cons pe_str (pa_cons (pv 3) pa_nil))) (pa_cons (pe_tup (pa_cons pe_str (pa_cons (pv 3) pa_nil))) (pa_cons (pe_tup (pa_cons pe_str (pa_cons (pv 3) pa_nil))) pa_nil))))))))
  (pss_one (ps_ret (pv 2))))), ?_⟩
  walk_at "st0"
  refine seq_gen fun N_a h_a => ?_
  simp only [RDa, RDb, RDv, RDk, RDx, RDe, RDd, RDp, RDq, List.getElem?_cons_zero, List.getElem?_cons_succ, List.set_cons_zero, List.set_cons_succ, List.cons.injEq, List.cons_ne_nil, reduceCtorEq, exists_eq_left', exists_eq_left, exists_and_left, and_assoc, exists_const, true_and, and_true, if_true, if_false, false_and, and_false, exists_false, false_or, or_false, true_implies, false_implies, implies_true, forall_eq, forall_eq', Bool.false_eq_true, if_neg, decide_eq_true_eq, Bool.not_eq_true', decide_eq_false_iff_not, Bool.not_true, Bool.not_false, List.length_cons, List.length_nil, sizeLine_eq, Nat.reduceAdd, Nat.reduceLeDiff, Nat.reduceLT, Int.reduceLT, Int.reduceLE, Int.emod_nonneg, ne_eq, Int.reduceEq, not_false_eq_true, not_true_eq_false]
  intro l0 n_l0
  generalize e_H1 : upd H l0 (.lst []) = H1
  have a_H1 : H1 l0 = some (.lst []) := by rw [← e_H1]; exact upd_same
  have s_H1 : Same H H1 := by rw [← e_H1]; exact same_new n_l0
  refine h_a _ _ ?_
  clear h_a
  refine seq_rel (fun σ1 H2 => ∃ l u, σ1 = [some (.ref tl), some (.int first), some (.ref l), u] ∧ H l = none ∧ Same H H2 ∧ StepsAt H2 l (straightS (mn2 first tx.length).toNat)) (fun N_b h_b => ?_) ?_
  · refine for_rcut 0 (mn2 first tx.length).toNat (fun H2 => H1 = H2) (fun Z hZ => ?_) (fun i σ1 H2 => ∃ l u, σ1 = [some (.ref tl), some (.int first), some (.ref l), u] ∧ H l = none ∧ Same H H2 ∧ StepsAt H2 l (straightS i)) ?_ ?_ ?_
    · simp only [RDa, RDb, RDv, RDk, RDx, RDe, RDd, RDp, RDq, List.getElem?_cons_zero, List.getElem?_cons_succ, List.set_cons_zero, List.set_cons_succ, List.cons.injEq, List.cons_ne_nil, reduceCtorEq, exists_eq_left', exists_eq_left, exists_and_left, and_assoc, exists_const, true_and, and_true, if_true, if_false, false_and, and_false, exists_false, false_or, or_false, true_implies, false_implies, implies_true, forall_eq, forall_eq', Bool.false_eq_true, if_neg, decide_eq_true_eq, Bool.not_eq_true', decide_eq_false_iff_not, Bool.not_true, Bool.not_false, List.length_cons, List.length_nil, sizeLine_eq, Nat.reduceAdd, Nat.reduceLeDiff, Nat.reduceLT, Int.reduceLT, Int.reduceLE, Int.emod_nonneg, ne_eq, Int.reduceEq, not_false_eq_true, not_true_eq_false, lenO_lst (s_H1 _ _ htl), List.length_map]
      have em : (if (tx.length : Int) < first then (tx.length : Int) else first) = mn2 first tx.length := rfl
      rw [em]
      exact ⟨by omega, by omega, hZ _ rfl⟩
    · rintro H2 rfl
      exact ⟨l0, _, rfl, n_l0, s_H1, [], a_H1, .nil⟩
    · rintro i σ1 H2 hi ⟨l, u, rfl, nl, s2, sx, hl, al⟩
      simp only [RDa, RDb, RDv, RDk, RDx, RDe, RDd, RDp, RDq, List.getElem?_cons_zero, List.getElem?_cons_succ, List.set_cons_zero, List.set_cons_succ, List.cons.injEq, List.cons_ne_nil, reduceCtorEq, exists_eq_left', exists_eq_left, exists_and_left, and_assoc, exists_const, true_and, and_true, if_true, if_false, false_and, and_false, exists_false, false_or, or_false, true_implies, false_implies, implies_true, forall_eq, forall_eq', Bool.false_eq_true, if_neg, decide_eq_true_eq, Bool.not_eq_true', decide_eq_false_iff_not, Bool.not_true, Bool.not_false, List.length_cons, List.length_nil, sizeLine_eq, Nat.reduceAdd, Nat.reduceLeDiff, Nat.reduceLT, Int.reduceLT, Int.reduceLE, Int.emod_nonneg, ne_eq, Int.reduceEq, not_false_eq_true, not_true_eq_false]
      intro p1 n_p1
      generalize e_H3 : upd H2 p1 (.tup [.str "send", .int (0 + (i : Int))]) = H3
      have a_H3 : H3 p1 = some (.tup [.str "send", .int (0 + (i : Int))]) := by rw [← e_H3]; exact upd_same
      have s_H3 : Same H2 H3 := by rw [← e_H3]; exact same_new n_p1
      intro p2 n_p2
      generalize e_H4 : upd H3 p2 (.tup [.str "hand", .int (0 + (i : Int))]) = H4
      have a_H4 : H4 p2 = some (.tup [.str "hand", .int (0 + (i : Int))]) := by rw [← e_H4]; exact upd_same
      have s_H4 : Same H3 H4 := by rw [← e_H4]; exact same_new n_p2
      intro p3 n_p3
      generalize e_H5 : upd H4 p3 (.tup [.str "tell", .int (0 + (i : Int))]) = H5
      have a_H5 : H5 p3 = some (.tup [.str "tell", .int (0 + (i : Int))]) := by rw [← e_H5]; exact upd_same
      have s_H5 : Same H4 H5 := by rw [← e_H5]; exact same_new n_p3
      intro p4 n_p4
      generalize e_H6 : upd H5 p4 (.lst [.ref p1, .ref p2, .ref p3]) = H6
      have a_H6 : H6 p4 = some (.lst [.ref p1, .ref p2, .ref p3]) := by rw [← e_H6]; exact upd_same
      have s_H6 : Same H5 H6 := by rw [← e_H6]; exact same_new n_p4
      have s26 := ((s_H3.trans s_H4).trans s_H5).trans s_H6
      have hls := al.length
      rw [(straightS_ok i (by omega)).2] at hls
      refine ⟨sx, s26 _ _ hl, _, a_H6, by show sx.length + 3 ≤ 16777216; omega, fun p np => ?_⟩
      have s6 := same_new (o := HO.lst (sx ++ [.ref p1, .ref p2, .ref p3])) np
      have sf := s26.trans s6
      have z : (0 : Int) + (i : Int) = i := Int.zero_add _
      rw [z] at a_H3 a_H4 a_H5
      have st : All2 (StepAt (upd H6 p (.lst (sx ++ [.ref p1, .ref p2, .ref p3])))) (straightS (i + 1)) (sx ++ [.ref p1, .ref p2, .ref p3]) := by
        rw [straightS_succ]
        exact (al.mono fun _ _ ⟨a, e, h⟩ => ⟨a, e, sf _ _ h⟩).append (.cons ⟨p1, rfl, s6 _ _ (s_H6 _ _ (s_H5 _ _ (s_H4 _ _ a_H3)))⟩ (.cons ⟨p2, rfl, s6 _ _ (s_H6 _ _ (s_H5 _ _ a_H4))⟩ (.cons ⟨p3, rfl, s6 _ _ (s_H6 _ _ a_H5)⟩ .nil)))
      have fin : H p = none ∧ Same H (upd H6 p (.lst (sx ++ [.ref p1, .ref p2, .ref p3]))) ∧ StepsAt (upd H6 p (.lst (sx ++ [.ref p1, .ref p2, .ref p3]))) p (straightS (i + 1)) := ⟨s2.free (s26.free np), s2.trans sf, _, upd_same, st⟩
      first
      | exact fin
      | exact ⟨fin.1, ⟨_, rfl⟩, fin.2⟩
      | exact ⟨_, _, rfl, fin⟩
    · rintro σ1 H2 ⟨l, u, rfl, nl, s2, st⟩
      exact h_b _ _ ⟨l, u, rfl, nl, s2, st⟩
  rintro _ H2 ⟨l, u, rfl, nl, s2, st⟩
  simp only [RDa, RDb, RDv, RDk, RDx, RDe, RDd, RDp, RDq, List.getElem?_cons_zero, List.getElem?_cons_succ, List.set_cons_zero, List.set_cons_succ, List.cons.injEq, List.cons_ne_nil, reduceCtorEq, exists_eq_left', exists_eq_left, exists_and_left, and_assoc, exists_const, true_and, and_true, if_true, if_false, false_and, and_false, exists_false, false_or, or_false, true_implies, false_implies, implies_true, forall_eq, forall_eq', Bool.false_eq_true, if_neg, decide_eq_true_eq, Bool.not_eq_true', decide_eq_false_iff_not, Bool.not_true, Bool.not_false, List.length_cons, List.length_nil, sizeLine_eq, Nat.reduceAdd, Nat.reduceLeDiff, Nat.reduceLT, Int.reduceLT, Int.reduceLE, Int.emod_nonneg, ne_eq, Int.reduceEq, not_false_eq_true, not_true_eq_false]
  exact q l H2 nl s2 st
end RP

namespace RP
open PySem PySem.Spec PyProof.Rows L2 L2H
/-- the attributes of a Track -/
def flTrack (a0 : Addr) (a1 : Int) (a2 : Int) : List (Str × V) := [(("steps" : Str), V.ref a0), (("posts" : Str), V.int a1), (("replies" : Str), V.int a2)]
abbrev TrackF (K : PySem.W.Frag) : Prop := Cls K (He.ga K "Track") ∧ NoAttr K (He.ga K "Track") "steps" ∧ NoAttr K (He.ga K "Track") "posts" ∧ NoAttr K (He.ga K "Track") "replies"
theorem flTrack_inj (a0 : Addr) (a1 : Int) (a2 : Int) (b0 : Addr) (b1 : Int) (b2 : Int) : (flTrack a0 a1 a2 = flTrack b0 b1 b2) = (a0 = b0 ∧ a1 = b1 ∧ a2 = b2) := by
  simp only [flTrack, List.cons.injEq, Prod.mk.injEq, V.int.injEq, V.ref.injEq, true_and, and_true]
theorem TrackL : (∀ (a0 : Addr) (a1 : Int) (a2 : Int), (flTrack a0 a1 a2).lookup ("steps" : Str) = some (.ref a0)) ∧
    (∀ (a0 : Addr) (a1 : Int) (a2 : Int), (flTrack a0 a1 a2).lookup ("posts" : Str) = some (.int a1)) ∧
    (∀ (a0 : Addr) (a1 : Int) (a2 : Int), (flTrack a0 a1 a2).lookup ("replies" : Str) = some (.int a2)) ∧
    (∀ (a0 : Addr) (a1 : Int) (a2 : Int), (flTrack a0 a1 a2).lookup ("send" : Str) = none) ∧
    (∀ (a0 : Addr) (a1 : Int) (a2 : Int), (flTrack a0 a1 a2).lookup ("hand" : Str) = none) ∧
    (∀ (a0 : Addr) (a1 : Int) (a2 : Int), (flTrack a0 a1 a2).lookup ("through" : Str) = none) ∧
    (∀ (a0 : Addr) (a1 : Int) (a2 : Int), (flTrack a0 a1 a2).lookup ("tell" : Str) = none) ∧
    (∀ (a0 : Addr) (a1 : Int) (a2 : Int), (flTrack a0 a1 a2).length = 3) ∧
    (∀ (a0 : Addr) (a1 : Int) (a2 : Int) (b0 : Addr) (b1 : Int) (b2 : Int), (flTrack a0 a1 a2 = flTrack b0 b1 b2) = (a0 = b0 ∧ a1 = b1 ∧ a2 = b2)) ∧
    (∀ (a0 : Addr) (a1 : Int) (a2 : Int) (y : Addr), putF ("steps" : Str) (.ref y) (flTrack a0 a1 a2) = flTrack y a1 a2) ∧
    (∀ (a0 : Addr) (a1 : Int) (a2 : Int) (y : Int), putF ("posts" : Str) (.int y) (flTrack a0 a1 a2) = flTrack a0 y a2) ∧
    (∀ (a0 : Addr) (a1 : Int) (a2 : Int) (y : Int), putF ("replies" : Str) (.int y) (flTrack a0 a1 a2) = flTrack a0 a1 y) := by
  refine ⟨?_, ?_, ?_, ?_, ?_, ?_, ?_, ?_, ?_, ?_, ?_, ?_⟩ <;> intros <;> first | rfl | exact flTrack_inj .. | kernel_rfl
theorem TrackI : (∀  (v : V), putF ("steps" : Str) v ([] : List (Str × V)) = [(("steps" : Str), v)]) ∧
    (∀ (u0 : V) (v : V), putF ("posts" : Str) v ([(("steps" : Str), u0)] : List (Str × V)) = [(("steps" : Str), u0), (("posts" : Str), v)]) ∧
    (∀ (a0 : Addr) (a1 : Int) (a2 : Int), putF ("replies" : Str) (.int a2) ([(("steps" : Str), V.ref a0), (("posts" : Str), V.int a1)] : List (Str × V)) = flTrack a0 a1 a2) := by
  refine ⟨?_, ?_, ?_⟩ <;> intros <;> first | rfl | kernel_rfl
/-- a track, by its steps -/
structure TS where
  st : List (Str × Int)
  po : Int
  re : Int
def TS.send (t : TS) (k : Int) : TS := ⟨t.st ++ [(("send" : Str), k)], t.po + 1, t.re⟩
def TS.hand (t : TS) (k : Int) : TS := ⟨t.st ++ [(("hand" : Str), k)], t.po, t.re + 1⟩
def TS.tell (t : TS) (k : Int) : TS := ⟨t.st ++ [(("tell" : Str), k)], t.po, t.re⟩
def TS.thr (t : TS) (k : Int) : TS := (t.send k).hand t.po
structure TrAt (K : PySem.W.Frag) (H : Hp) (p sl : Addr) (t : TS) : Prop where
  ins : ∃ dx, H p = some (.ins (He.ga K "Track") dx (flTrack sl t.po t.re))
  st : StepsAt H sl t.st
theorem TrAt.same {K : PySem.W.Frag} {H H1 : Hp} {p sl : Addr} {t : TS} (r : TrAt K H p sl t) (s : Same H H1) : TrAt K H1 p sl t := ⟨r.ins.elim fun dx e => ⟨dx, s _ _ e⟩, r.st.same s⟩
theorem TrAt.ne {K : PySem.W.Frag} {H : Hp} {p sl : Addr} {t : TS} (r : TrAt K H p sl t) : p ≠ sl := by
  obtain ⟨dx, e⟩ := r.ins
  obtain ⟨sx, e2, _⟩ := r.st
  exact ne_of_obj e e2 (by simp)
/-- a step is put at the end -/
theorem steps_push {H : Hp} {sl q : Addr} {st : List (Str × Int)} {z : Str} {n : Int} (h : StepsAt H sl st) (nq : H q = none) : ∃ sx, (upd H q (.tup [.str z, .int n])) sl = some (.lst sx) ∧ sx.length = st.length ∧ StepsAt (upd (upd H q (.tup [.str z, .int n])) sl (.lst (sx ++ [.ref q]))) sl (st ++ [(z, n)]) := by
  obtain ⟨sx, e, al⟩ := h
  have s1 : Same H (upd H q (.tup [.str z, .int n])) := same_new nq
  have eq : (upd H q (.tup [.str z, .int n])) q = some (.tup [.str z, .int n]) := upd_same
  have nsq : sl ≠ q := ne_of_none e nq
  refine ⟨sx, s1 _ _ e, al.length.symm, _, upd_same, ?_⟩
  have f : Fr [sl] (upd H q (.tup [.str z, .int n])) (upd (upd H q (.tup [.str z, .int n])) sl (.lst (sx ++ [.ref q]))) := (Fr.refl _ _).upd (by simp)
  have nt : ∀ x ∈ [sl], ∀ xs, (upd H q (.tup [.str z, .int n])) x ≠ some (.tup xs) := fun x hx xs => by
    rw [List.mem_singleton.mp hx, s1 _ _ e]
    simp
  exact ((al.mono fun _ _ ⟨a, e, h⟩ => ⟨a, e, s1 _ _ h⟩).mono fun _ _ => StepAt.fr f nt).snoc ⟨q, rfl, f _ _ (by simpa using Ne.symm nsq) eq⟩
abbrev s_Track_init : Stmt := inClass (top 33) 0
abbrev N_Track_init : List Str := ["self"]
theorem sc_Track_init : FnScope N_Track_init ["self"] (defScope s_Track_init) := ⟨rfl, rfl, rfl, by decide +kernel, rfl, by decide +kernel, by decide +kernel⟩
def sp_Track_init (K : PySem.W.Frag) : Sp := fun vs H Q _ => ∃ p dx, vs = [.ref p] ∧ H p = some (.ins (He.ga K "Track") dx []) ∧ ∀ sl H', H sl = none → Fr [p] H H' → TrAt K H' p sl ⟨[], 0, 0⟩ → Q .non H'
theorem ok_Track_init {P : Program} {w : World} {K : PySem.W.Frag} {mg : Str → Option Value} {base : Heap} (F : FnP K ("Track", some "__init__") "__init__" "Track.__init__" s_Track_init) (hm : mg "Track" = some (.ref (He.ga K "Track"))) (hmk : Mk K (He.ga K "Track") (He.ma K (He.ga K "Track") "__init__")) (bl : Blt mg) (hTrack : TrackF K) : KCal P w K mg base 1 "Track" (He.ga K "Track") (sp_Track_init K) := by
  refine fn_kcal F hm hmk sc_Track_init (fun vs H Q E => by walk_at "len") (fun _ _ _ _ _ _ us hl => match us, hl with | [_], _ => rfl) (fun f cdv A outer s H vs Q E hr h => ?_)
  have hu := hu_of hr
  obtain ⟨p, dx, rfl, hp, q⟩ := h
  refine ⟨_, (pss_cons (ps_fld (pv 0) (pe_lst pa_nil) rfl)
  (pss_cons (ps_fld (pv 0) pe_int rfl)
  (pss_one (ps_fld (pv 0) pe_int rfl)))), ?_⟩
  walk_at "st0"
  refine seq_gen fun N_a h_a => ?_
  simp only [RDa, RDb, RDv, RDk, RDx, RDe, RDd, RDp, RDq, List.getElem?_cons_zero, List.getElem?_cons_succ, List.set_cons_zero, List.set_cons_succ, List.cons.injEq, List.cons_ne_nil, reduceCtorEq, exists_eq_left', exists_eq_left, exists_and_left, and_assoc, exists_const, true_and, and_true, if_true, if_false, false_and, and_false, exists_false, false_or, or_false, true_implies, false_implies, implies_true, forall_eq, forall_eq', Bool.false_eq_true, if_neg, decide_eq_true_eq, Bool.not_eq_true', decide_eq_false_iff_not, Bool.not_true, Bool.not_false, List.length_cons, List.length_nil, sizeLine_eq, Nat.reduceAdd, Nat.reduceLeDiff, Nat.reduceLT, Int.reduceLT, Int.reduceLE, Int.emod_nonneg, ne_eq, Int.reduceEq, not_false_eq_true, not_true_eq_false, hTrack, TrackI, hp, upd_same, upd_upd]
  intro sl nsl
  have e1 : p ≠ sl := ne_of_none hp nsl
  refine ⟨_, dx, _, (upd_ne e1).trans hp, hTrack.1, hTrack.2.1, by simp, ?_⟩
  simp only [RDa, RDb, RDv, RDk, RDx, RDe, RDd, RDp, RDq, List.getElem?_cons_zero, List.getElem?_cons_succ, List.set_cons_zero, List.set_cons_succ, List.cons.injEq, List.cons_ne_nil, reduceCtorEq, exists_eq_left', exists_eq_left, exists_and_left, and_assoc, exists_const, true_and, and_true, if_true, if_false, false_and, and_false, exists_false, false_or, or_false, true_implies, false_implies, implies_true, forall_eq, forall_eq', Bool.false_eq_true, if_neg, decide_eq_true_eq, Bool.not_eq_true', decide_eq_false_iff_not, Bool.not_true, Bool.not_false, List.length_cons, List.length_nil, sizeLine_eq, Nat.reduceAdd, Nat.reduceLeDiff, Nat.reduceLT, Int.reduceLT, Int.reduceLE, Int.emod_nonneg, ne_eq, Int.reduceEq, not_false_eq_true, not_true_eq_false, TrackI]
  refine h_a _ _ ?_
  clear h_a
  simp only [RDa, RDb, RDv, RDk, RDx, RDe, RDd, RDp, RDq, List.getElem?_cons_zero, List.getElem?_cons_succ, List.set_cons_zero, List.set_cons_succ, List.cons.injEq, List.cons_ne_nil, reduceCtorEq, exists_eq_left', exists_eq_left, exists_and_left, and_assoc, exists_const, true_and, and_true, if_true, if_false, false_and, and_false, exists_false, false_or, or_false, true_implies, false_implies, implies_true, forall_eq, forall_eq', Bool.false_eq_true, if_neg, decide_eq_true_eq, Bool.not_eq_true', decide_eq_false_iff_not, Bool.not_true, Bool.not_false, List.length_cons, List.length_nil, sizeLine_eq, Nat.reduceAdd, Nat.reduceLeDiff, Nat.reduceLT, Int.reduceLT, Int.reduceLE, Int.emod_nonneg, ne_eq, Int.reduceEq, not_false_eq_true, not_true_eq_false, hTrack, TrackI, upd_same, upd_upd]
  exact q sl _ nsl (((Fr.refl _ _).new nsl).upd (by simp)) ⟨⟨dx, upd_same⟩, [], (upd_ne (Ne.symm e1)).trans upd_same, .nil⟩
theorem steps_ins {H : Hp} {p sl : Addr} {o o' : HO} {st : List (Str × Int)} (h : StepsAt H sl st) (hp : H p = some o) (ho : ∀ xs, o ≠ .tup xs) (n : p ≠ sl) : StepsAt (upd H p o') sl st := by
  obtain ⟨sx, e, al⟩ := h
  refine ⟨sx, (upd_ne (Ne.symm n)).trans e, al.mono fun _ _ ⟨a, e, h⟩ => ⟨a, e, (upd_ne fun ea => ?_).trans h⟩⟩
  rw [ea, hp] at h
  exact ho _ (Option.some.inj h)
theorem mk_Track {K : PySem.W.Frag} {H : Hp} {Q : VK} {E : XK} (q : ∀ p sl H', H p = none → H sl = none → Same H H' → TrAt K H' p sl ⟨[], 0, 0⟩ → Q (.ref p) H') (x dx : Addr) (h1 : H x = none) (h2 : H dx = none) (h3 : ¬ dx = x) :
    sp_Track_init K [.ref x] (upd (upd H dx (.own x)) x (.ins (He.ga K "Track") dx [])) (fun v H2 => v = .non ∧ Q (.ref x) H2) E := by
  refine ⟨x, dx, rfl, upd_same, fun sl H' n1 f t => ⟨rfl, ?_⟩⟩
  have fresh : ∀ c, upd (upd H dx (.own x)) x (.ins (He.ga K "Track") dx []) c = none → H c = none := fun c n => by
    have e1 : c ≠ x := fun e => by rw [e, upd_same] at n; cases n
    rw [upd_ne e1] at n
    have e2 : c ≠ dx := fun e => by rw [e, upd_same] at n; cases n
    rw [upd_ne e2] at n
    exact n
  refine q x sl H' h1 (fresh _ n1) (fun c o e => ?_) t
  have e1 : c ≠ x := ne_of_none e h1
  have e2 : c ≠ dx := ne_of_none e h2
  exact f c o (by simpa using e1) (by rw [upd_ne e1, upd_ne e2]; exact e)
abbrev s_Track_send : Stmt := inClass (top 33) 1
abbrev N_Track_send : List Str := ["self", "k"]
theorem sc_Track_send : FnScope N_Track_send ["self", "k"] (defScope s_Track_send) := ⟨rfl, rfl, rfl, by decide +kernel, rfl, by decide +kernel, by decide +kernel⟩
def sp_Track_send (K : PySem.W.Frag) : Sp := fun vs H Q _ => ∃ (p sl : Addr) (t : TS) (k : Int), vs = [.ref p, .int k] ∧ TrAt K H p sl t ∧ t.st.length < 100000 ∧ ∀ H', Fr [p, sl] H H' → TrAt K H' p sl (t.send k) → Q (.int t.po) H'
theorem ok_Track_send {P : Program} {w : World} {K : PySem.W.Frag} {mg : Str → Option Value} {base : Heap} (F : FnP K ("Track", some "send") "send" "Track.send" s_Track_send) (hc : Cls K (He.ga K "Track")) (hm : Meth K (He.ga K "Track") "send" (He.ma K (He.ga K "Track") "send")) (bl : Blt mg) (hTrack : TrackF K) : MCal P w K mg base 1 (He.ga K "Track") "send" (sp_Track_send K) := by
  refine fn_mcal F hc hm sc_Track_send (fun vs H Q E => by walk_at "len") (fun _ _ _ _ _ _ us hl => match us, hl with | [_, _], _ => rfl) (fun f cdv A outer s H vs Q E hr h => ?_)
  have hu := hu_of hr
  obtain ⟨p, sl, t, k, rfl, tr, hl, q⟩ := h
  obtain ⟨dx, hp⟩ := tr.ins
  have npl := tr.ne
  obtain ⟨sx, hx, al⟩ := tr.st
  refine ⟨_, (pss_cons (ps_expr (pe_app (pe_fld (pv 0) rfl) (pe_tup (pa_cons pe_str (pa_cons (pv 1) pa_nil)))))
  (pss_cons (ps_fld (pv 0) (pe_op op_add (pe_fld (pv 0) rfl) pe_int) rfl)
  (pss_one (ps_ret (pe_op op_sub (pe_fld (pv 0) rfl) pe_int))))), ?_⟩
  walk_at "st0"
  simp only [RDa, RDb, RDv, RDk, RDx, RDe, RDd, RDp, RDq, List.getElem?_cons_zero, List.getElem?_cons_succ, List.set_cons_zero, List.set_cons_succ, List.cons.injEq, List.cons_ne_nil, reduceCtorEq, exists_eq_left', exists_eq_left, exists_and_left, and_assoc, exists_const, true_and, and_true, if_true, if_false, false_and, and_false, exists_false, false_or, or_false, true_implies, false_implies, implies_true, forall_eq, forall_eq', Bool.false_eq_true, if_neg, decide_eq_true_eq, Bool.not_eq_true', decide_eq_false_iff_not, Bool.not_true, Bool.not_false, List.length_cons, List.length_nil, sizeLine_eq, Nat.reduceAdd, Nat.reduceLeDiff, Nat.reduceLT, Int.reduceLT, Int.reduceLE, Int.emod_nonneg, ne_eq, Int.reduceEq, not_false_eq_true, not_true_eq_false, hTrack, TrackL, hp]
  refine ⟨_, hx, fun c nc => ?_⟩
  obtain ⟨sx2, e2, l2, st2⟩ := steps_push (z := "send") (n := k) tr.st nc
  refine ⟨_, e2, by omega, ?_⟩
  have hp2 : (upd (upd H c (.tup [.str "send", .int k])) sl (.lst (sx2 ++ [.ref c]))) p = _ := (upd_ne npl).trans ((upd_ne (ne_of_none hp nc)).trans hp)
  have f2 : Fr [p, sl] H (upd (upd H c (.tup [.str "send", .int k])) sl (.lst (sx2 ++ [.ref c]))) := ((Fr.refl _ _).new nc).upd (by simp)
  generalize upd (upd H c (.tup [.str "send", .int k])) sl (.lst (sx2 ++ [.ref c])) = H2 at st2 hp2 f2
  simp only [RDa, RDb, RDv, RDk, RDx, RDe, RDd, RDp, RDq, List.getElem?_cons_zero, List.getElem?_cons_succ, List.set_cons_zero, List.set_cons_succ, List.cons.injEq, List.cons_ne_nil, reduceCtorEq, exists_eq_left', exists_eq_left, exists_and_left, and_assoc, exists_const, true_and, and_true, if_true, if_false, false_and, and_false, exists_false, false_or, or_false, true_implies, false_implies, implies_true, forall_eq, forall_eq', Bool.false_eq_true, if_neg, decide_eq_true_eq, Bool.not_eq_true', decide_eq_false_iff_not, Bool.not_true, Bool.not_false, List.length_cons, List.length_nil, sizeLine_eq, Nat.reduceAdd, Nat.reduceLeDiff, Nat.reduceLT, Int.reduceLT, Int.reduceLE, Int.emod_nonneg, ne_eq, Int.reduceEq, not_false_eq_true, not_true_eq_false, hTrack, TrackL, hp2, upd_same]
  rw [show t.po + 1 - 1 = t.po by omega]
  exact q _ (f2.upd (by simp)) ⟨⟨dx, upd_same⟩, steps_ins st2 hp2 (fun _ => by simp) npl⟩
abbrev s_Track_hand : Stmt := inClass (top 33) 2
abbrev N_Track_hand : List Str := ["self", "number"]
theorem sc_Track_hand : FnScope N_Track_hand ["self", "number"] (defScope s_Track_hand) := ⟨rfl, rfl, rfl, by decide +kernel, rfl, by decide +kernel, by decide +kernel⟩
def sp_Track_hand (K : PySem.W.Frag) : Sp := fun vs H Q _ => ∃ (p sl : Addr) (t : TS) (k : Int), vs = [.ref p, .int k] ∧ TrAt K H p sl t ∧ t.st.length < 100000 ∧ ∀ H', Fr [p, sl] H H' → TrAt K H' p sl (t.hand k) → Q (.int t.re) H'
theorem ok_Track_hand {P : Program} {w : World} {K : PySem.W.Frag} {mg : Str → Option Value} {base : Heap} (F : FnP K ("Track", some "hand") "hand" "Track.hand" s_Track_hand) (hc : Cls K (He.ga K "Track")) (hm : Meth K (He.ga K "Track") "hand" (He.ma K (He.ga K "Track") "hand")) (bl : Blt mg) (hTrack : TrackF K) : MCal P w K mg base 1 (He.ga K "Track") "hand" (sp_Track_hand K) := by
  refine fn_mcal F hc hm sc_Track_hand (fun vs H Q E => by walk_at "len") (fun _ _ _ _ _ _ us hl => match us, hl with | [_, _], _ => rfl) (fun f cdv A outer s H vs Q E hr h => ?_)
  have hu := hu_of hr
  obtain ⟨p, sl, t, k, rfl, tr, hl, q⟩ := h
  obtain ⟨dx, hp⟩ := tr.ins
  have npl := tr.ne
  obtain ⟨sx, hx, al⟩ := tr.st
  refine ⟨_, (pss_cons (ps_expr (pe_app (pe_fld (pv 0) rfl) (pe_tup (pa_cons pe_str (pa_cons (pv 1) pa_nil)))))
  (pss_cons (ps_fld (pv 0) (pe_op op_add (pe_fld (pv 0) rfl) pe_int) rfl)
  (pss_one (ps_ret (pe_op op_sub (pe_fld (pv 0) rfl) pe_int))))), ?_⟩
  walk_at "st0"
  simp only [RDa, RDb, RDv, RDk, RDx, RDe, RDd, RDp, RDq, List.getElem?_cons_zero, List.getElem?_cons_succ, List.set_cons_zero, List.set_cons_succ, List.cons.injEq, List.cons_ne_nil, reduceCtorEq, exists_eq_left', exists_eq_left, exists_and_left, and_assoc, exists_const, true_and, and_true, if_true, if_false, false_and, and_false, exists_false, false_or, or_false, true_implies, false_implies, implies_true, forall_eq, forall_eq', Bool.false_eq_true, if_neg, decide_eq_true_eq, Bool.not_eq_true', decide_eq_false_iff_not, Bool.not_true, Bool.not_false, List.length_cons, List.length_nil, sizeLine_eq, Nat.reduceAdd, Nat.reduceLeDiff, Nat.reduceLT, Int.reduceLT, Int.reduceLE, Int.emod_nonneg, ne_eq, Int.reduceEq, not_false_eq_true, not_true_eq_false, hTrack, TrackL, hp]
  refine ⟨_, hx, fun c nc => ?_⟩
  obtain ⟨sx2, e2, l2, st2⟩ := steps_push (z := "hand") (n := k) tr.st nc
  refine ⟨_, e2, by omega, ?_⟩
  have hp2 : (upd (upd H c (.tup [.str "hand", .int k])) sl (.lst (sx2 ++ [.ref c]))) p = _ := (upd_ne npl).trans ((upd_ne (ne_of_none hp nc)).trans hp)
  have f2 : Fr [p, sl] H (upd (upd H c (.tup [.str "hand", .int k])) sl (.lst (sx2 ++ [.ref c]))) := ((Fr.refl _ _).new nc).upd (by simp)
  generalize upd (upd H c (.tup [.str "hand", .int k])) sl (.lst (sx2 ++ [.ref c])) = H2 at st2 hp2 f2
  simp only [RDa, RDb, RDv, RDk, RDx, RDe, RDd, RDp, RDq, List.getElem?_cons_zero, List.getElem?_cons_succ, List.set_cons_zero, List.set_cons_succ, List.cons.injEq, List.cons_ne_nil, reduceCtorEq, exists_eq_left', exists_eq_left, exists_and_left, and_assoc, exists_const, true_and, and_true, if_true, if_false, false_and, and_false, exists_false, false_or, or_false, true_implies, false_implies, implies_true, forall_eq, forall_eq', Bool.false_eq_true, if_neg, decide_eq_true_eq, Bool.not_eq_true', decide_eq_false_iff_not, Bool.not_true, Bool.not_false, List.length_cons, List.length_nil, sizeLine_eq, Nat.reduceAdd, Nat.reduceLeDiff, Nat.reduceLT, Int.reduceLT, Int.reduceLE, Int.emod_nonneg, ne_eq, Int.reduceEq, not_false_eq_true, not_true_eq_false, hTrack, TrackL, hp2, upd_same]
  rw [show t.re + 1 - 1 = t.re by omega]
  exact q _ (f2.upd (by simp)) ⟨⟨dx, upd_same⟩, steps_ins st2 hp2 (fun _ => by simp) npl⟩
abbrev s_Track_tell : Stmt := inClass (top 33) 4
abbrev N_Track_tell : List Str := ["self", "number"]
theorem sc_Track_tell : FnScope N_Track_tell ["self", "number"] (defScope s_Track_tell) := ⟨rfl, rfl, rfl, by decide +kernel, rfl, by decide +kernel, by decide +kernel⟩
def sp_Track_tell (K : PySem.W.Frag) : Sp := fun vs H Q _ => ∃ (p sl : Addr) (t : TS) (k : Int), vs = [.ref p, .int k] ∧ TrAt K H p sl t ∧ t.st.length < 100000 ∧ ∀ H', Fr [p, sl] H H' → TrAt K H' p sl (t.tell k) → Q .non H'
theorem ok_Track_tell {P : Program} {w : World} {K : PySem.W.Frag} {mg : Str → Option Value} {base : Heap} (F : FnP K ("Track", some "tell") "tell" "Track.tell" s_Track_tell) (hc : Cls K (He.ga K "Track")) (hm : Meth K (He.ga K "Track") "tell" (He.ma K (He.ga K "Track") "tell")) (bl : Blt mg) (hTrack : TrackF K) : MCal P w K mg base 1 (He.ga K "Track") "tell" (sp_Track_tell K) := by
  refine fn_mcal F hc hm sc_Track_tell (fun vs H Q E => by walk_at "len") (fun _ _ _ _ _ _ us hl => match us, hl with | [_, _], _ => rfl) (fun f cdv A outer s H vs Q E hr h => ?_)
  have hu := hu_of hr
  obtain ⟨p, sl, t, k, rfl, tr, hl, q⟩ := h
  obtain ⟨dx, hp⟩ := tr.ins
  have npl := tr.ne
  obtain ⟨sx, hx, al⟩ := tr.st
  refine ⟨_, (pss_one (ps_expr (pe_app (pe_fld (pv 0) rfl) (pe_tup (pa_cons pe_str (pa_cons (pv 1) pa_nil)))))), ?_⟩
  walk_at "st0"
  simp only [RDa, RDb, RDv, RDk, RDx, RDe, RDd, RDp, RDq, List.getElem?_cons_zero, List.getElem?_cons_succ, List.set_cons_zero, List.set_cons_succ, List.cons.injEq, List.cons_ne_nil, reduceCtorEq, exists_eq_left', exists_eq_left, exists_and_left, and_assoc, exists_const, true_and, and_true, if_true, if_false, false_and, and_false, exists_false, false_or, or_false, true_implies, false_implies, implies_true, forall_eq, forall_eq', Bool.false_eq_true, if_neg, decide_eq_true_eq, Bool.not_eq_true', decide_eq_false_iff_not, Bool.not_true, Bool.not_false, List.length_cons, List.length_nil, sizeLine_eq, Nat.reduceAdd, Nat.reduceLeDiff, Nat.reduceLT, Int.reduceLT, Int.reduceLE, Int.emod_nonneg, ne_eq, Int.reduceEq, not_false_eq_true, not_true_eq_false, hTrack, TrackL, hp]
  refine ⟨_, hx, fun c nc => ?_⟩
  obtain ⟨sx2, e2, l2, st2⟩ := steps_push (z := "tell") (n := k) tr.st nc
  refine ⟨_, e2, by omega, ?_⟩
  have hp2 : (upd (upd H c (.tup [.str "tell", .int k])) sl (.lst (sx2 ++ [.ref c]))) p = _ := (upd_ne npl).trans ((upd_ne (ne_of_none hp nc)).trans hp)
  have f2 : Fr [p, sl] H (upd (upd H c (.tup [.str "tell", .int k])) sl (.lst (sx2 ++ [.ref c]))) := ((Fr.refl _ _).new nc).upd (by simp)
  generalize upd (upd H c (.tup [.str "tell", .int k])) sl (.lst (sx2 ++ [.ref c])) = H2 at st2 hp2 f2
  exact q _ f2 ⟨⟨dx, hp2⟩, st2⟩
abbrev s_Track_through : Stmt := inClass (top 33) 3
abbrev N_Track_through : List Str := ["self", "k"]
theorem sc_Track_through : FnScope N_Track_through ["self", "k"] (defScope s_Track_through) := ⟨rfl, rfl, rfl, by decide +kernel, rfl, by decide +kernel, by decide +kernel⟩
def sp_Track_through (K : PySem.W.Frag) : Sp := fun vs H Q _ => ∃ (p sl : Addr) (t : TS) (k : Int), vs = [.ref p, .int k] ∧ TrAt K H p sl t ∧ t.st.length < 90000 ∧ ∀ H', Fr [p, sl] H H' → TrAt K H' p sl (t.thr k) → Q (.int t.re) H'
theorem ok_Track_through {P : Program} {w : World} {K : PySem.W.Frag} {mg : Str → Option Value} {base : Heap} (F : FnP K ("Track", some "through") "through" "Track.through" s_Track_through) (hc : Cls K (He.ga K "Track")) (hm : Meth K (He.ga K "Track") "through" (He.ma K (He.ga K "Track") "through")) (bl : Blt mg) (hTrack : TrackF K) (m_Track_hand : MCal P w K mg base 1 (He.ga K "Track") "hand" (sp_Track_hand K)) (m_Track_send : MCal P w K mg base 1 (He.ga K "Track") "send" (sp_Track_send K)) : MCal P w K mg base 2 (He.ga K "Track") "through" (sp_Track_through K) := by
  refine fn_mcal F hc hm sc_Track_through (fun vs H Q E => by walk_at "len") (fun _ _ _ _ _ _ us hl => match us, hl with | [_, _], _ => rfl) (fun f cdv A outer s H vs Q E hr h => ?_)
  have hu := hu_of hr
  obtain ⟨p, sl, t, k, rfl, tr, hl, q⟩ := h
  obtain ⟨dx, hp⟩ := tr.ins
  refine ⟨_, (pss_one (ps_ret (pe_mth (pv 0) m_Track_hand (hr.mono (by decide)) (L2N.takes_of rfl rfl rfl rfl) (pa_cons (pe_mth (pv 0) m_Track_send (hr.mono (by decide)) (L2N.takes_of rfl rfl rfl rfl) (pa_cons (pv 1) pa_nil)) pa_nil)))), ?_⟩
  walk_at "st0"
  simp only [RDa, RDb, RDv, RDk, RDx, RDe, RDd, RDp, RDq, List.getElem?_cons_zero, List.getElem?_cons_succ, List.set_cons_zero, List.set_cons_succ, List.cons.injEq, List.cons_ne_nil, reduceCtorEq, exists_eq_left', exists_eq_left, exists_and_left, and_assoc, exists_const, true_and, and_true, if_true, if_false, false_and, and_false, exists_false, false_or, or_false, true_implies, false_implies, implies_true, forall_eq, forall_eq', Bool.false_eq_true, if_neg, decide_eq_true_eq, Bool.not_eq_true', decide_eq_false_iff_not, Bool.not_true, Bool.not_false, List.length_cons, List.length_nil, sizeLine_eq, Nat.reduceAdd, Nat.reduceLeDiff, Nat.reduceLT, Int.reduceLT, Int.reduceLE, Int.emod_nonneg, ne_eq, Int.reduceEq, not_false_eq_true, not_true_eq_false, hTrack, TrackL, hp]
  refine ⟨p, sl, t, k, rfl, tr, by omega, fun H1 f1 tr1 => ?_⟩
  refine ⟨p, sl, t.send k, t.po, rfl, tr1, ?_, fun H2 f2 tr2 => q _ (f1.trans f2) tr2⟩
  show (t.st ++ [_]).length < 100000
  rw [List.length_append]
  show t.st.length + 1 < _
  omega
end RP

namespace RP
open PySem PySem.Spec PyProof.Rows L2 L2H
/-- so many texts through, and told -/
def thrs (t : TS) (k : Int) : Nat → TS
  | 0 => t
  | n + 1 => (thrs t k n).thr (k + n)
def thrTells (t : TS) (k : Int) : Nat → TS
  | 0 => t
  | n + 1 => ((thrTells t k n).thr (k + n)).tell (thrTells t k n).re
def sends (t : TS) (k : Int) : Nat → TS
  | 0 => t
  | n + 1 => (sends t k n).send (k + n)
def t0S : TS := ⟨[], 0, 0⟩
theorem thr_len (t : TS) (k : Int) : (t.thr k).st.length = t.st.length + 2 := by
  show ((t.st ++ [_]) ++ [_]).length = _
  rw [List.length_append, List.length_append]
  rfl
theorem tell_len (t : TS) (k : Int) : (t.tell k).st.length = t.st.length + 1 := by
  show (t.st ++ [_]).length = _
  rw [List.length_append]
  rfl
theorem send_len (t : TS) (k : Int) : (t.send k).st.length = t.st.length + 1 := by
  show (t.st ++ [_]).length = _
  rw [List.length_append]
  rfl
theorem thrs_len (t : TS) (k : Int) : ∀ n, (thrs t k n).st.length = t.st.length + 2 * n
  | 0 => rfl
  | n + 1 => by
    show ((thrs t k n).thr _).st.length = _
    rw [thr_len, thrs_len t k n]
    omega
theorem thrTells_len (t : TS) (k : Int) : ∀ n, (thrTells t k n).st.length = t.st.length + 3 * n
  | 0 => rfl
  | n + 1 => by
    show (((thrTells t k n).thr _).tell _).st.length = _
    rw [tell_len, thr_len, thrTells_len t k n]
    omega
theorem sends_len (t : TS) (k : Int) : ∀ n, (sends t k n).st.length = t.st.length + n
  | 0 => rfl
  | n + 1 => by
    show ((sends t k n).send _).st.length = _
    rw [send_len, sends_len t k n]
    omega
def bal (w d N : Int) : TS :=
  thrs ((if w < N then thrTells (((thrs t0S 0 (mn2 w (mn2 N (w + d))).toNat).send 0).tell ((thrs t0S 0 (mn2 w (mn2 N (w + d))).toNat).re - 1)) (mn2 w (mn2 N (w + d))) (mn2 N (w + d) - mn2 w (mn2 N (w + d))).toNat
    else (thrs t0S 0 (mn2 w (mn2 N (w + d))).toNat).send 0).hand (thrs t0S 0 (mn2 w (mn2 N (w + d))).toNat).po) (mn2 N (w + d)) (N - mn2 N (w + d)).toNat
abbrev s_by_a_letter : Stmt := top 34
abbrev N_by_a_letter : List Str := ["window", "delay", "ring", "track", "gap", "first", "k", "old"]
theorem sc_by_a_letter : FnScope N_by_a_letter ["window", "delay", "ring"] (defScope s_by_a_letter) := ⟨rfl, rfl, rfl, by decide +kernel, rfl, by decide +kernel, by decide +kernel⟩
def sp_by_a_letter (K : PySem.W.Frag) : Sp := fun vs H Q E => ∃ w d N : Int, vs = [.int w, .int d, .int N] ∧ 1 ≤ w ∧ w ≤ 20 ∧ 0 ≤ d ∧ d ≤ 20 ∧ 1 ≤ N ∧ N ≤ 200 ∧ ∀ l H', H l = none → Same H H' → StepsAt H' l (bal w d N).st → Q (.ref l) H'
theorem ok_by_a_letter {P : Program} {w : World} {K : PySem.W.Frag} {mg : Str → Option Value} {base : Heap} (F : FnP K ("by_a_letter", none) "by_a_letter" "by_a_letter" s_by_a_letter) (hm : mg "by_a_letter" = some (.ref (He.ga K "by_a_letter"))) (bl : Blt mg) (hTrack : TrackF K) (m_Track_hand : MCal P w K mg base 1 (He.ga K "Track") "hand" (sp_Track_hand K)) (c_Track : KCal P w K mg base 1 "Track" (He.ga K "Track") (sp_Track_init K)) (m_Track_send : MCal P w K mg base 1 (He.ga K "Track") "send" (sp_Track_send K)) (m_Track_tell : MCal P w K mg base 1 (He.ga K "Track") "tell" (sp_Track_tell K)) (m_Track_through : MCal P w K mg base 2 (He.ga K "Track") "through" (sp_Track_through K)) : Cal P w K mg base 3 "by_a_letter" (sp_by_a_letter K) := by
  refine fn_cal F hm sc_by_a_letter (fun vs H Q E => by walk_at "len") (fun _ _ _ _ _ _ us hl => match us, hl with | [_, _, _], _ => rfl) (fun f cdv A outer s H vs Q E hr h => ?_)
  have hu := hu_of hr
  obtain ⟨w', d, N, rfl, w1, w2, d1, d2, n1, n2, q⟩ := h
  refine ⟨_, (pss_cons (ps_set (i := 3) sc_by_a_letter.nd rfl (Or.inl rfl) (pe_mk0 c_Track (hr.mono (by decide)) (L2N.takes_of rfl rfl rfl rfl)))
  (pss_cons (ps_set (i := 4) sc_by_a_letter.nd rfl (Or.inl rfl) (pe_callB (call_min2 rfl) (by rfl) (bl.min) (by decide +kernel) (pa_cons (pv 2) (pa_cons (pe_op op_add (pv 0) (pv 1)) pa_nil))))
  (pss_cons (ps_set (i := 5) sc_by_a_letter.nd rfl (Or.inl rfl) (pe_callB (call_min2 rfl) (by rfl) (bl.min) (by decide +kernel) (pa_cons (pv 0) (pa_cons (pv 4) pa_nil))))
  (pss_cons (ps_for (passes_of rfl) rfl (pi_range1 rfl (bl.range) (pa_cons (pv 5) pa_nil)) (pg_name (i := 6) sc_by_a_letter.nd rfl (Or.inl rfl))
  (pss_one (ps_expr (pe_mth (pv 3) m_Track_through (hr.mono (by decide)) (L2N.takes_of rfl rfl rfl rfl) (pa_cons (pv 6) pa_nil)))))
  (pss_cons (ps_set (i := 7) sc_by_a_letter.nd rfl (Or.inl rfl) (pe_mth (pv 3) m_Track_send (hr.mono (by decide)) (L2N.takes_of rfl rfl rfl rfl) (pa_cons pe_int pa_nil)))
  (pss_cons (ps_if (pt_cmpR op_gt (pv 2) (pv 0) (nomark _))
  (pss_cons (ps_expr (pe_mth (pv 3) m_Track_tell (hr.mono (by decide)) (L2N.takes_of rfl rfl rfl rfl) (pa_cons (pe_op op_sub (pe_fld (pv 3) rfl) pe_int) pa_nil)))
  (pss_one (ps_for (passes_of rfl) rfl (pi_range2 rfl (bl.range) (pa_cons (pv 5) (pa_cons (pv 4) pa_nil))) (pg_name (i := 6) sc_by_a_letter.nd rfl (Or.inl rfl))
  (pss_one (ps_expr (pe_mth (pv 3) m_Track_tell (hr.mono (by decide)) (L2N.takes_of rfl rfl rfl rfl) (pa_cons (pe_mth (pv 3) m_Track_through (hr.mono (by decide)) (L2N.takes_of rfl rfl rfl rfl) (pa_cons (pv 6) pa_nil)) pa_nil)))))))
  pss_nil)
  (pss_cons (ps_expr (pe_mth (pv 3) m_Track_hand (hr.mono (by decide)) (L2N.takes_of rfl rfl rfl rfl) (pa_cons (pv 7) pa_nil)))
  (pss_cons (ps_for (passes_of rfl) rfl (pi_range2 rfl (bl.range) (pa_cons (pv 4) (pa_cons (pv 2) pa_nil))) (pg_name (i := 6) sc_by_a_letter.nd rfl (Or.inl rfl))
  (pss_one (ps_expr (pe_mth (pv 3) m_Track_through (hr.mono (by decide)) (L2N.takes_of rfl rfl rfl rfl) (pa_cons (pv 6) pa_nil)))))
  (pss_one (ps_ret (pe_fld (pv 3) rfl))))))))))), ?_⟩
  walk_at "st0"
  refine seq_gen fun N_a h_a => ?_
  simp only [RDa, RDb, RDv, RDk, RDx, RDe, RDd, RDp, RDq, List.getElem?_cons_zero, List.getElem?_cons_succ, List.set_cons_zero, List.set_cons_succ, List.cons.injEq, List.cons_ne_nil, reduceCtorEq, exists_eq_left', exists_eq_left, exists_and_left, and_assoc, exists_const, true_and, and_true, if_true, if_false, false_and, and_false, exists_false, false_or, or_false, true_implies, false_implies, implies_true, forall_eq, forall_eq', Bool.false_eq_true, if_neg, decide_eq_true_eq, Bool.not_eq_true', decide_eq_false_iff_not, Bool.not_true, Bool.not_false, List.length_cons, List.length_nil, sizeLine_eq, Nat.reduceAdd, Nat.reduceLeDiff, Nat.reduceLT, Int.reduceLT, Int.reduceLE, Int.emod_nonneg, ne_eq, Int.reduceEq, not_false_eq_true, not_true_eq_false]
  refine mk_Track (Q := fun v H => N_a [some (.int w'), some (.int d), some (.int N), some v, none, none, none, none] H) fun p sl H1 np nsl s1 tr1 => h_a _ _ ?_
  clear h_a
  have em : ∀ i j : Int, (if j < i then j else i) = mn2 i j := fun _ _ => rfl
  refine seq_gen fun N_b h_b => ?_
  simp only [RDa, RDb, RDv, RDk, RDx, RDe, RDd, RDp, RDq, List.getElem?_cons_zero, List.getElem?_cons_succ, List.set_cons_zero, List.set_cons_succ, List.cons.injEq, List.cons_ne_nil, reduceCtorEq, exists_eq_left', exists_eq_left, exists_and_left, and_assoc, exists_const, true_and, and_true, if_true, if_false, false_and, and_false, exists_false, false_or, or_false, true_implies, false_implies, implies_true, forall_eq, forall_eq', Bool.false_eq_true, if_neg, decide_eq_true_eq, Bool.not_eq_true', decide_eq_false_iff_not, Bool.not_true, Bool.not_false, List.length_cons, List.length_nil, sizeLine_eq, Nat.reduceAdd, Nat.reduceLeDiff, Nat.reduceLT, Int.reduceLT, Int.reduceLE, Int.emod_nonneg, ne_eq, Int.reduceEq, not_false_eq_true, not_true_eq_false, em]
  refine h_b _ _ ?_
  clear h_b
  refine seq_gen fun N_c h_c => ?_
  simp only [RDa, RDb, RDv, RDk, RDx, RDe, RDd, RDp, RDq, List.getElem?_cons_zero, List.getElem?_cons_succ, List.set_cons_zero, List.set_cons_succ, List.cons.injEq, List.cons_ne_nil, reduceCtorEq, exists_eq_left', exists_eq_left, exists_and_left, and_assoc, exists_const, true_and, and_true, if_true, if_false, false_and, and_false, exists_false, false_or, or_false, true_implies, false_implies, implies_true, forall_eq, forall_eq', Bool.false_eq_true, if_neg, decide_eq_true_eq, Bool.not_eq_true', decide_eq_false_iff_not, Bool.not_true, Bool.not_false, List.length_cons, List.length_nil, sizeLine_eq, Nat.reduceAdd, Nat.reduceLeDiff, Nat.reduceLT, Int.reduceLT, Int.reduceLE, Int.emod_nonneg, ne_eq, Int.reduceEq, not_false_eq_true, not_true_eq_false, em]
  refine h_c _ _ ?_
  clear h_c
  obtain ⟨gap, eg⟩ : ∃ g, g = mn2 N (w' + d) := ⟨_, rfl⟩
  obtain ⟨first, ef⟩ : ∃ g, g = mn2 w' gap := ⟨_, rfl⟩
  have hgap := mn2_le.mp (Int.le_refl (mn2 N (w' + d)))
  have hgap0 : 1 ≤ mn2 N (w' + d) := mn2_le.mpr ⟨by omega, by omega⟩
  have hfst := mn2_le.mp (Int.le_refl (mn2 w' (mn2 N (w' + d))))
  have hfst0 : 1 ≤ mn2 w' (mn2 N (w' + d)) := mn2_le.mpr ⟨by omega, by omega⟩
  have q : ∀ l H', H l = none → Same H H' → StepsAt H' l (thrs ((if w' < N then thrTells (((thrs t0S 0 first.toNat).send 0).tell ((thrs t0S 0 first.toNat).re - 1)) first (gap - first).toNat else (thrs t0S 0 first.toNat).send 0).hand (thrs t0S 0 first.toNat).po) gap (N - gap).toNat).st → Q (.ref l) H' := by
    rw [ef, eg]
    exact q
  rw [← eg] at *
  rw [← ef] at *
  refine seq_rel (fun σ1 H' => (∃ u6, σ1 = [some (.int w'), some (.int d), some (.int N), some (.ref p), some (.int gap), some (.int first), u6, none]) ∧ Fr [p, sl] H1 H' ∧ TrAt K H' p sl (thrs t0S (0) (first).toNat)) (fun N_e h_e => ?_) ?_
  · refine for_rcut (0) (first).toNat (fun H' => H1 = H') (fun Z hZ => ?_) (fun i σ1 H' => (∃ u6, σ1 = [some (.int w'), some (.int d), some (.int N), some (.ref p), some (.int gap), some (.int first), u6, none]) ∧ Fr [p, sl] H1 H' ∧ TrAt K H' p sl (thrs t0S (0) i)) ?_ ?_ ?_
    · simp only [RDa, RDb, RDv, RDk, RDx, RDe, RDd, RDp, RDq, List.getElem?_cons_zero, List.getElem?_cons_succ, List.set_cons_zero, List.set_cons_succ, List.cons.injEq, List.cons_ne_nil, reduceCtorEq, exists_eq_left', exists_eq_left, exists_and_left, and_assoc, exists_const, true_and, and_true, if_true, if_false, false_and, and_false, exists_false, false_or, or_false, true_implies, false_implies, implies_true, forall_eq, forall_eq', Bool.false_eq_true, if_neg, decide_eq_true_eq, Bool.not_eq_true', decide_eq_false_iff_not, Bool.not_true, Bool.not_false, List.length_cons, List.length_nil, sizeLine_eq, Nat.reduceAdd, Nat.reduceLeDiff, Nat.reduceLT, Int.reduceLT, Int.reduceLE, Int.emod_nonneg, ne_eq, Int.reduceEq, not_false_eq_true, not_true_eq_false]
      exact ⟨by omega, by omega, hZ _ rfl⟩
    · rintro H' rfl
      exact ⟨⟨_, rfl⟩, .refl _ _, tr1⟩
    · rintro i σ1 H' hi ⟨⟨u6, rfl⟩, f', tr'⟩
      obtain ⟨dx', hp'⟩ := tr'.ins
      have hl' := thrs_len t0S (0) i
      simp only [RDa, RDb, RDv, RDk, RDx, RDe, RDd, RDp, RDq, List.getElem?_cons_zero, List.getElem?_cons_succ, List.set_cons_zero, List.set_cons_succ, List.cons.injEq, List.cons_ne_nil, reduceCtorEq, exists_eq_left', exists_eq_left, exists_and_left, and_assoc, exists_const, true_and, and_true, if_true, if_false, false_and, and_false, exists_false, false_or, or_false, true_implies, false_implies, implies_true, forall_eq, forall_eq', Bool.false_eq_true, if_neg, decide_eq_true_eq, Bool.not_eq_true', decide_eq_false_iff_not, Bool.not_true, Bool.not_false, List.length_cons, List.length_nil, sizeLine_eq, Nat.reduceAdd, Nat.reduceLeDiff, Nat.reduceLT, Int.reduceLT, Int.reduceLE, Int.emod_nonneg, ne_eq, Int.reduceEq, not_false_eq_true, not_true_eq_false, hTrack, TrackL, hp']
      refine ⟨p, sl, _, _, rfl, tr', by show (thrs t0S 0 i).st.length < 90000; rw [hl']; show 0 + 2 * i < _; omega, fun H2 f2 tr2 => ?_⟩
      have fin : Fr [p, sl] H1 H2 ∧ TrAt K H2 p sl (thrs t0S 0 (i + 1)) := ⟨f'.trans f2, tr2⟩
      first
      | exact fin
      | exact ⟨⟨_, rfl⟩, fin⟩
      | exact ⟨_, rfl, fin⟩
    · rintro σ1 H' ⟨⟨u6, rfl⟩, f', tr'⟩
      exact h_e _ _ ⟨⟨u6, rfl⟩, f', tr'⟩
  rintro _ H2 ⟨⟨u6, rfl⟩, f_H2, tr2⟩
  have hl2 := thrs_len t0S 0 first.toNat
  obtain ⟨T1, hT1⟩ : ∃ t, t = thrs t0S 0 first.toNat := ⟨_, rfl⟩
  rw [← hT1] at q tr2 hl2
  have hl2' : T1.st.length ≤ 40 := by rw [hl2]; show 0 + 2 * first.toNat ≤ 40; omega
  obtain ⟨dx2, hp2⟩ := tr2.ins
  refine seq_gen fun N_f h_f => ?_
  simp only [RDa, RDb, RDv, RDk, RDx, RDe, RDd, RDp, RDq, List.getElem?_cons_zero, List.getElem?_cons_succ, List.set_cons_zero, List.set_cons_succ, List.cons.injEq, List.cons_ne_nil, reduceCtorEq, exists_eq_left', exists_eq_left, exists_and_left, and_assoc, exists_const, true_and, and_true, if_true, if_false, false_and, and_false, exists_false, false_or, or_false, true_implies, false_implies, implies_true, forall_eq, forall_eq', Bool.false_eq_true, if_neg, decide_eq_true_eq, Bool.not_eq_true', decide_eq_false_iff_not, Bool.not_true, Bool.not_false, List.length_cons, List.length_nil, sizeLine_eq, Nat.reduceAdd, Nat.reduceLeDiff, Nat.reduceLT, Int.reduceLT, Int.reduceLE, Int.emod_nonneg, ne_eq, Int.reduceEq, not_false_eq_true, not_true_eq_false, hTrack, TrackL, hp2]
  refine ⟨p, sl, T1, 0, rfl, tr2, by omega, fun H3 f3 tr3 => h_f _ _ ?_⟩
  clear h_f
  have f_H3 := f_H2.trans f3
  have hl3 : (T1.send 0).st.length ≤ 41 := by rw [send_len]; omega
  obtain ⟨T3, eT3⟩ : ∃ t, t = (if w' < N then thrTells ((T1.send 0).tell (T1.re - 1)) first (gap - first).toNat else T1.send 0) := ⟨_, rfl⟩
  rw [← eT3] at q
  refine seq_rel (fun σ1 H' => (∃ u6, σ1 = [some (.int w'), some (.int d), some (.int N), some (.ref p), some (.int gap), some (.int first), u6, some (.int T1.po)]) ∧ Fr [p, sl] H1 H' ∧ TrAt K H' p sl T3 ∧ T3.st.length ≤ 200) (fun N_g h_g => ?_) ?_
  · obtain ⟨dx3, hp3⟩ := tr3.ins
    simp only [RDa, RDb, RDv, RDk, RDx, RDe, RDd, RDp, RDq, List.getElem?_cons_zero, List.getElem?_cons_succ, List.set_cons_zero, List.set_cons_succ, List.cons.injEq, List.cons_ne_nil, reduceCtorEq, exists_eq_left', exists_eq_left, exists_and_left, and_assoc, exists_const, true_and, and_true, if_true, if_false, false_and, and_false, exists_false, false_or, or_false, true_implies, false_implies, implies_true, forall_eq, forall_eq', Bool.false_eq_true, if_neg, decide_eq_true_eq, Bool.not_eq_true', decide_eq_false_iff_not, Bool.not_true, Bool.not_false, List.length_cons, List.length_nil, sizeLine_eq, Nat.reduceAdd, Nat.reduceLeDiff, Nat.reduceLT, Int.reduceLT, Int.reduceLE, Int.emod_nonneg, ne_eq, Int.reduceEq, not_false_eq_true, not_true_eq_false, hTrack, TrackL, hp3]
    split
    · rename_i c
      rw [if_pos c] at eT3
      refine ⟨p, sl, T1.send 0, _, rfl, tr3, by omega, fun H4 f4 tr4 => ?_⟩
      have f_H4 := f_H3.trans f4
      have tr4 : TrAt K H4 p sl ((T1.send 0).tell (T1.re - 1)) := tr4
      have hl4 : ((T1.send 0).tell (T1.re - 1)).st.length ≤ 42 := by rw [tell_len]; omega
      obtain ⟨T4, hT4⟩ : ∃ t, t = (T1.send 0).tell (T1.re - 1) := ⟨_, rfl⟩
      rw [← hT4] at eT3 tr4 hl4
      refine for_rcut first (gap - first).toNat (fun H' => H4 = H') (fun Z hZ => ?_) (fun i σ1 H' => (∃ u6, σ1 = [some (.int w'), some (.int d), some (.int N), some (.ref p), some (.int gap), some (.int first), u6, some (.int T1.po)]) ∧ Fr [p, sl] H1 H' ∧ TrAt K H' p sl (thrTells T4 first i)) ?_ ?_ ?_
      · simp only [RDa, RDb, RDv, RDk, RDx, RDe, RDd, RDp, RDq, List.getElem?_cons_zero, List.getElem?_cons_succ, List.set_cons_zero, List.set_cons_succ, List.cons.injEq, List.cons_ne_nil, reduceCtorEq, exists_eq_left', exists_eq_left, exists_and_left, and_assoc, exists_const, true_and, and_true, if_true, if_false, false_and, and_false, exists_false, false_or, or_false, true_implies, false_implies, implies_true, forall_eq, forall_eq', Bool.false_eq_true, if_neg, decide_eq_true_eq, Bool.not_eq_true', decide_eq_false_iff_not, Bool.not_true, Bool.not_false, List.length_cons, List.length_nil, sizeLine_eq, Nat.reduceAdd, Nat.reduceLeDiff, Nat.reduceLT, Int.reduceLT, Int.reduceLE, Int.emod_nonneg, ne_eq, Int.reduceEq, not_false_eq_true, not_true_eq_false]
        exact ⟨by omega, by omega, by omega, by omega, hZ _ rfl⟩
      · rintro H' rfl
        exact ⟨⟨_, rfl⟩, f_H4, tr4⟩
      · rintro i σ1 H' hi ⟨⟨u6, rfl⟩, f', tr'⟩
        obtain ⟨dx', hp'⟩ := tr'.ins
        have hl' := thrTells_len T4 first i
        simp only [RDa, RDb, RDv, RDk, RDx, RDe, RDd, RDp, RDq, List.getElem?_cons_zero, List.getElem?_cons_succ, List.set_cons_zero, List.set_cons_succ, List.cons.injEq, List.cons_ne_nil, reduceCtorEq, exists_eq_left', exists_eq_left, exists_and_left, and_assoc, exists_const, true_and, and_true, if_true, if_false, false_and, and_false, exists_false, false_or, or_false, true_implies, false_implies, implies_true, forall_eq, forall_eq', Bool.false_eq_true, if_neg, decide_eq_true_eq, Bool.not_eq_true', decide_eq_false_iff_not, Bool.not_true, Bool.not_false, List.length_cons, List.length_nil, sizeLine_eq, Nat.reduceAdd, Nat.reduceLeDiff, Nat.reduceLT, Int.reduceLT, Int.reduceLE, Int.emod_nonneg, ne_eq, Int.reduceEq, not_false_eq_true, not_true_eq_false, hTrack, TrackL, hp']
        refine ⟨p, sl, _, _, rfl, tr', by show (thrTells T4 first i).st.length < 90000; rw [hl']; omega, fun H6 f6 tr6 => ?_⟩
        refine ⟨p, sl, _, _, rfl, tr6, ?_, fun H7 f7 tr7 => ?_⟩
        · rw [thr_len, hl']
          omega
        have fin : Fr [p, sl] H1 H7 ∧ TrAt K H7 p sl (thrTells T4 first (i + 1)) := ⟨(f'.trans f6).trans f7, tr7⟩
        first
        | exact fin
        | exact ⟨⟨_, rfl⟩, fin⟩
        | exact ⟨_, rfl, fin⟩
      · rintro σ1 H' ⟨⟨u6, rfl⟩, f', tr'⟩
        have hl' := thrTells_len T4 first (gap - first).toNat
        rw [← eT3] at tr' hl'
        exact h_g _ _ ⟨⟨u6, rfl⟩, f', tr', by omega⟩
    · rename_i c
      rw [if_neg c] at eT3
      rw [← eT3] at tr3 hl3
      exact h_g _ _ ⟨⟨_, rfl⟩, f_H3, tr3, by omega⟩
  rintro _ H4 ⟨⟨u6', rfl⟩, f_H4, tr4, hl4⟩
  obtain ⟨dx4, hp4⟩ := tr4.ins
  refine seq_gen fun N_i h_i => ?_
  simp only [RDa, RDb, RDv, RDk, RDx, RDe, RDd, RDp, RDq, List.getElem?_cons_zero, List.getElem?_cons_succ, List.set_cons_zero, List.set_cons_succ, List.cons.injEq, List.cons_ne_nil, reduceCtorEq, exists_eq_left', exists_eq_left, exists_and_left, and_assoc, exists_const, true_and, and_true, if_true, if_false, false_and, and_false, exists_false, false_or, or_false, true_implies, false_implies, implies_true, forall_eq, forall_eq', Bool.false_eq_true, if_neg, decide_eq_true_eq, Bool.not_eq_true', decide_eq_false_iff_not, Bool.not_true, Bool.not_false, List.length_cons, List.length_nil, sizeLine_eq, Nat.reduceAdd, Nat.reduceLeDiff, Nat.reduceLT, Int.reduceLT, Int.reduceLE, Int.emod_nonneg, ne_eq, Int.reduceEq, not_false_eq_true, not_true_eq_false, hTrack, TrackL, hp4]
  refine ⟨p, sl, T3, T1.po, rfl, tr4, by omega, fun H5 f5 tr5 => h_i _ _ ?_⟩
  clear h_i
  have f_H5 := f_H4.trans f5
  have hl5 : (T3.hand T1.po).st.length ≤ 201 := by
    show (T3.st ++ [_]).length ≤ _
    rw [List.length_append]
    show T3.st.length + 1 ≤ _
    omega
  obtain ⟨T5, hT5⟩ : ∃ t, t = T3.hand T1.po := ⟨_, rfl⟩
  rw [← hT5] at q tr5 hl5
  refine seq_rel (fun σ1 H' => (∃ u6, σ1 = [some (.int w'), some (.int d), some (.int N), some (.ref p), some (.int gap), some (.int first), u6, some (.int T1.po)]) ∧ Fr [p, sl] H1 H' ∧ TrAt K H' p sl (thrs T5 (gap) (N - gap).toNat)) (fun N_j h_j => ?_) ?_
  · refine for_rcut (gap) (N - gap).toNat (fun H' => H5 = H') (fun Z hZ => ?_) (fun i σ1 H' => (∃ u6, σ1 = [some (.int w'), some (.int d), some (.int N), some (.ref p), some (.int gap), some (.int first), u6, some (.int T1.po)]) ∧ Fr [p, sl] H1 H' ∧ TrAt K H' p sl (thrs T5 (gap) i)) ?_ ?_ ?_
    · simp only [RDa, RDb, RDv, RDk, RDx, RDe, RDd, RDp, RDq, List.getElem?_cons_zero, List.getElem?_cons_succ, List.set_cons_zero, List.set_cons_succ, List.cons.injEq, List.cons_ne_nil, reduceCtorEq, exists_eq_left', exists_eq_left, exists_and_left, and_assoc, exists_const, true_and, and_true, if_true, if_false, false_and, and_false, exists_false, false_or, or_false, true_implies, false_implies, implies_true, forall_eq, forall_eq', Bool.false_eq_true, if_neg, decide_eq_true_eq, Bool.not_eq_true', decide_eq_false_iff_not, Bool.not_true, Bool.not_false, List.length_cons, List.length_nil, sizeLine_eq, Nat.reduceAdd, Nat.reduceLeDiff, Nat.reduceLT, Int.reduceLT, Int.reduceLE, Int.emod_nonneg, ne_eq, Int.reduceEq, not_false_eq_true, not_true_eq_false]
      exact ⟨by omega, by omega, by omega, by omega, hZ _ rfl⟩
    · rintro H' rfl
      exact ⟨⟨_, rfl⟩, f_H5, tr5⟩
    · rintro i σ1 H' hi ⟨⟨u6, rfl⟩, f', tr'⟩
      obtain ⟨dx', hp'⟩ := tr'.ins
      have hl' := thrs_len T5 (gap) i
      simp only [RDa, RDb, RDv, RDk, RDx, RDe, RDd, RDp, RDq, List.getElem?_cons_zero, List.getElem?_cons_succ, List.set_cons_zero, List.set_cons_succ, List.cons.injEq, List.cons_ne_nil, reduceCtorEq, exists_eq_left', exists_eq_left, exists_and_left, and_assoc, exists_const, true_and, and_true, if_true, if_false, false_and, and_false, exists_false, false_or, or_false, true_implies, false_implies, implies_true, forall_eq, forall_eq', Bool.false_eq_true, if_neg, decide_eq_true_eq, Bool.not_eq_true', decide_eq_false_iff_not, Bool.not_true, Bool.not_false, List.length_cons, List.length_nil, sizeLine_eq, Nat.reduceAdd, Nat.reduceLeDiff, Nat.reduceLT, Int.reduceLT, Int.reduceLE, Int.emod_nonneg, ne_eq, Int.reduceEq, not_false_eq_true, not_true_eq_false, hTrack, TrackL, hp']
      refine ⟨p, sl, _, _, rfl, tr', by show (thrs T5 gap i).st.length < 90000; rw [hl']; omega, fun H2 f2 tr2 => ?_⟩
      have fin : Fr [p, sl] H1 H2 ∧ TrAt K H2 p sl (thrs T5 gap (i + 1)) := ⟨f'.trans f2, tr2⟩
      first
      | exact fin
      | exact ⟨⟨_, rfl⟩, fin⟩
      | exact ⟨_, rfl, fin⟩
    · rintro σ1 H' ⟨⟨u6, rfl⟩, f', tr'⟩
      exact h_j _ _ ⟨⟨u6, rfl⟩, f', tr'⟩
  rintro _ H6 ⟨⟨u6'', rfl⟩, f_H6, tr6⟩
  obtain ⟨dx6, hp6⟩ := tr6.ins
  simp only [RDa, RDb, RDv, RDk, RDx, RDe, RDd, RDp, RDq, List.getElem?_cons_zero, List.getElem?_cons_succ, List.set_cons_zero, List.set_cons_succ, List.cons.injEq, List.cons_ne_nil, reduceCtorEq, exists_eq_left', exists_eq_left, exists_and_left, and_assoc, exists_const, true_and, and_true, if_true, if_false, false_and, and_false, exists_false, false_or, or_false, true_implies, false_implies, implies_true, forall_eq, forall_eq', Bool.false_eq_true, if_neg, decide_eq_true_eq, Bool.not_eq_true', decide_eq_false_iff_not, Bool.not_true, Bool.not_false, List.length_cons, List.length_nil, sizeLine_eq, Nat.reduceAdd, Nat.reduceLeDiff, Nat.reduceLT, Int.reduceLT, Int.reduceLE, Int.emod_nonneg, ne_eq, Int.reduceEq, not_false_eq_true, not_true_eq_false, hTrack, TrackL, hp6]
  exact q sl H6 nsl (fun c o e => f_H6 _ _ (by
    simp only [List.mem_cons, List.not_mem_nil, or_false, not_or]
    exact ⟨ne_of_none e np, ne_of_none e nsl⟩) (s1 _ _ e)) tr6.st
end RP

namespace RP
open PySem PySem.Spec PyProof.Rows L2
/-! the steps of breaking, by the plain rows -/
structure TM (m0 : M) (t : TS) (m : M) : Prop where
  po : t.po = m.ls.length
  re : t.re = m.an.length
  run : m0.run t.st = some m
theorem send_ok {m : M} {k : Int} (h1 : m.base ≤ k) (h2 : k ≤ m.last) : m.step "send" k = some ((m.ls.length : Int), sentM m k) := by
  have est : m.step "send" k = m.send k := rfl
  rw [est]
  unfold M.send
  rw [if_pos ⟨h1, h2⟩]
  rfl
theorem hand_ok {m : M} {n : Int} (h : isT n m.ls.length m.d = true) : m.step "hand" n = some ((m.an.length : Int), m.handed (m.ls.getD n.toNat (0, ""))) := by
  have est : m.step "hand" n = m.hand n := rfl
  rw [est]
  unfold M.hand
  rw [if_pos h]
theorem tell_ok {m : M} {n : Int} (h : isT n m.an.length m.b = true) : m.step "tell" n = some (sBase m.base m.top m.ring (m.an.getD n.toNat 0), { m with base := sBase m.base m.top m.ring (m.an.getD n.toNat 0) }) := by
  have est : m.step "tell" n = m.tell n := rfl
  rw [est]
  unfold M.tell
  rw [if_pos h]
theorem TM.send {m0 m : M} {t : TS} (tm : TM m0 t m) {k : Int} (h1 : m.base ≤ k) (h2 : k ≤ m.last) : TM m0 (t.send k) (sentM m k) :=
  ⟨by show t.po + 1 = ((m.ls ++ [_]).length : Int); rw [tm.po, List.length_append]; rfl, tm.re, M.run_snoc _ _ _ _ _ _ _ tm.run (send_ok h1 h2)⟩
theorem TM.hand {m0 m : M} {t : TS} (tm : TM m0 t m) {n : Int} (h : isT n m.ls.length m.d = true) : TM m0 (t.hand n) (m.handed (m.ls.getD n.toNat (0, ""))) :=
  ⟨tm.po, by show t.re + 1 = ((m.an ++ [_]).length : Int); rw [tm.re, List.length_append]; rfl, M.run_snoc _ _ _ _ _ _ _ tm.run (hand_ok h)⟩
theorem TM.tell {m0 m : M} {t : TS} (tm : TM m0 t m) {n : Int} (h : isT n m.an.length m.b = true) : TM m0 (t.tell n) { m with base := sBase m.base m.top m.ring (m.an.getD n.toNat 0) } :=
  ⟨tm.po, tm.re, M.run_snoc _ _ _ _ _ _ _ tm.run (tell_ok h)⟩
theorem TM.const {m0 m : M} {t : TS} (tm : TM m0 t m) : m.w = m0.w ∧ m.r = m0.r ∧ m.d = m0.d ∧ m.b = m0.b ∧ m.ring = m0.ring ∧ m.tx = m0.tx := M.run_const _ _ _ tm.run
/-- a state in which the next texts are plain -/
structure PS (m0 : M) (t : TS) (m : M) (bs k : Int) (kp : List (Int × Str)) : Prop where
  tm : TM m0 t m
  base : m.base = bs
  top : m.top = k
  want : m.want = k
  out : m.out = m0.tx.take k.toNat
  kept : m.kept = kp
theorem hdrop_none {kp : List (Int × Str)} {k : Int} (x : Str) (h : ∀ q ∈ kp, q.1 ≠ k) : hdrop (kp ++ [(k, x)]) k = kp := by
  unfold hdrop
  rw [List.filter_append, List.filter_cons, decide_eq_false (by simp)]
  simp only [Bool.false_eq_true, if_false, List.filter_nil, List.append_nil]
  exact List.filter_eq_self.mpr fun q hq => decide_eq_true (h q hq)
theorem hget_snoc {kp : List (Int × Str)} {k : Int} (x : Str) (h : ∀ q ∈ kp, q.1 ≠ k) : hget (kp ++ [(k, x)]) k = some x := by
  have n := hget_none.mpr h
  unfold hget at n ⊢
  rw [Option.map_eq_none_iff] at n
  rw [List.find?_append, n, Option.none_or, List.find?_cons, decide_eq_true rfl]
  rfl
theorem take_next {tx : List Str} {k : Int} (h0 : 0 ≤ k) (h : k < tx.length) : tx.take k.toNat ++ [tx.getD k.toNat ""] = tx.take (k + 1).toNat := by
  have wl : k.toNat < tx.length := by omega
  rw [show (k + 1).toNat = k.toNat + 1 by omega, List.take_succ, List.getElem?_eq_getElem wl, List.getD_eq_getElem?_getD, List.getElem?_eq_getElem wl]
  rfl
/-- the text that is wanted comes -/
theorem came_want {r ring k : Int} {g : List Str} {kp : List (Int × Str)} {x : Str} (hr : 0 < r) (h : ∀ q ∈ kp, q.1 ≠ k) : tkCame r ring k g kp (k % ring) x = drained (k + 1) (g ++ [x]) kp := by
  have e : (k % ring - k) % ring = 0 := by rw [Int.emod_sub_emod, Int.sub_self, Int.zero_emod]
  unfold tkCame tkPut
  rw [e, Int.add_zero, if_pos ⟨hr, hget_none.mpr h⟩, drained_some (hget_snoc x h), hdrop_none x h]
theorem PS.thr' {m0 m : M} {t : TS} {bs k : Int} {kp : List (Int × Str)} (p : PS m0 t m bs k kp) (h0 : 0 ≤ k) (hb : bs ≤ k) (hw : k < bs + m0.w) (hl : k < m0.tx.length) (hk : ∀ q ∈ kp, q.1 ≠ k) (hr : 0 < m0.r) (hd : 0 ≤ m0.d) :
    ∃ m', TM m0 (t.thr k) m' ∧ m'.base = bs ∧ m'.top = k + 1 ∧ (m'.want, m'.out, m'.kept) = drained (k + 1) (m0.tx.take (k + 1).toNat) kp ∧ m'.ls = m.ls ++ [(k % m0.ring, m0.tx.getD k.toNat "")] ∧ m'.an = m.an ++ [(drained (k + 1) (m0.tx.take (k + 1).toNat) kp).1 % m0.ring] ∧ t.re = m.an.length := by
  have c := p.tm.const
  have hc1 : m.base ≤ k := by rw [p.base]; exact hb
  have hc2 : k ≤ m.last := by
    rw [last_le, p.top, p.base, c.1, c.2.2.2.2.2]
    omega
  have t1 := p.tm.send hc1 hc2
  have hls : (sentM m k).ls = m.ls ++ [(k % m0.ring, m0.tx.getD k.toNat "")] := by
    show m.ls ++ [(k % m.ring, m.tx.getD k.toNat "")] = _
    rw [c.2.2.2.2.1, c.2.2.2.2.2]
  have hT : isT t.po (sentM m k).ls.length (sentM m k).d = true := by
    rw [isT_iff, hls, List.length_append, p.tm.po]
    have e : (sentM m k).d = m0.d := c.2.2.1
    rw [e]
    show 0 ≤ (m.ls.length : Int) ∧ ((m.ls.length + 1 : Nat) : Int) - 1 - m0.d ≤ (m.ls.length : Int) ∧ (m.ls.length : Int) < ((m.ls.length + 1 : Nat) : Int)
    omega
  have t2 := t1.hand hT
  have eg : (sentM m k).ls.getD t.po.toNat (0, "") = (k % m0.ring, m0.tx.getD k.toNat "") := by
    rw [hls, p.tm.po, Int.toNat_natCast, List.getD_eq_getElem?_getD, List.getElem?_append_right (Nat.le_refl _), Nat.sub_self]
    rfl
  rw [eg] at t2
  have ec : tkCame (sentM m k).r (sentM m k).ring (sentM m k).want (sentM m k).out (sentM m k).kept (k % m0.ring) (m0.tx.getD k.toNat "") = drained (k + 1) (m0.tx.take (k + 1).toNat) kp := by
    show tkCame m.r m.ring m.want m.out m.kept (k % m0.ring) (m0.tx.getD k.toNat "") = _
    rw [p.want, p.out, p.kept, c.2.2.2.2.1, came_want (by rw [c.2.1]; exact hr) hk, take_next h0 hl]
  refine ⟨_, t2, p.base, ?_, ?_, hls, ?_, p.tm.re⟩
  · show sTop m.top k = k + 1
    unfold sTop
    rw [if_pos p.top.symm, p.top]
  · show ((tkCame (sentM m k).r (sentM m k).ring (sentM m k).want (sentM m k).out (sentM m k).kept (k % m0.ring) (m0.tx.getD k.toNat "")).1, (tkCame (sentM m k).r (sentM m k).ring (sentM m k).want (sentM m k).out (sentM m k).kept (k % m0.ring) (m0.tx.getD k.toNat "")).2.1, (tkCame (sentM m k).r (sentM m k).ring (sentM m k).want (sentM m k).out (sentM m k).kept (k % m0.ring) (m0.tx.getD k.toNat "")).2.2) = _
    rw [ec]
  · show m.an ++ [(tkCame (sentM m k).r (sentM m k).ring (sentM m k).want (sentM m k).out (sentM m k).kept (k % m0.ring) (m0.tx.getD k.toNat "")).1 % m.ring] = _
    rw [ec, c.2.2.2.2.1]
theorem PS.thr {m0 m : M} {t : TS} {bs k : Int} {kp : List (Int × Str)} (p : PS m0 t m bs k kp) (h0 : 0 ≤ k) (hb : bs ≤ k) (hw : k < bs + m0.w) (hl : k < m0.tx.length) (hk : ∀ q ∈ kp, k + 1 < q.1) (hr : 0 < m0.r) (hd : 0 ≤ m0.d) :
    ∃ m', PS m0 (t.thr k) m' bs (k + 1) kp ∧ m'.ls = m.ls ++ [(k % m0.ring, m0.tx.getD k.toNat "")] ∧ m'.an = m.an ++ [(k + 1) % m0.ring] ∧ t.re = m.an.length := by
  obtain ⟨m', h1, h2, h3, h4, h5, h6, h7⟩ := p.thr' h0 hb hw hl (fun q hq => by have := hk q hq; omega) hr hd
  have e : drained (k + 1) (m0.tx.take (k + 1).toNat) kp = (k + 1, m0.tx.take (k + 1).toNat, kp) := drained_none (hget_none.mpr fun q hq => by have := hk q hq; omega)
  rw [e] at h4 h6
  have h8 := Prod.mk.inj h4
  have h9 := Prod.mk.inj h8.2
  exact ⟨m', ⟨h1, h2, h3, h8.1, h9.1, h9.2⟩, h5, h6, h7⟩
/-- the last answer comes -/
theorem PS.tell {m0 m : M} {t : TS} {bs k : Int} {kp : List (Int × Str)} (p : PS m0 t m bs k kp) {an : List Int} (ha : m.an = an ++ [k % m0.ring]) (hb : bs ≤ k) (hn : k - bs < m0.ring) (hbb : 0 ≤ m0.b) : PS m0 (t.tell (an.length : Nat)) { m with base := k } k k kp := by
  have c := p.tm.const
  have hT : isT ((an.length : Nat) : Int) m.an.length m.b = true := by
    rw [isT_iff, ha, List.length_append, c.2.2.2.1]
    show 0 ≤ ((an.length : Nat) : Int) ∧ ((an.length + 1 : Nat) : Int) - 1 - m0.b ≤ ((an.length : Nat) : Int) ∧ ((an.length : Nat) : Int) < ((an.length + 1 : Nat) : Int)
    omega
  have t1 := p.tm.tell hT
  have eg : m.an.getD (((an.length : Nat) : Int)).toNat 0 = k % m0.ring := by
    rw [ha, Int.toNat_natCast, List.getD_eq_getElem?_getD, List.getElem?_append_right (Nat.le_refl _), Nat.sub_self]
    rfl
  have es : sBase m.base m.top m.ring (m.an.getD (((an.length : Nat) : Int)).toNat 0) = k := by
    rw [eg, p.base, p.top, c.2.2.2.2.1]
    unfold sBase
    rw [Int.emod_sub_emod, Int.emod_eq_of_lt (by omega) hn, show bs + (k - bs) = k by omega, if_pos (Int.le_refl _)]
  rw [es] at t1
  exact ⟨t1, rfl, p.top, p.want, p.out, p.kept⟩
theorem PS.thrs {m0 : M} {bs k : Int} {kp : List (Int × Str)} : ∀ (n : Nat) {m : M} {t : TS}, PS m0 t m bs k kp → 0 ≤ k → bs ≤ k → k + n ≤ bs + m0.w → k + n ≤ m0.tx.length → (∀ q ∈ kp, k + n < q.1) → 0 < m0.r → 0 ≤ m0.d →
    ∃ m' an, PS m0 (RP.thrs t k n) m' bs (k + n) kp ∧ (∃ l, m'.ls = m.ls ++ l ∧ l.length = n) ∧ m'.an = m.an ++ an ∧ an.length = n ∧ (0 < n → ∃ an2, m'.an = an2 ++ [(k + n) % m0.ring])
  | 0, m, t, p, _, _, _, _, _, _, _ => ⟨m, [], by rw [show k + ((0 : Nat) : Int) = k by omega]; exact p, ⟨[], by simp, rfl⟩, by simp, rfl, fun h => absurd h (by decide)⟩
  | n + 1, m, t, p, h0, hb, hw, hl, hk, hr, hd => by
    obtain ⟨m1, an, p1, ⟨l, el, ll⟩, ea, la, _⟩ := PS.thrs n p h0 hb (by omega) (by omega) (fun q hq => by have := hk q hq; omega) hr hd
    obtain ⟨m2, p2, e1, e2, _⟩ := p1.thr (by omega) (by omega) (by omega) (by omega) (fun q hq => by have := hk q hq; omega) hr hd
    have ek : k + ((n : Nat) : Int) + 1 = k + ((n + 1 : Nat) : Int) := by omega
    rw [ek] at p2 e2
    refine ⟨m2, an ++ [(k + ((n + 1 : Nat) : Int)) % m0.ring], p2, ⟨l ++ [_], by rw [e1, el, List.append_assoc], by rw [List.length_append, ll]; rfl⟩, by rw [e2, ea, List.append_assoc], by rw [List.length_append, la]; rfl, fun _ => ⟨m1.an, e2⟩⟩
theorem PS.thrTells {m0 : M} {k : Int} : ∀ (n : Nat) {m : M} {t : TS}, PS m0 t m k k [] → 0 ≤ k → k + n ≤ m0.tx.length → 1 ≤ m0.w → 1 < m0.ring → 0 < m0.r → 0 ≤ m0.d → 0 ≤ m0.b →
    ∃ m', PS m0 (RP.thrTells t k n) m' (k + n) (k + n) [] ∧ (∃ l, m'.ls = m.ls ++ l ∧ l.length = n) ∧ (∃ an, m'.an = m.an ++ an ∧ an.length = n)
  | 0, m, t, p, _, _, _, _, _, _, _ => ⟨m, by rw [show k + ((0 : Nat) : Int) = k by omega]; exact p, ⟨[], by simp, rfl⟩, ⟨[], by simp, rfl⟩⟩
  | n + 1, m, t, p, h0, hl, hw, hg, hr, hd, hb => by
    obtain ⟨m1, p1, ⟨l, el, ll⟩, ⟨an, ea, la⟩⟩ := PS.thrTells n p h0 (by omega) hw hg hr hd hb
    obtain ⟨m2, p2, e1, e2, e3⟩ := p1.thr (by omega) (by omega) (by omega) (by omega) (fun q hq => by cases hq) hr hd
    have ek : k + ((n : Nat) : Int) + 1 = k + ((n + 1 : Nat) : Int) := by omega
    rw [ek] at p2 e2
    have p3 := p2.tell e2 (by omega) (by omega) hb
    rw [← e3] at p3
    exact ⟨_, p3, ⟨l ++ [_], by show m2.ls = _; rw [e1, el, List.append_assoc], by rw [List.length_append, ll]; rfl⟩, ⟨an ++ [_], by show m2.an = _; rw [e2, ea, List.append_assoc], by rw [List.length_append, la]; rfl⟩⟩
/-- texts that are unlike -/
def Unlike (tx : List Str) : Prop := ∀ i j : Nat, i < tx.length → j < tx.length → i ≠ j → tx.getD i "" ≠ tx.getD j ""
theorem wrong_out {m : M} {N : Nat} {x : Str} (h : N < m.tx.length) (hx : x ≠ m.tx.getD N "") (ho : m.out = m.tx.take N ++ [x]) : m.isWrong = true := by
  have hl : m.out.length = N + 1 := by
    rw [ho, List.length_append, List.length_take]
    show min N m.tx.length + 1 = _
    omega
  have ne : ¬ m.out = m.tx.take m.out.length := by
    rw [hl, ho, List.take_succ, List.getElem?_eq_getElem h]
    intro e
    have e2 := (List.append_inj' e rfl).2
    have e3 : x = m.tx[N] := by simpa using e2
    apply hx
    rw [e3, List.getD_eq_getElem?_getD, List.getElem?_eq_getElem h]
    rfl
  unfold M.isWrong
  rw [decide_eq_false ne]
  rfl
theorem wrong_base {m : M} (h : (m.out.length : Int) < m.base) : m.isWrong = true := by
  unfold M.isWrong
  rw [decide_eq_true h, Bool.or_true]
theorem bal_wrong {w r d b N : Int} {tx : List Str} (hw : 1 ≤ w) (hr : 1 ≤ r) (hrw : r ≤ w) (hd : 0 ≤ d) (hb : 0 ≤ b) (hN : 1 ≤ N) (hlt : N < w + r + d) (hl : (tx.length : Int) = N + 1) (hu : Unlike tx) : ∃ m, (M.begun w r d b N tx).run (bal w d N).st = some m ∧ m.isWrong = true := by
  obtain ⟨gap, eg⟩ : ∃ g, g = mn2 N (w + d) := ⟨_, rfl⟩
  obtain ⟨first, ef⟩ : ∃ g, g = mn2 w gap := ⟨_, rfl⟩
  have hgap : (gap = N ∧ N ≤ w + d) ∨ (gap = w + d ∧ w + d < N) := by
    rw [eg]
    unfold mn2
    split <;> omega
  have hfirst : (first = w ∧ w ≤ gap) ∨ (first = gap ∧ gap < w) := by
    rw [ef]
    unfold mn2
    split <;> omega
  unfold bal
  rw [← eg, ← ef]
  obtain ⟨m0, em⟩ : ∃ m0, m0 = M.begun w r d b N tx := ⟨_, rfl⟩
  rw [← em]
  have c0 : m0.w = w ∧ m0.r = r ∧ m0.d = d ∧ m0.b = b ∧ m0.ring = N ∧ m0.tx = tx := by rw [em]; exact ⟨rfl, rfl, rfl, rfl, rfl, rfl⟩
  have p0 : PS m0 t0S m0 0 0 [] := by rw [em]; exact ⟨⟨rfl, rfl, rfl⟩, rfl, rfl, rfl, rfl, rfl⟩
  have l0 : m0.ls = [] ∧ m0.an = [] := by rw [em]; exact ⟨rfl, rfl⟩
  clear em
  obtain ⟨c1, c2, c3, c4, c5, c6⟩ := c0
  obtain ⟨m1, an, p1, ⟨l, el, ll⟩, ea, la, hla⟩ := p0.thrs first.toNat (by decide) (Int.le_refl _) (by rw [c1]; omega) (by rw [c6]; omega) (fun q hq => by cases hq) (by rw [c2]; omega) (by rw [c3]; omega)
  obtain ⟨an2, ean2⟩ := hla (by omega)
  rw [show (0 : Int) + (first.toNat : Int) = first by omega] at p1 ean2
  generalize thrs t0S 0 first.toNat = t1 at p1 ⊢
  have k1 := p1.tm.const
  have hs : m1.base ≤ 0 ∧ (0 : Int) ≤ m1.last := by
    rw [last_le, p1.base, p1.top, k1.1, k1.2.2.2.2.2, c1, c6]
    omega
  have tm2 := p1.tm.send hs.1 hs.2
  have ep2 : (sentM m1 0).ls = m1.ls ++ [(0, tx.getD 0 "")] := by
    show m1.ls ++ [((0 : Int) % m1.ring, m1.tx.getD (0 : Int).toNat "")] = _
    rw [Int.zero_emod, k1.2.2.2.2.2, c6]
    rfl
  have p2 : PS m0 (t1.send 0) (sentM m1 0) 0 first [] := ⟨tm2, p1.base, by show sTop m1.top 0 = first; unfold sTop; rw [p1.top, if_neg (by omega)], p1.want, p1.out, p1.kept⟩
  have hl1 : m1.ls.length = first.toNat := by rw [el, l0.1, List.nil_append, ll]
  obtain ⟨t3, et3⟩ : ∃ t3, t3 = (if w < N then thrTells ((t1.send 0).tell (t1.re - 1)) first (gap - first).toNat else t1.send 0) := ⟨_, rfl⟩
  rw [← et3]
  obtain ⟨m3, bs, p3, ⟨l3, e3, hl3⟩, hbs⟩ : ∃ m3 bs, PS m0 t3 m3 bs gap [] ∧ (∃ l3, m3.ls = m1.ls ++ [(0, tx.getD 0 "")] ++ l3 ∧ (l3.length : Int) ≤ d) ∧ 0 ≤ bs ∧ bs ≤ gap ∧ N ≤ bs + w := by
    by_cases c : w < N
    · rw [if_pos c] at et3
      have eq : (sentM m1 0).an = an2 ++ [first % m0.ring] := ean2
      have q := p2.tell eq (by omega) (by rw [c5]; omega) (by rw [c4]; omega)
      have er : t1.re - 1 = ((an2.length : Nat) : Int) := by
        rw [p1.tm.re, ean2, List.length_append]
        show ((an2.length + 1 : Nat) : Int) - 1 = _
        omega
      rw [← er] at q
      obtain ⟨m3, p3, ⟨l3, e3, h3⟩, _⟩ := q.thrTells (gap - first).toNat (by omega) (by rw [c6]; omega) (by rw [c1]; exact hw) (by rw [c5]; omega) (by rw [c2]; omega) (by rw [c3]; exact hd) (by rw [c4]; exact hb)
      rw [show first + ((gap - first).toNat : Int) = gap by omega, ← et3] at p3
      exact ⟨m3, gap, p3, ⟨l3, by rw [e3]; show (sentM m1 0).ls ++ l3 = _; rw [ep2], by omega⟩, by omega, by omega, by omega⟩
    · rw [if_neg c] at et3
      have e : first = gap := by omega
      rw [e, ← et3] at p2
      exact ⟨_, 0, p2, ⟨[], by rw [ep2, List.append_nil], by show ((0 : Nat) : Int) ≤ d; omega⟩, by omega, by omega, by omega⟩
  have k3 := p3.tm.const
  have hT : isT t1.po m3.ls.length m3.d = true := by
    rw [isT_iff, e3, k3.2.2.1, c3, p1.tm.po]
    simp only [List.length_append, List.length_cons, List.length_nil]
    omega
  have tm4 := p3.tm.hand hT
  have eg4 : m3.ls.getD t1.po.toNat (0, "") = (0, tx.getD 0 "") := by
    rw [e3, p1.tm.po, Int.toNat_natCast, List.getD_eq_getElem?_getD, List.append_assoc, List.getElem?_append_right (Nat.le_refl _), Nat.sub_self]
    rfl
  rw [eg4] at tm4
  have es : (0 - gap) % N = N - gap := by
    rw [← Int.add_emod_right]
    exact (show (0 - gap + N) % N = N - gap by rw [show 0 - gap + N = N - gap by omega]; exact Int.emod_eq_of_lt (by omega) (by omega))
  have ec : tkCame m3.r m3.ring m3.want m3.out m3.kept 0 (tx.getD 0 "") = drained gap (tx.take gap.toNat) [(N, tx.getD 0 "")] := by
    rw [p3.want, p3.out, p3.kept, k3.2.1, k3.2.2.2.2.1, c2, c5, c6]
    unfold tkCame tkPut
    rw [es, show gap + (N - gap) = N by omega, if_pos ⟨by omega, rfl⟩]
    rfl
  have hne : tx.getD 0 "" ≠ tx.getD N.toNat "" := hu 0 N.toNat (by omega) (by omega) (by omega)
  rcases hgap with ⟨hg, _⟩ | ⟨hg, hg2⟩
  · rw [show (N - gap).toNat = 0 by omega]
    refine ⟨_, tm4.run, ?_⟩
    refine wrong_out (N := N.toNat) (x := tx.getD 0 "") ?_ ?_ ?_
    · show N.toNat < m3.tx.length
      rw [k3.2.2.2.2.2, c6]
      omega
    · show _ ≠ m3.tx.getD N.toNat ""
      rw [k3.2.2.2.2.2, c6]
      exact hne
    · show (tkCame m3.r m3.ring m3.want m3.out m3.kept 0 (tx.getD 0 "")).2.1 = m3.tx.take N.toNat ++ [_]
      have e1 : hget [(N, tx.getD 0 "")] gap = some (tx.getD 0 "") := by
        rw [hg]
        exact hget_snoc (kp := []) _ (fun q hq => by cases hq)
      rw [ec, drained_some e1, k3.2.2.2.2.2, c6]
      have e2 : hdrop [(N, tx.getD 0 "")] gap = [] := by
        rw [hg]
        exact hdrop_none (kp := []) _ (fun q hq => by cases hq)
      rw [e2, drained_none rfl, hg]
  · have e1 : drained gap (tx.take gap.toNat) [(N, tx.getD 0 "")] = (gap, tx.take gap.toNat, [(N, tx.getD 0 "")]) := drained_none (hget_none.mpr fun q hq => by
      rw [List.mem_singleton.mp hq]
      show N ≠ gap
      omega)
    rw [e1] at ec
    have p4 : PS m0 (t3.hand t1.po) (m3.handed (0, tx.getD 0 "")) bs gap [(N, tx.getD 0 "")] := ⟨tm4, p3.base, p3.top, by show (tkCame m3.r m3.ring m3.want m3.out m3.kept 0 (tx.getD 0 "")).1 = gap; rw [ec], by show (tkCame m3.r m3.ring m3.want m3.out m3.kept 0 (tx.getD 0 "")).2.1 = _; rw [ec, c6], by show (tkCame m3.r m3.ring m3.want m3.out m3.kept 0 (tx.getD 0 "")).2.2 = _; rw [ec]⟩
    obtain ⟨n, hn⟩ : ∃ n, (N - gap).toNat = n + 1 := ⟨(N - gap).toNat - 1, by omega⟩
    obtain ⟨m5, _, p5, _⟩ := p4.thrs n (by omega) (by omega) (by rw [c1]; omega) (by rw [c6]; omega) (fun q hq => by rw [List.mem_singleton.mp hq]; show gap + (n : Int) < N; omega) (by rw [c2]; omega) (by rw [c3]; exact hd)
    obtain ⟨m6, t6, _, _, e6, _⟩ := p5.thr' (by omega) (by omega) (by rw [c1]; omega) (by rw [c6]; omega) (fun q hq => by rw [List.mem_singleton.mp hq]; show N ≠ gap + (n : Int); omega) (by rw [c2]; omega) (by rw [c3]; exact hd)
    rw [hn]
    have k6 := t6.const
    refine ⟨m6, t6.run, ?_⟩
    have eN : gap + (n : Int) + 1 = N := by omega
    have e7 : hget [(N, tx.getD 0 "")] N = some (tx.getD 0 "") := hget_snoc (kp := []) _ (fun q hq => by cases hq)
    have e8 : hdrop [(N, tx.getD 0 "")] N = [] := hdrop_none (kp := []) _ (fun q hq => by cases hq)
    rw [eN, drained_some e7, e8, drained_none rfl] at e6
    have e9 := (Prod.mk.inj (Prod.mk.inj e6).2).1
    refine wrong_out (N := N.toNat) (x := tx.getD 0 "") ?_ ?_ ?_
    · rw [k6.2.2.2.2.2, c6]
      omega
    · rw [k6.2.2.2.2.2, c6]
      exact hne
    · rw [e9, k6.2.2.2.2.2]
end RP

namespace RP
open PySem PySem.Spec PyProof.Rows L2 L2H
def baaT (s : Int) : TS := if s = 0 then (t0S.thr 0).tell 0 else (((thrs (t0S.send 0) 1 s.toNat).thr 0).tell (thrs (t0S.send 0) 1 s.toNat).re)
def baaB (lag s : Int) : Int := if s = 0 then lag + 1 else lag
def baaO (s : Int) : Int := if s = 0 then 0 else s - 1
def baa (w b N : Int) : TS := (sends (thrTells (baaT (mx2 0 (N - w - b))) (mx2 0 (N - w - b) + 1) (baaB (N - w) (mx2 0 (N - w - b)) - (mx2 0 (N - w - b) + 1)).toNat) (baaB (N - w) (mx2 0 (N - w - b))) w.toNat).tell (baaO (mx2 0 (N - w - b)))
abbrev s_by_an_answer : Stmt := top 35
abbrev N_by_an_answer : List Str := ["window", "back", "ring", "track", "lag", "spare", "old", "base", "k"]
theorem sc_by_an_answer : FnScope N_by_an_answer ["window", "back", "ring"] (defScope s_by_an_answer) := ⟨rfl, rfl, rfl, by decide +kernel, rfl, by decide +kernel, by decide +kernel⟩
def sp_by_an_answer (K : PySem.W.Frag) : Sp := fun vs H Q E => ∃ w b N : Int, vs = [.int w, .int b, .int N] ∧ 1 ≤ w ∧ w ≤ 20 ∧ 0 ≤ b ∧ b ≤ 20 ∧ w ≤ N ∧ N ≤ 200 ∧ ∀ l H', H l = none → Same H H' → StepsAt H' l (baa w b N).st → Q (.ref l) H'
theorem ok_by_an_answer {P : Program} {w : World} {K : PySem.W.Frag} {mg : Str → Option Value} {base : Heap} (F : FnP K ("by_an_answer", none) "by_an_answer" "by_an_answer" s_by_an_answer) (hm : mg "by_an_answer" = some (.ref (He.ga K "by_an_answer"))) (bl : Blt mg) (hTrack : TrackF K) (c_Track : KCal P w K mg base 1 "Track" (He.ga K "Track") (sp_Track_init K)) (m_Track_send : MCal P w K mg base 1 (He.ga K "Track") "send" (sp_Track_send K)) (m_Track_tell : MCal P w K mg base 1 (He.ga K "Track") "tell" (sp_Track_tell K)) (m_Track_through : MCal P w K mg base 2 (He.ga K "Track") "through" (sp_Track_through K)) : Cal P w K mg base 3 "by_an_answer" (sp_by_an_answer K) := by
  refine fn_cal F hm sc_by_an_answer (fun vs H Q E => by walk_at "len") (fun _ _ _ _ _ _ us hl => match us, hl with | [_, _, _], _ => rfl) (fun f cdv A outer s H vs Q E hr h => ?_)
  have hu := hu_of hr
  obtain ⟨w', b, N, rfl, w1, w2, b1, b2, n1, n2, q⟩ := h
  refine ⟨_, (pss_cons (ps_set (i := 3) sc_by_an_answer.nd rfl (Or.inl rfl) (pe_mk0 c_Track (hr.mono (by decide)) (L2N.takes_of rfl rfl rfl rfl)))
  (pss_cons (ps_set (i := 4) sc_by_an_answer.nd rfl (Or.inl rfl) (pe_op op_sub (pv 2) (pv 0)))
  (pss_cons (ps_set (i := 5) sc_by_an_answer.nd rfl (Or.inl rfl) (pe_callB (call_max2 rfl) (by rfl) (bl.max) (by decide +kernel) (pa_cons pe_int (pa_cons (pe_op op_sub (pv 4) (pv 1)) pa_nil))))
  (pss_cons (ps_set (i := 6) sc_by_an_answer.nd rfl (Or.inl rfl) pe_int)
  (pss_cons (ps_set (i := 7) sc_by_an_answer.nd rfl (Or.inl rfl) (pv 4))
  (pss_cons (ps_if (pt_cmpR op_eq (pv 5) pe_int (nomark _))
  (pss_cons (ps_expr (pe_mth (pv 3) m_Track_tell (hr.mono (by decide)) (L2N.takes_of rfl rfl rfl rfl) (pa_cons (pe_mth (pv 3) m_Track_through (hr.mono (by decide)) (L2N.takes_of rfl rfl rfl rfl) (pa_cons pe_int pa_nil)) pa_nil)))
  (pss_one (ps_set (i := 7) sc_by_an_answer.nd rfl (Or.inl rfl) (pe_op op_add (pv 4) pe_int))))
  (pss_cons (ps_expr (pe_mth (pv 3) m_Track_send (hr.mono (by decide)) (L2N.takes_of rfl rfl rfl rfl) (pa_cons pe_int pa_nil)))
  (pss_cons (ps_for (passes_of rfl) rfl (pi_range2 rfl (bl.range) (pa_cons pe_int (pa_cons (pe_op op_add (pv 5) pe_int) pa_nil))) (pg_name (i := 8) sc_by_an_answer.nd rfl (Or.inl rfl))
  (pss_one (ps_set (i := 6) sc_by_an_answer.nd rfl (Or.inl rfl) (pe_mth (pv 3) m_Track_through (hr.mono (by decide)) (L2N.takes_of rfl rfl rfl rfl) (pa_cons (pv 8) pa_nil)))))
  (pss_one (ps_expr (pe_mth (pv 3) m_Track_tell (hr.mono (by decide)) (L2N.takes_of rfl rfl rfl rfl) (pa_cons (pe_mth (pv 3) m_Track_through (hr.mono (by decide)) (L2N.takes_of rfl rfl rfl rfl) (pa_cons pe_int pa_nil)) pa_nil)))))))
  (pss_cons (ps_for (passes_of rfl) rfl (pi_range2 rfl (bl.range) (pa_cons (pe_op op_add (pv 5) pe_int) (pa_cons (pv 7) pa_nil))) (pg_name (i := 8) sc_by_an_answer.nd rfl (Or.inl rfl))
  (pss_one (ps_expr (pe_mth (pv 3) m_Track_tell (hr.mono (by decide)) (L2N.takes_of rfl rfl rfl rfl) (pa_cons (pe_mth (pv 3) m_Track_through (hr.mono (by decide)) (L2N.takes_of rfl rfl rfl rfl) (pa_cons (pv 8) pa_nil)) pa_nil)))))
  (pss_cons (ps_for (passes_of rfl) rfl (pi_range2 rfl (bl.range) (pa_cons (pv 7) (pa_cons (pe_op op_add (pv 7) (pv 0)) pa_nil))) (pg_name (i := 8) sc_by_an_answer.nd rfl (Or.inl rfl))
  (pss_one (ps_expr (pe_mth (pv 3) m_Track_send (hr.mono (by decide)) (L2N.takes_of rfl rfl rfl rfl) (pa_cons (pv 8) pa_nil)))))
  (pss_cons (ps_expr (pe_mth (pv 3) m_Track_tell (hr.mono (by decide)) (L2N.takes_of rfl rfl rfl rfl) (pa_cons (pv 6) pa_nil)))
  (pss_one (ps_ret (pe_fld (pv 3) rfl)))))))))))), ?_⟩
  walk_at "st0"
  refine seq_gen fun N_a h_a => ?_
  simp only [RDa, RDb, RDv, RDk, RDx, RDe, RDd, RDp, RDq, List.getElem?_cons_zero, List.getElem?_cons_succ, List.set_cons_zero, List.set_cons_succ, List.cons.injEq, List.cons_ne_nil, reduceCtorEq, exists_eq_left', exists_eq_left, exists_and_left, and_assoc, exists_const, true_and, and_true, if_true, if_false, false_and, and_false, exists_false, false_or, or_false, true_implies, false_implies, implies_true, forall_eq, forall_eq', Bool.false_eq_true, if_neg, decide_eq_true_eq, Bool.not_eq_true', decide_eq_false_iff_not, Bool.not_true, Bool.not_false, List.length_cons, List.length_nil, sizeLine_eq, Nat.reduceAdd, Nat.reduceLeDiff, Nat.reduceLT, Int.reduceLT, Int.reduceLE, Int.emod_nonneg, ne_eq, Int.reduceEq, not_false_eq_true, not_true_eq_false]
  refine mk_Track (Q := fun v H => N_a [some (.int w'), some (.int b), some (.int N), some v, none, none, none, none, none] H) fun p sl H1 np nsl s1 tr1 => h_a _ _ ?_
  clear h_a
  refine seq_gen fun N_b h_b => ?_
  simp only [RDa, RDb, RDv, RDk, RDx, RDe, RDd, RDp, RDq, List.getElem?_cons_zero, List.getElem?_cons_succ, List.set_cons_zero, List.set_cons_succ, List.cons.injEq, List.cons_ne_nil, reduceCtorEq, exists_eq_left', exists_eq_left, exists_and_left, and_assoc, exists_const, true_and, and_true, if_true, if_false, false_and, and_false, exists_false, false_or, or_false, true_implies, false_implies, implies_true, forall_eq, forall_eq', Bool.false_eq_true, if_neg, decide_eq_true_eq, Bool.not_eq_true', decide_eq_false_iff_not, Bool.not_true, Bool.not_false, List.length_cons, List.length_nil, sizeLine_eq, Nat.reduceAdd, Nat.reduceLeDiff, Nat.reduceLT, Int.reduceLT, Int.reduceLE, Int.emod_nonneg, ne_eq, Int.reduceEq, not_false_eq_true, not_true_eq_false]
  refine h_b _ _ ?_
  clear h_b
  refine seq_gen fun N_c h_c => ?_
  simp only [RDa, RDb, RDv, RDk, RDx, RDe, RDd, RDp, RDq, List.getElem?_cons_zero, List.getElem?_cons_succ, List.set_cons_zero, List.set_cons_succ, List.cons.injEq, List.cons_ne_nil, reduceCtorEq, exists_eq_left', exists_eq_left, exists_and_left, and_assoc, exists_const, true_and, and_true, if_true, if_false, false_and, and_false, exists_false, false_or, or_false, true_implies, false_implies, implies_true, forall_eq, forall_eq', Bool.false_eq_true, if_neg, decide_eq_true_eq, Bool.not_eq_true', decide_eq_false_iff_not, Bool.not_true, Bool.not_false, List.length_cons, List.length_nil, sizeLine_eq, Nat.reduceAdd, Nat.reduceLeDiff, Nat.reduceLT, Int.reduceLT, Int.reduceLE, Int.emod_nonneg, ne_eq, Int.reduceEq, not_false_eq_true, not_true_eq_false]
  rw [show (if N - w' - b > 0 then N - w' - b else 0) = mx2 0 (N - w' - b) from rfl]
  refine h_c _ _ ?_
  clear h_c
  obtain ⟨s, es⟩ : ∃ s, s = mx2 0 (N - w' - b) := ⟨_, rfl⟩
  have hs : 0 ≤ s ∧ s ≤ N - w' := by
    rw [es]
    unfold mx2
    split <;> omega
  have q : ∀ l H', H l = none → Same H H' → StepsAt H' l ((sends (thrTells (baaT s) (s + 1) (baaB (N - w') s - (s + 1)).toNat) (baaB (N - w') s) w'.toNat).tell (baaO s)).st → Q (.ref l) H' := by
    rw [es]
    exact q
  rw [← es] at *
  clear es
  refine seq_gen fun N_d h_d => ?_
  simp only [RDa, RDb, RDv, RDk, RDx, RDe, RDd, RDp, RDq, List.getElem?_cons_zero, List.getElem?_cons_succ, List.set_cons_zero, List.set_cons_succ, List.cons.injEq, List.cons_ne_nil, reduceCtorEq, exists_eq_left', exists_eq_left, exists_and_left, and_assoc, exists_const, true_and, and_true, if_true, if_false, false_and, and_false, exists_false, false_or, or_false, true_implies, false_implies, implies_true, forall_eq, forall_eq', Bool.false_eq_true, if_neg, decide_eq_true_eq, Bool.not_eq_true', decide_eq_false_iff_not, Bool.not_true, Bool.not_false, List.length_cons, List.length_nil, sizeLine_eq, Nat.reduceAdd, Nat.reduceLeDiff, Nat.reduceLT, Int.reduceLT, Int.reduceLE, Int.emod_nonneg, ne_eq, Int.reduceEq, not_false_eq_true, not_true_eq_false]
  refine h_d _ _ ?_
  clear h_d
  refine seq_gen fun N_e h_e => ?_
  simp only [RDa, RDb, RDv, RDk, RDx, RDe, RDd, RDp, RDq, List.getElem?_cons_zero, List.getElem?_cons_succ, List.set_cons_zero, List.set_cons_succ, List.cons.injEq, List.cons_ne_nil, reduceCtorEq, exists_eq_left', exists_eq_left, exists_and_left, and_assoc, exists_const, true_and, and_true, if_true, if_false, false_and, and_false, exists_false, false_or, or_false, true_implies, false_implies, implies_true, forall_eq, forall_eq', Bool.false_eq_true, if_neg, decide_eq_true_eq, Bool.not_eq_true', decide_eq_false_iff_not, Bool.not_true, Bool.not_false, List.length_cons, List.length_nil, sizeLine_eq, Nat.reduceAdd, Nat.reduceLeDiff, Nat.reduceLT, Int.reduceLT, Int.reduceLE, Int.emod_nonneg, ne_eq, Int.reduceEq, not_false_eq_true, not_true_eq_false]
  refine h_e _ _ ?_
  clear h_e
  refine seq_rel (fun σ1 H' => (∃ u8, σ1 = [some (.int w'), some (.int b), some (.int N), some (.ref p), some (.int (N - w')), some (.int s), some (.int (baaO s)), some (.int (baaB (N - w') s)), u8]) ∧ Fr [p, sl] H1 H' ∧ TrAt K H' p sl (baaT s) ∧ (baaT s).st.length ≤ 600) (fun N_f h_f => ?_) ?_
  · obtain ⟨dx1, hp1⟩ := tr1.ins
    simp only [RDa, RDb, RDv, RDk, RDx, RDe, RDd, RDp, RDq, List.getElem?_cons_zero, List.getElem?_cons_succ, List.set_cons_zero, List.set_cons_succ, List.cons.injEq, List.cons_ne_nil, reduceCtorEq, exists_eq_left', exists_eq_left, exists_and_left, and_assoc, exists_const, true_and, and_true, if_true, if_false, false_and, and_false, exists_false, false_or, or_false, true_implies, false_implies, implies_true, forall_eq, forall_eq', Bool.false_eq_true, if_neg, decide_eq_true_eq, Bool.not_eq_true', decide_eq_false_iff_not, Bool.not_true, Bool.not_false, List.length_cons, List.length_nil, sizeLine_eq, Nat.reduceAdd, Nat.reduceLeDiff, Nat.reduceLT, Int.reduceLT, Int.reduceLE, Int.emod_nonneg, ne_eq, Int.reduceEq, not_false_eq_true, not_true_eq_false, hTrack, TrackL, hp1]
    split
    · rename_i c
      refine ⟨p, sl, _, _, rfl, tr1, by decide, fun H2 f2 tr2 => ?_⟩
      refine ⟨p, sl, _, _, rfl, tr2, by decide, fun H3 f3 tr3 => ?_⟩
      refine h_f _ _ ?_
      unfold baaT baaB baaO
      rw [if_pos c, if_pos c, if_pos c]
      refine ⟨⟨_, rfl⟩, f2.trans f3, tr3, by decide⟩
    · rename_i c
      refine ⟨p, sl, _, _, rfl, tr1, by decide, fun H2 f2 tr2 => ?_⟩
      have hre : ∀ i, (thrs (t0S.send 0) 1 i).re = i := by
        intro i
        induction i with
        | zero => rfl
        | succ n ih =>
          show (thrs (t0S.send 0) 1 n).re + 1 = _
          rw [ih]
          rfl
      show tFor _ _ _ _ _ _
      refine for_rcut 1 s.toNat (fun H' => H2 = H') (fun Z hZ => ?_) (fun i σ1 H' => (∃ u8, σ1 = [some (.int w'), some (.int b), some (.int N), some (.ref p), some (.int (N - w')), some (.int s), some (.int (if i = 0 then 0 else (i : Int) - 1)), some (.int (N - w')), u8]) ∧ Fr [p, sl] H1 H' ∧ TrAt K H' p sl (thrs (t0S.send 0) 1 i)) ?_ ?_ ?_
      · simp only [RDa, RDb, RDv, RDk, RDx, RDe, RDd, RDp, RDq, List.getElem?_cons_zero, List.getElem?_cons_succ, List.set_cons_zero, List.set_cons_succ, List.cons.injEq, List.cons_ne_nil, reduceCtorEq, exists_eq_left', exists_eq_left, exists_and_left, and_assoc, exists_const, true_and, and_true, if_true, if_false, false_and, and_false, exists_false, false_or, or_false, true_implies, false_implies, implies_true, forall_eq, forall_eq', Bool.false_eq_true, if_neg, decide_eq_true_eq, Bool.not_eq_true', decide_eq_false_iff_not, Bool.not_true, Bool.not_false, List.length_cons, List.length_nil, sizeLine_eq, Nat.reduceAdd, Nat.reduceLeDiff, Nat.reduceLT, Int.reduceLT, Int.reduceLE, Int.emod_nonneg, ne_eq, Int.reduceEq, not_false_eq_true, not_true_eq_false]
        rw [show s + 1 - 1 = s by omega]
        exact ⟨by omega, by omega, by omega, by omega, hZ _ rfl⟩
      · rintro H' rfl
        exact ⟨⟨_, rfl⟩, f2, tr2⟩
      · rintro i σ1 H' hi ⟨⟨u8, rfl⟩, f', tr'⟩
        obtain ⟨dx', hp'⟩ := tr'.ins
        have hl' := thrs_len (t0S.send 0) 1 i
        simp only [RDa, RDb, RDv, RDk, RDx, RDe, RDd, RDp, RDq, List.getElem?_cons_zero, List.getElem?_cons_succ, List.set_cons_zero, List.set_cons_succ, List.cons.injEq, List.cons_ne_nil, reduceCtorEq, exists_eq_left', exists_eq_left, exists_and_left, and_assoc, exists_const, true_and, and_true, if_true, if_false, false_and, and_false, exists_false, false_or, or_false, true_implies, false_implies, implies_true, forall_eq, forall_eq', Bool.false_eq_true, if_neg, decide_eq_true_eq, Bool.not_eq_true', decide_eq_false_iff_not, Bool.not_true, Bool.not_false, List.length_cons, List.length_nil, sizeLine_eq, Nat.reduceAdd, Nat.reduceLeDiff, Nat.reduceLT, Int.reduceLT, Int.reduceLE, Int.emod_nonneg, ne_eq, Int.reduceEq, not_false_eq_true, not_true_eq_false, hTrack, TrackL, hp']
        refine ⟨p, sl, _, _, rfl, tr', by show (thrs (t0S.send 0) 1 i).st.length < 90000; rw [hl']; show 1 + 2 * i < _; omega, fun H4 f4 tr4 => ?_⟩
        have fin : Fr [p, sl] H1 H4 ∧ TrAt K H4 p sl (thrs (t0S.send 0) 1 (i + 1)) := ⟨f'.trans f4, tr4⟩
        have eo : (thrs (t0S.send 0) 1 i).re = ((i + 1 : Nat) : Int) - 1 := by rw [hre]; omega
        rw [eo]
        exact ⟨rfl, ⟨_, rfl⟩, fin⟩
      · rintro σ1 H3 ⟨⟨u8, rfl⟩, f_H3, tr3⟩
        rw [if_neg (by omega), show ((s.toNat : Nat) : Int) - 1 = s - 1 by omega]
        obtain ⟨dx3, hp3⟩ := tr3.ins
        simp only [RDa, RDb, RDv, RDk, RDx, RDe, RDd, RDp, RDq, List.getElem?_cons_zero, List.getElem?_cons_succ, List.set_cons_zero, List.set_cons_succ, List.cons.injEq, List.cons_ne_nil, reduceCtorEq, exists_eq_left', exists_eq_left, exists_and_left, and_assoc, exists_const, true_and, and_true, if_true, if_false, false_and, and_false, exists_false, false_or, or_false, true_implies, false_implies, implies_true, forall_eq, forall_eq', Bool.false_eq_true, if_neg, decide_eq_true_eq, Bool.not_eq_true', decide_eq_false_iff_not, Bool.not_true, Bool.not_false, List.length_cons, List.length_nil, sizeLine_eq, Nat.reduceAdd, Nat.reduceLeDiff, Nat.reduceLT, Int.reduceLT, Int.reduceLE, Int.emod_nonneg, ne_eq, Int.reduceEq, not_false_eq_true, not_true_eq_false, hTrack, TrackL, hp3]
        have hl3 : (thrs (t0S.send 0) 1 s.toNat).st.length ≤ 401 := by
          rw [thrs_len]
          show 1 + 2 * s.toNat ≤ _
          omega
        refine ⟨p, sl, _, _, rfl, tr3, by omega, fun H4 f4 tr4 => ?_⟩
        refine ⟨p, sl, _, _, rfl, tr4, by rw [thr_len]; omega, fun H5 f5 tr5 => ?_⟩
        refine h_f _ _ ?_
        unfold baaT baaB baaO
        rw [if_neg c, if_neg c, if_neg c]
        refine ⟨⟨_, rfl⟩, (f_H3.trans f4).trans f5, tr5, ?_⟩
        rw [tell_len, thr_len]
        omega
  rintro _ H2 ⟨⟨u8, rfl⟩, f_H2, tr2, hl2⟩
  obtain ⟨B, eB⟩ : ∃ B, B = baaB (N - w') s := ⟨_, rfl⟩
  have hB : s ≤ B ∧ B ≤ 201 := by
    rw [eB]
    unfold baaB
    split <;> omega
  rw [← eB] at q ⊢
  obtain ⟨T1, eT1⟩ : ∃ t, t = baaT s := ⟨_, rfl⟩
  rw [← eT1] at q tr2 hl2
  refine seq_rel (fun σ1 H' => (∃ u8, σ1 = [some (.int w'), some (.int b), some (.int N), some (.ref p), some (.int (N - w')), some (.int s), some (.int (baaO s)), some (.int B), u8]) ∧ Fr [p, sl] H1 H' ∧ TrAt K H' p sl (thrTells T1 (s + 1) (B - (s + 1)).toNat)) (fun N_h h_h => ?_) ?_
  · refine for_rcut (s + 1) (B - (s + 1)).toNat (fun H' => H2 = H') (fun Z hZ => ?_) (fun i σ1 H' => (∃ u8, σ1 = [some (.int w'), some (.int b), some (.int N), some (.ref p), some (.int (N - w')), some (.int s), some (.int (baaO s)), some (.int B), u8]) ∧ Fr [p, sl] H1 H' ∧ TrAt K H' p sl (thrTells T1 (s + 1) i)) ?_ ?_ ?_
    · simp only [RDa, RDb, RDv, RDk, RDx, RDe, RDd, RDp, RDq, List.getElem?_cons_zero, List.getElem?_cons_succ, List.set_cons_zero, List.set_cons_succ, List.cons.injEq, List.cons_ne_nil, reduceCtorEq, exists_eq_left', exists_eq_left, exists_and_left, and_assoc, exists_const, true_and, and_true, if_true, if_false, false_and, and_false, exists_false, false_or, or_false, true_implies, false_implies, implies_true, forall_eq, forall_eq', Bool.false_eq_true, if_neg, decide_eq_true_eq, Bool.not_eq_true', decide_eq_false_iff_not, Bool.not_true, Bool.not_false, List.length_cons, List.length_nil, sizeLine_eq, Nat.reduceAdd, Nat.reduceLeDiff, Nat.reduceLT, Int.reduceLT, Int.reduceLE, Int.emod_nonneg, ne_eq, Int.reduceEq, not_false_eq_true, not_true_eq_false]
      exact ⟨by omega, by omega, by omega, by omega, hZ _ rfl⟩
    · rintro H' rfl
      exact ⟨⟨_, rfl⟩, f_H2, tr2⟩
    · rintro i σ1 H' hi ⟨⟨u8, rfl⟩, f', tr'⟩
      obtain ⟨dx', hp'⟩ := tr'.ins
      have hl' := thrTells_len T1 (s + 1) i
      simp only [RDa, RDb, RDv, RDk, RDx, RDe, RDd, RDp, RDq, List.getElem?_cons_zero, List.getElem?_cons_succ, List.set_cons_zero, List.set_cons_succ, List.cons.injEq, List.cons_ne_nil, reduceCtorEq, exists_eq_left', exists_eq_left, exists_and_left, and_assoc, exists_const, true_and, and_true, if_true, if_false, false_and, and_false, exists_false, false_or, or_false, true_implies, false_implies, implies_true, forall_eq, forall_eq', Bool.false_eq_true, if_neg, decide_eq_true_eq, Bool.not_eq_true', decide_eq_false_iff_not, Bool.not_true, Bool.not_false, List.length_cons, List.length_nil, sizeLine_eq, Nat.reduceAdd, Nat.reduceLeDiff, Nat.reduceLT, Int.reduceLT, Int.reduceLE, Int.emod_nonneg, ne_eq, Int.reduceEq, not_false_eq_true, not_true_eq_false, hTrack, TrackL, hp']
      refine ⟨p, sl, _, _, rfl, tr', by show (thrTells T1 (s + 1) i).st.length < 90000; rw [hl']; omega, fun H6 f6 tr6 => ?_⟩
      refine ⟨p, sl, _, _, rfl, tr6, ?_, fun H7 f7 tr7 => ?_⟩
      · rw [thr_len, hl']
        omega
      have fin : Fr [p, sl] H1 H7 ∧ TrAt K H7 p sl (thrTells T1 (s + 1) (i + 1)) := ⟨(f'.trans f6).trans f7, tr7⟩
      first
      | exact fin
      | exact ⟨⟨_, rfl⟩, fin⟩
      | exact ⟨_, rfl, fin⟩
    · rintro σ1 H' ⟨⟨u8, rfl⟩, f', tr'⟩
      exact h_h _ _ ⟨⟨u8, rfl⟩, f', tr'⟩
  rintro _ H3 ⟨⟨u8', rfl⟩, f_H3, tr3⟩
  have hl3 := thrTells_len T1 (s + 1) (B - (s + 1)).toNat
  obtain ⟨T2, eT2⟩ : ∃ t, t = thrTells T1 (s + 1) (B - (s + 1)).toNat := ⟨_, rfl⟩
  rw [← eT2] at q tr3 hl3
  refine seq_rel (fun σ1 H' => (∃ u8, σ1 = [some (.int w'), some (.int b), some (.int N), some (.ref p), some (.int (N - w')), some (.int s), some (.int (baaO s)), some (.int B), u8]) ∧ Fr [p, sl] H1 H' ∧ TrAt K H' p sl (sends T2 B w'.toNat)) (fun N_i h_i => ?_) ?_
  · refine for_rcut B w'.toNat (fun H' => H3 = H') (fun Z hZ => ?_) (fun i σ1 H' => (∃ u8, σ1 = [some (.int w'), some (.int b), some (.int N), some (.ref p), some (.int (N - w')), some (.int s), some (.int (baaO s)), some (.int B), u8]) ∧ Fr [p, sl] H1 H' ∧ TrAt K H' p sl (sends T2 B i)) ?_ ?_ ?_
    · simp only [RDa, RDb, RDv, RDk, RDx, RDe, RDd, RDp, RDq, List.getElem?_cons_zero, List.getElem?_cons_succ, List.set_cons_zero, List.set_cons_succ, List.cons.injEq, List.cons_ne_nil, reduceCtorEq, exists_eq_left', exists_eq_left, exists_and_left, and_assoc, exists_const, true_and, and_true, if_true, if_false, false_and, and_false, exists_false, false_or, or_false, true_implies, false_implies, implies_true, forall_eq, forall_eq', Bool.false_eq_true, if_neg, decide_eq_true_eq, Bool.not_eq_true', decide_eq_false_iff_not, Bool.not_true, Bool.not_false, List.length_cons, List.length_nil, sizeLine_eq, Nat.reduceAdd, Nat.reduceLeDiff, Nat.reduceLT, Int.reduceLT, Int.reduceLE, Int.emod_nonneg, ne_eq, Int.reduceEq, not_false_eq_true, not_true_eq_false]
      rw [show B + w' - B = w' by omega]
      exact ⟨by omega, by omega, by omega, by omega, hZ _ rfl⟩
    · rintro H' rfl
      exact ⟨⟨_, rfl⟩, f_H3, tr3⟩
    · rintro i σ1 H' hi ⟨⟨u8, rfl⟩, f', tr'⟩
      obtain ⟨dx', hp'⟩ := tr'.ins
      have hl' := sends_len T2 B i
      simp only [RDa, RDb, RDv, RDk, RDx, RDe, RDd, RDp, RDq, List.getElem?_cons_zero, List.getElem?_cons_succ, List.set_cons_zero, List.set_cons_succ, List.cons.injEq, List.cons_ne_nil, reduceCtorEq, exists_eq_left', exists_eq_left, exists_and_left, and_assoc, exists_const, true_and, and_true, if_true, if_false, false_and, and_false, exists_false, false_or, or_false, true_implies, false_implies, implies_true, forall_eq, forall_eq', Bool.false_eq_true, if_neg, decide_eq_true_eq, Bool.not_eq_true', decide_eq_false_iff_not, Bool.not_true, Bool.not_false, List.length_cons, List.length_nil, sizeLine_eq, Nat.reduceAdd, Nat.reduceLeDiff, Nat.reduceLT, Int.reduceLT, Int.reduceLE, Int.emod_nonneg, ne_eq, Int.reduceEq, not_false_eq_true, not_true_eq_false, hTrack, TrackL, hp']
      refine ⟨p, sl, _, _, rfl, tr', by show (sends T2 B i).st.length < 100000; rw [hl']; omega, fun H6 f6 tr6 => ?_⟩
      have fin : Fr [p, sl] H1 H6 ∧ TrAt K H6 p sl (sends T2 B (i + 1)) := ⟨f'.trans f6, tr6⟩
      first
      | exact fin
      | exact ⟨⟨_, rfl⟩, fin⟩
      | exact ⟨_, rfl, fin⟩
    · rintro σ1 H' ⟨⟨u8, rfl⟩, f', tr'⟩
      exact h_i _ _ ⟨⟨u8, rfl⟩, f', tr'⟩
  rintro _ H4 ⟨⟨u8'', rfl⟩, f_H4, tr4⟩
  have hl4 := sends_len T2 B w'.toNat
  obtain ⟨dx4, hp4⟩ := tr4.ins
  refine seq_gen fun N_j h_j => ?_
  simp only [RDa, RDb, RDv, RDk, RDx, RDe, RDd, RDp, RDq, List.getElem?_cons_zero, List.getElem?_cons_succ, List.set_cons_zero, List.set_cons_succ, List.cons.injEq, List.cons_ne_nil, reduceCtorEq, exists_eq_left', exists_eq_left, exists_and_left, and_assoc, exists_const, true_and, and_true, if_true, if_false, false_and, and_false, exists_false, false_or, or_false, true_implies, false_implies, implies_true, forall_eq, forall_eq', Bool.false_eq_true, if_neg, decide_eq_true_eq, Bool.not_eq_true', decide_eq_false_iff_not, Bool.not_true, Bool.not_false, List.length_cons, List.length_nil, sizeLine_eq, Nat.reduceAdd, Nat.reduceLeDiff, Nat.reduceLT, Int.reduceLT, Int.reduceLE, Int.emod_nonneg, ne_eq, Int.reduceEq, not_false_eq_true, not_true_eq_false, hTrack, TrackL, hp4]
  refine ⟨p, sl, _, _, rfl, tr4, by omega, fun H5 f5 tr5 => h_j _ _ ?_⟩
  clear h_j
  have f_H5 := f_H4.trans f5
  obtain ⟨dx5, hp5⟩ := tr5.ins
  simp only [RDa, RDb, RDv, RDk, RDx, RDe, RDd, RDp, RDq, List.getElem?_cons_zero, List.getElem?_cons_succ, List.set_cons_zero, List.set_cons_succ, List.cons.injEq, List.cons_ne_nil, reduceCtorEq, exists_eq_left', exists_eq_left, exists_and_left, and_assoc, exists_const, true_and, and_true, if_true, if_false, false_and, and_false, exists_false, false_or, or_false, true_implies, false_implies, implies_true, forall_eq, forall_eq', Bool.false_eq_true, if_neg, decide_eq_true_eq, Bool.not_eq_true', decide_eq_false_iff_not, Bool.not_true, Bool.not_false, List.length_cons, List.length_nil, sizeLine_eq, Nat.reduceAdd, Nat.reduceLeDiff, Nat.reduceLT, Int.reduceLT, Int.reduceLE, Int.emod_nonneg, ne_eq, Int.reduceEq, not_false_eq_true, not_true_eq_false, hTrack, TrackL, hp5]
  exact q sl H5 nsl (fun c o e => f_H5 _ _ (by
    simp only [List.mem_cons, List.not_mem_nil, or_false, not_or]
    exact ⟨ne_of_none e np, ne_of_none e nsl⟩) (s1 _ _ e)) tr5.st
end RP

namespace RP
open PySem PySem.Spec PyProof.Rows L2
/-! the steps of breaking by an old answer -/
def runK (tx : List Str) : Int → Nat → List (Int × Str)
  | _, 0 => []
  | k, n + 1 => (k, tx.getD k.toNat "") :: runK tx (k + 1) n
theorem runK_snoc (tx : List Str) : ∀ (n : Nat) (k : Int), runK tx k (n + 1) = runK tx k n ++ [(k + n, tx.getD (k + n).toNat "")]
  | 0, k => by
    show [(k, _)] = [] ++ [(k + ((0 : Nat) : Int), _)]
    rw [show k + ((0 : Nat) : Int) = k by omega]
    rfl
  | n + 1, k => by
    show (k, _) :: runK tx (k + 1) (n + 1) = _
    rw [runK_snoc tx n (k + 1), show k + 1 + (n : Int) = k + ((n + 1 : Nat) : Int) by omega]
    rfl
theorem runK_mem {tx : List Str} : ∀ {n : Nat} {k : Int} {q : Int × Str}, q ∈ runK tx k n → k ≤ q.1 ∧ q.1 < k + n
  | 0, _, _, h => by cases h
  | n + 1, k, q, h => by
    rcases List.mem_cons.mp h with e | h
    · rw [e]
      show k ≤ k ∧ k < k + ((n + 1 : Nat) : Int)
      omega
    · have := runK_mem h
      omega
theorem drained_run {tx : List Str} : ∀ (n : Nat) (k : Int), 0 ≤ k → k + n ≤ tx.length → drained k (tx.take k.toNat) (runK tx k n) = (k + n, tx.take (k + n).toNat, [])
  | 0, k, _, _ => by
    rw [show k + ((0 : Nat) : Int) = k by omega]
    exact drained_none rfl
  | n + 1, k, h0, h => by
    have e1 : hget (runK tx k (n + 1)) k = some (tx.getD k.toNat "") := by
      show (((k, tx.getD k.toNat "") :: runK tx (k + 1) n).find? fun p => decide (p.1 = k)).map (·.2) = _
      rw [List.find?_cons, decide_eq_true rfl]
      rfl
    have e2 : hdrop (runK tx k (n + 1)) k = runK tx (k + 1) n := by
      show (((k, tx.getD k.toNat "") :: runK tx (k + 1) n).filter fun p => decide (p.1 ≠ k)) = _
      rw [List.filter_cons, decide_eq_false (by simp)]
      simp only [Bool.false_eq_true, if_false]
      exact List.filter_eq_self.mpr fun q hq => decide_eq_true (by have := runK_mem hq; omega)
    rw [drained_some e1, e2, take_next h0 (by omega), drained_run n (k + 1) (by omega) (by omega), show k + 1 + (n : Int) = k + ((n + 1 : Nat) : Int) by omega]
structure BP (m0 : M) (t : TS) (m : M) (j : Nat) : Prop where
  tm : TM m0 t m
  base : m.base = 0
  top : m.top = 1 + j
  want : m.want = 0
  out : m.out = []
  kept : m.kept = runK m0.tx 1 j
  an : m.an = List.replicate j 0
theorem BP.thr {m0 m : M} {t : TS} {j : Nat} (p : BP m0 t m j) (hw : 1 + (j : Int) < m0.w) (hl : 1 + (j : Int) < m0.tx.length) (hr : 1 + (j : Int) < m0.r) (hg : 1 + (j : Int) < m0.ring) (hd : 0 ≤ m0.d) : ∃ m', BP m0 (t.thr (1 + j)) m' (j + 1) := by
  have c := p.tm.const
  have hc1 : m.base ≤ 1 + (j : Int) := by rw [p.base]; omega
  have hc2 : 1 + (j : Int) ≤ m.last := by
    rw [last_le, p.top, p.base, c.1, c.2.2.2.2.2]
    omega
  have t1 := p.tm.send hc1 hc2
  have hls : (sentM m (1 + j)).ls = m.ls ++ [(1 + (j : Int), m0.tx.getD (1 + (j : Int)).toNat "")] := by
    show m.ls ++ [((1 + (j : Int)) % m.ring, m.tx.getD (1 + (j : Int)).toNat "")] = _
    rw [c.2.2.2.2.1, c.2.2.2.2.2, Int.emod_eq_of_lt (by omega) hg]
  have hT : isT t.po (sentM m (1 + j)).ls.length (sentM m (1 + j)).d = true := by
    rw [isT_iff, hls, List.length_append, p.tm.po]
    have e : (sentM m (1 + j)).d = m0.d := c.2.2.1
    rw [e]
    show 0 ≤ (m.ls.length : Int) ∧ ((m.ls.length + 1 : Nat) : Int) - 1 - m0.d ≤ (m.ls.length : Int) ∧ (m.ls.length : Int) < ((m.ls.length + 1 : Nat) : Int)
    omega
  have t2 := t1.hand hT
  have eg : (sentM m (1 + j)).ls.getD t.po.toNat (0, "") = (1 + (j : Int), m0.tx.getD (1 + (j : Int)).toNat "") := by
    rw [hls, p.tm.po, Int.toNat_natCast, List.getD_eq_getElem?_getD, List.getElem?_append_right (Nat.le_refl _), Nat.sub_self]
    rfl
  rw [eg] at t2
  have ek : runK m0.tx 1 j ++ [(1 + (j : Int), m0.tx.getD (1 + (j : Int)).toNat "")] = runK m0.tx 1 (j + 1) := (runK_snoc _ _ _).symm
  have ec : tkCame m.r m.ring m.want m.out m.kept (1 + (j : Int)) (m0.tx.getD (1 + (j : Int)).toNat "") = (0, [], runK m0.tx 1 (j + 1)) := by
    rw [p.want, p.out, p.kept, c.2.2.2.2.1, c.2.1]
    unfold tkCame tkPut
    rw [show (1 + (j : Int) - 0) % m0.ring = 1 + j by rw [Int.sub_zero]; exact Int.emod_eq_of_lt (by omega) hg, Int.zero_add, if_pos ⟨hr, hget_none.mpr fun q hq => by have := runK_mem hq; omega⟩, ek]
    exact drained_none (hget_none.mpr fun q hq => by have := runK_mem hq; omega)
  refine ⟨_, t2, p.base, ?_, ?_, ?_, ?_, ?_⟩
  · show sTop m.top (1 + j) = _
    unfold sTop
    rw [if_pos p.top.symm, p.top]
    omega
  · show (tkCame m.r m.ring m.want m.out m.kept (1 + (j : Int)) (m0.tx.getD (1 + (j : Int)).toNat "")).1 = _
    rw [ec]
  · show (tkCame m.r m.ring m.want m.out m.kept (1 + (j : Int)) (m0.tx.getD (1 + (j : Int)).toNat "")).2.1 = _
    rw [ec]
  · show (tkCame m.r m.ring m.want m.out m.kept (1 + (j : Int)) (m0.tx.getD (1 + (j : Int)).toNat "")).2.2 = _
    rw [ec]
  · show m.an ++ [(tkCame m.r m.ring m.want m.out m.kept (1 + (j : Int)) (m0.tx.getD (1 + (j : Int)).toNat "")).1 % m.ring] = _
    rw [ec, p.an, List.replicate_succ']
    show _ ++ [(0 : Int) % m.ring] = _
    rw [Int.zero_emod]
theorem BP.thrs {m0 : M} : ∀ (n : Nat) {m : M} {t : TS}, BP m0 t m 0 → (n : Int) < m0.w → (n : Int) < m0.tx.length → (n : Int) < m0.r → (n : Int) < m0.ring → 0 ≤ m0.d → ∃ m', BP m0 (RP.thrs t 1 n) m' n
  | 0, m, t, p, _, _, _, _, _ => ⟨m, p⟩
  | n + 1, m, t, p, hw, hl, hr, hg, hd => by
    obtain ⟨m1, p1⟩ := BP.thrs n p (by omega) (by omega) (by omega) (by omega) hd
    exact p1.thr (by omega) (by omega) (by omega) (by omega) hd
/-- texts are sent and none is handed -/
theorem PS.sends {m0 : M} {bs k : Int} {kp : List (Int × Str)} {w2 : Int} {o2 : List Str} : ∀ (n : Nat) {m : M} {t : TS}, TM m0 t m → m.base = bs → m.top = k → m.out = o2 → bs ≤ k → k + n ≤ bs + m0.w → k + n ≤ m0.tx.length →
    ∃ m', TM m0 (RP.sends t k n) m' ∧ m'.base = bs ∧ m'.top = k + n ∧ m'.out = o2 ∧ m'.an = m.an
  | 0, m, t, p, h1, h2, h3, _, _, _ => ⟨m, p, h1, by rw [h2]; omega, h3, rfl⟩
  | n + 1, m, t, p, h1, h2, h3, hb, hw, hl => by
    obtain ⟨m1, p1, b1, t1, o1, a1⟩ := PS.sends (kp := kp) (w2 := w2) n p h1 h2 h3 hb (by omega) (by omega)
    have c := p1.const
    have hc2 : k + (n : Int) ≤ m1.last := by
      rw [last_le, b1, t1, c.1, c.2.2.2.2.2]
      omega
    refine ⟨_, p1.send (by rw [b1]; omega) hc2, b1, ?_, o1, a1⟩
    show sTop m1.top (k + n) = _
    unfold sTop
    rw [if_pos t1.symm, t1]
    omega
theorem tail_wrong {m0 m : M} {t : TS} {B O v : Int} {an1 an2 : List Int} (p : PS m0 t m B B []) (h0 : 0 ≤ B) (hw : 0 < m0.w) (hl : B + m0.w ≤ m0.tx.length) (ha : m.an = an1 ++ v :: an2) (ho : O = an1.length) (hb : (an2.length : Int) ≤ m0.b) (hv : (v - B) % m0.ring = m0.w) :
    ∃ m', m0.run ((RP.sends t B m0.w.toNat).tell O).st = some m' ∧ m'.isWrong = true := by
  obtain ⟨m1, p1, b1, t1, o1, a1⟩ := PS.sends (kp := []) (w2 := 0) m0.w.toNat p.tm p.base p.top p.out (Int.le_refl _) (by omega) (by omega)
  have c := p1.const
  have hT : isT O m1.an.length m1.b = true := by
    rw [isT_iff, a1, ha, c.2.2.2.1, ho]
    simp only [List.length_append, List.length_cons]
    omega
  have q := p1.tell hT
  refine ⟨_, q.run, wrong_base ?_⟩
  have ev : m1.an.getD O.toNat 0 = v := by
    rw [a1, ha, ho, Int.toNat_natCast, List.getD_eq_getElem?_getD, List.getElem?_append_right (Nat.le_refl _), Nat.sub_self]
    rfl
  show (m1.out.length : Int) < sBase m1.base m1.top m1.ring (m1.an.getD O.toNat 0)
  rw [ev, b1, t1, c.2.2.2.2.1, o1]
  unfold sBase
  rw [hv, if_pos (by omega), List.length_take]
  omega
theorem baa_wrong {w r d b N : Int} {tx : List Str} (hr : 1 ≤ r) (hrw : r ≤ w) (hd : 0 ≤ d) (hb : 0 ≤ b) (hge : w + r + d ≤ N) (hlt : N < w + r + b) (hl : (tx.length : Int) = N + 1) : ∃ m, (M.begun w r d b N tx).run (baa w b N).st = some m ∧ m.isWrong = true := by
  obtain ⟨s, es⟩ : ∃ s, s = mx2 0 (N - w - b) := ⟨_, rfl⟩
  have hs : (s = 0 ∧ N - w - b ≤ 0) ∨ (s = N - w - b ∧ 0 < s) := by
    rw [es]
    unfold mx2
    split <;> omega
  unfold baa
  rw [← es]
  clear es
  obtain ⟨m0, em⟩ : ∃ m0, m0 = M.begun w r d b N tx := ⟨_, rfl⟩
  rw [← em]
  have c0 : m0.w = w ∧ m0.r = r ∧ m0.d = d ∧ m0.b = b ∧ m0.ring = N ∧ m0.tx = tx := by rw [em]; exact ⟨rfl, rfl, rfl, rfl, rfl, rfl⟩
  have p0 : PS m0 t0S m0 0 0 [] := by rw [em]; exact ⟨⟨rfl, rfl, rfl⟩, rfl, rfl, rfl, rfl, rfl⟩
  have l0 : m0.ls = [] ∧ m0.an = [] := by rw [em]; exact ⟨rfl, rfl⟩
  clear em
  obtain ⟨c1, c2, c3, c4, c5, c6⟩ := c0
  have ew : w.toNat = m0.w.toNat := by rw [c1]
  rw [ew]
  have sub : ∀ k : Int, 0 ≤ k → k = N - w ∨ k = N - w + 1 → (k - (N - w) - k) % N = w := by
    intro k _ _
    rw [show k - (N - w) - k = w - N by omega, Int.sub_emod_right]
    exact Int.emod_eq_of_lt (by omega) (by omega)
  rcases hs with ⟨h1, h2⟩ | ⟨h1, h2⟩
  · rw [h1]
    unfold baaT baaB baaO
    rw [if_pos rfl, if_pos rfl, if_pos rfl]
    obtain ⟨m1, p1, e1, e2, e3⟩ := p0.thr (Int.le_refl _) (Int.le_refl _) (by rw [c1]; omega) (by rw [c6]; omega) (fun q hq => by cases hq) (by rw [c2]; omega) (by rw [c3]; exact hd)
    rw [l0.2] at e2 e3
    have p2 := p1.tell (an := []) e2 (by omega) (by rw [c5]; omega) (by rw [c4]; omega)
    obtain ⟨m3, p3, _, ⟨an, ea, la⟩⟩ := p2.thrTells (N - w + 1 - (0 + 1)).toNat (by omega) (by rw [c6]; omega) (by rw [c1]; omega) (by rw [c5]; omega) (by rw [c2]; omega) (by rw [c3]; exact hd) (by rw [c4]; exact hb)
    rw [show (0 : Int) + 1 + (((N - w + 1 - (0 + 1)).toNat : Nat) : Int) = N - w + 1 by omega] at p3
    refine tail_wrong (an1 := []) (v := (0 + 1) % m0.ring) (an2 := an) p3 (by omega) (by omega) (by rw [c1, c6]; omega) ?_ rfl (by rw [c4]; omega) ?_
    · rw [ea]
      show m1.an ++ an = _
      rw [e2]
      rfl
    · rw [c5, c1, Int.emod_sub_emod]
      rw [show 0 + 1 - (N - w + 1) = w - N by omega, Int.sub_emod_right]
      exact Int.emod_eq_of_lt (by omega) (by omega)
  · have hne : ¬ s = 0 := by omega
    unfold baaT baaB baaO
    rw [if_neg hne, if_neg hne, if_neg hne]
    have hs0 : m0.base ≤ 0 ∧ (0 : Int) ≤ m0.last := by
      rw [last_le, p0.base, p0.top, c1, c6]
      omega
    have q0 := p0.tm.send hs0.1 hs0.2
    have b0 : BP m0 (t0S.send 0) (sentM m0 0) 0 := ⟨q0, p0.base, by show sTop m0.top 0 = _; rw [p0.top]; rfl, p0.want, by show m0.out = []; rw [p0.out]; rfl, p0.kept, l0.2⟩
    obtain ⟨m1, b1⟩ := b0.thrs s.toNat (by rw [c1]; omega) (by rw [c6]; omega) (by rw [c2]; omega) (by rw [c5]; omega) (by rw [c3]; exact hd)
    obtain ⟨t1, et1⟩ : ∃ t1, t1 = thrs (t0S.send 0) 1 s.toNat := ⟨_, rfl⟩
    rw [← et1] at b1 ⊢
    have k1 := b1.tm.const
    have hs1 : m1.base ≤ 0 ∧ (0 : Int) ≤ m1.last := by
      rw [last_le, b1.base, b1.top, k1.1, k1.2.2.2.2.2, c1, c6]
      omega
    have q1 := b1.tm.send hs1.1 hs1.2
    have hls : (sentM m1 0).ls = m1.ls ++ [((0 : Int) % m0.ring, tx.getD 0 "")] := by
      show m1.ls ++ [((0 : Int) % m1.ring, m1.tx.getD (0 : Int).toNat "")] = _
      rw [k1.2.2.2.2.2, k1.2.2.2.2.1, c6]
      rfl
    have hT : isT t1.po (sentM m1 0).ls.length (sentM m1 0).d = true := by
      rw [isT_iff, hls, List.length_append, b1.tm.po]
      have e : (sentM m1 0).d = m0.d := k1.2.2.1
      rw [e, c3]
      show 0 ≤ (m1.ls.length : Int) ∧ ((m1.ls.length + 1 : Nat) : Int) - 1 - d ≤ (m1.ls.length : Int) ∧ (m1.ls.length : Int) < ((m1.ls.length + 1 : Nat) : Int)
      omega
    have q2 := q1.hand hT
    have eg : (sentM m1 0).ls.getD t1.po.toNat (0, "") = ((0 : Int) % m0.ring, tx.getD 0 "") := by
      rw [hls, b1.tm.po, Int.toNat_natCast, List.getD_eq_getElem?_getD, List.getElem?_append_right (Nat.le_refl _), Nat.sub_self]
      rfl
    rw [eg] at q2
    have ec : tkCame m1.r m1.ring m1.want m1.out m1.kept ((0 : Int) % m0.ring) (tx.getD 0 "") = (s + 1, tx.take (s + 1).toNat, []) := by
      rw [b1.want, b1.out, b1.kept, k1.2.2.2.2.1, came_want (by rw [k1.2.1, c2]; omega) (fun q hq => by have := runK_mem hq; omega), c6]
      have e1 : ([] : List Str) ++ [tx.getD 0 ""] = tx.take ((0 : Int) + 1).toNat := take_next (tx := tx) (k := 0) (Int.le_refl _) (by omega)
      rw [e1, show (0 : Int) + 1 = 1 by rfl, drained_run s.toNat 1 (by decide) (by omega), show (1 : Int) + (s.toNat : Int) = s + 1 by omega]
    have p4 : PS m0 (t1.thr 0) ((sentM m1 0).handed ((0 : Int) % m0.ring, tx.getD 0 "")) 0 (s + 1) [] := by
      refine ⟨q2, b1.base, ?_, ?_, ?_, ?_⟩
      · show sTop m1.top 0 = _
        unfold sTop
        rw [b1.top, if_neg (by omega)]
        omega
      · show (tkCame m1.r m1.ring m1.want m1.out m1.kept ((0 : Int) % m0.ring) (tx.getD 0 "")).1 = _
        rw [ec]
      · show (tkCame m1.r m1.ring m1.want m1.out m1.kept ((0 : Int) % m0.ring) (tx.getD 0 "")).2.1 = _
        rw [ec, c6]
      · show (tkCame m1.r m1.ring m1.want m1.out m1.kept ((0 : Int) % m0.ring) (tx.getD 0 "")).2.2 = _
        rw [ec]
    have ean : ((sentM m1 0).handed ((0 : Int) % m0.ring, tx.getD 0 "")).an = List.replicate s.toNat 0 ++ [(s + 1) % m0.ring] := by
      show m1.an ++ [(tkCame m1.r m1.ring m1.want m1.out m1.kept ((0 : Int) % m0.ring) (tx.getD 0 "")).1 % m1.ring] = _
      rw [ec, b1.an, k1.2.2.2.2.1]
    have er : t1.re = ((List.replicate s.toNat (0 : Int)).length : Nat) := by
      rw [b1.tm.re, b1.an]
    have p5 := p4.tell ean (by omega) (by rw [c5]; omega) (by rw [c4]; omega)
    rw [← er] at p5
    obtain ⟨m6, p6, _, ⟨an, ea, la⟩⟩ := p5.thrTells (N - w - (s + 1)).toNat (by omega) (by rw [c6]; omega) (by rw [c1]; omega) (by rw [c5]; omega) (by rw [c2]; omega) (by rw [c3]; exact hd) (by rw [c4]; exact hb)
    rw [show s + 1 + (((N - w - (s + 1)).toNat : Nat) : Int) = N - w by omega] at p6
    obtain ⟨n, hn⟩ : ∃ n, s.toNat = n + 1 := ⟨s.toNat - 1, by omega⟩
    refine tail_wrong (an1 := List.replicate n 0) (v := 0) (an2 := [(s + 1) % m0.ring] ++ an) p6 (by omega) (by omega) (by rw [c1, c6]; omega) ?_ ?_ ?_ ?_
    · rw [ea]
      show ((sentM m1 0).handed ((0 : Int) % m0.ring, tx.getD 0 "")).an ++ an = _
      rw [ean, hn, List.replicate_succ', List.append_assoc, List.append_assoc]
      rfl
    · rw [List.length_replicate]
      omega
    · rw [List.length_append, c4, la]
      show ((1 + _ : Nat) : Int) ≤ b
      omega
    · rw [c5, c1, show 0 - (N - w) = w - N by omega, Int.sub_emod_right]
      exact Int.emod_eq_of_lt (by omega) (by omega)
end RP

namespace RP
open PySem PySem.Spec PyProof.Rows L2 L2H
abbrev s_breaking : Stmt := top 36
abbrev N_breaking : List Str := ["bounds", "ring", "window", "room", "delay", "back"]
theorem sc_breaking : FnScope N_breaking ["bounds", "ring"] (defScope s_breaking) := ⟨rfl, rfl, rfl, by decide +kernel, rfl, by decide +kernel, by decide +kernel⟩
def sp_breaking (K : PySem.W.Frag) : Sp := fun vs H Q E => ∃ x y, vs = [x, y] ∧ KnI H x ∧ Kn H y ∧
  (boundsV H x = false → E (.ref (He.ga K "BadBounds")) none H) ∧
  (boundsV H x = true → amongV y 1 200 = false → E (.ref (He.ga K "BadRing")) none H) ∧
  (∀ a w r d b N, x = .ref a → H a = some (.tup [.int w, .int r, .int d, .int b]) → boundsV H x = true → y = .int N → 1 ≤ N → N ≤ 200 →
    (w + r + mx2 d b ≤ N → E (.ref (He.ga K "Safe")) none H) ∧
    (¬ w + r + mx2 d b ≤ N → ∀ l H', H l = none → Same H H' → StepsAt H' l (if N < w + r + d then bal w d N else baa w b N).st → Q (.ref l) H'))
theorem ok_breaking {P : Program} {w : World} {K : PySem.W.Frag} {mg : Str → Option Value} {base : Heap} (F : FnP K ("breaking", none) "breaking" "breaking" s_breaking) (hm : mg "breaking" = some (.ref (He.ga K "breaking"))) (bl : Blt mg) (c_by_a_letter : Cal P w K mg base 3 "by_a_letter" (sp_by_a_letter K)) (c_by_an_answer : Cal P w K mg base 3 "by_an_answer" (sp_by_an_answer K)) (c_least_ring : Cal P w K mg base 4 "least_ring" (sp_least_ring K)) (c_need_bounds : Cal P w K mg base 3 "need_bounds" (sp_need_bounds K)) (c_need_ring : Cal P w K mg base 2 "need_ring" (sp_need_ring K)) (e_Safe : ErrC K mg "Safe") : Cal P w K mg base 5 "breaking" (sp_breaking K) := by
  refine fn_cal F hm sc_breaking (fun vs H Q E => by walk_at "len") (fun _ _ _ _ _ _ us hl => match us, hl with | [_, _], _ => rfl) (fun f cdv A outer s H vs Q E hr h => ?_)
  have hu := hu_of hr
  obtain ⟨x, y, rfl, hk, hy, q1, q2, q3⟩ := h
  refine ⟨_, (pss_cons (ps_expr (pe_fn c_need_bounds (hr.mono (by decide)) (L2N.takes_of rfl rfl rfl rfl) (pa_cons (pv 0) pa_nil)))
  (pss_cons (ps_expr (pe_fn c_need_ring (hr.mono (by decide)) (L2N.takes_of rfl rfl rfl rfl) (pa_cons (pv 1) pa_nil)))
  (pss_cons (ps_asg (pv 0) (pg_tupC (n := 4) rfl (pgs_cons (pg_name (i := 2) sc_breaking.nd rfl (Or.inl rfl)) (pgs_cons (pg_name (i := 3) sc_breaking.nd rfl (Or.inl rfl)) (pgs_cons (pg_name (i := 4) sc_breaking.nd rfl (Or.inl rfl)) (pgs_cons (pg_name (i := 5) sc_breaking.nd rfl (Or.inl rfl)) pgs_nil))))))
  (pss_cons (ps_if (pt_cmpR op_ge (pv 1) (pe_fn c_least_ring (hr.mono (by decide)) (L2N.takes_of rfl rfl rfl rfl) (pa_cons (pv 0) pa_nil)) (nomark _))
  (pss_one (L2N.ps_raise rfl (L2N.takes_of rfl rfl rfl rfl) (L2N.pmk_own PySem.F.excBase_ValueError e_Safe.ex e_Safe.g e_Safe.k (raises_own e_Safe.s e_Safe.t) rfl)))
  pss_nil)
  (pss_cons (ps_if (pt_cmpR op_lt (pv 1) (pe_op op_add (pe_op op_add (pv 2) (pv 3)) (pv 4)) (nomark _))
  (pss_one (ps_ret (pe_fn c_by_a_letter (hr.mono (by decide)) (L2N.takes_of rfl rfl rfl rfl) (pa_cons (pv 2) (pa_cons (pv 4) (pa_cons (pv 1) pa_nil))))))
  pss_nil)
  (pss_one (ps_ret (pe_fn c_by_an_answer (hr.mono (by decide)) (L2N.takes_of rfl rfl rfl rfl) (pa_cons (pv 2) (pa_cons (pv 5) (pa_cons (pv 1) pa_nil))))))))))), ?_⟩
  walk_at "st0"
  simp only [RDa, RDb, RDv, RDk, RDx, RDe, RDd, RDp, RDq, List.getElem?_cons_zero, List.getElem?_cons_succ, List.set_cons_zero, List.set_cons_succ, List.cons.injEq, List.cons_ne_nil, reduceCtorEq, exists_eq_left', exists_eq_left, exists_and_left, and_assoc, exists_const, true_and, and_true, if_true, if_false, false_and, and_false, exists_false, false_or, or_false, true_implies, false_implies, implies_true, forall_eq, forall_eq', Bool.false_eq_true, if_neg, decide_eq_true_eq, Bool.not_eq_true', decide_eq_false_iff_not, Bool.not_true, Bool.not_false, List.length_cons, List.length_nil, sizeLine_eq, Nat.reduceAdd, Nat.reduceLeDiff, Nat.reduceLT, Int.reduceLT, Int.reduceLE, Int.emod_nonneg, ne_eq, Int.reduceEq, not_false_eq_true, not_true_eq_false, sp_need_bounds, sp_need_ring, hk, hy]
  refine ⟨fun hb => ⟨fun ha => ?_, q2 hb⟩, q1⟩
  obtain ⟨a, w', r, d, b, rfl, hba, h1, h2, h3, h4, h5, h6, h7, h8⟩ := boundsV_ints hb
  obtain ⟨N, rfl, hN1, hN2⟩ := amongV_int ha
  obtain ⟨g1, g2⟩ := q3 a w' r d b N rfl hba hb rfl hN1 hN2
  clear q3
  refine ⟨a, rfl, _, hba, rfl, _, _, rfl, _, _, rfl, _, _, rfl, _, _, rfl, rfl, _, rfl, hk, ?_, fun h => ?_⟩
  · rintro a2 w2 r2 d2 b2 ea e2 _
    injection ea with ea
    rw [← ea, hba] at e2
    injection e2 with e2
    injection e2 with e2
    simp only [List.cons.injEq, V.int.injEq, and_true] at e2
    obtain ⟨rfl, rfl, rfl, rfl⟩ := e2
    refine ⟨_, rfl, _, rfl, ?_⟩
    by_cases c : w' + r + mx2 d b ≤ N
    · rw [if_pos c]
      exact g1 c
    · rw [if_neg c]
      refine ⟨_, rfl, _, rfl, _, rfl, ?_⟩
      have g2 := g2 c
      refine ⟨_, rfl, ?_⟩
      by_cases c2 : N < w' + r + d
      · rw [if_pos c2] at g2 ⊢
        exact ⟨_, _, _, rfl, h1, h2, h5, h6, hN1, hN2, g2⟩
      · rw [if_neg c2] at g2 ⊢
        exact ⟨_, _, _, rfl, h1, h2, h7, h8, by omega, hN2, g2⟩
  · rw [hb] at h
    cases h
end RP

namespace RP
open PySem PySem.Spec PyProof.Rows L2 L2H
/-! the steps are steps -/
def Wd (t : TS) : Prop := ∀ q ∈ t.st, isWord q.1
theorem Wd.snoc {l : List (Str × Int)} {q : Str × Int} (h : ∀ q ∈ l, isWord q.1) (hq : isWord q.1) : ∀ q' ∈ l ++ [q], isWord q'.1 := fun q' m => by
  rcases List.mem_append.mp m with m | m
  · exact h _ m
  · rw [List.mem_singleton.mp m]
    exact hq
theorem Wd.send {t : TS} (h : Wd t) (k : Int) : Wd (t.send k) := Wd.snoc h isWord3.1
theorem Wd.hand {t : TS} (h : Wd t) (k : Int) : Wd (t.hand k) := Wd.snoc h isWord3.2.1
theorem Wd.tell {t : TS} (h : Wd t) (k : Int) : Wd (t.tell k) := Wd.snoc h isWord3.2.2
theorem Wd.thr {t : TS} (h : Wd t) (k : Int) : Wd (t.thr k) := (h.send k).hand _
theorem Wd.thrs {t : TS} (h : Wd t) (k : Int) : ∀ n, Wd (RP.thrs t k n)
  | 0 => h
  | n + 1 => (Wd.thrs h k n).thr _
theorem Wd.thrTells {t : TS} (h : Wd t) (k : Int) : ∀ n, Wd (RP.thrTells t k n)
  | 0 => h
  | n + 1 => ((Wd.thrTells h k n).thr _).tell _
theorem Wd.sends {t : TS} (h : Wd t) (k : Int) : ∀ n, Wd (RP.sends t k n)
  | 0 => h
  | n + 1 => (Wd.sends h k n).send _
theorem Wd.nil : Wd t0S := fun _ m => by cases m
theorem bal_wd (w d N : Int) : Wd (bal w d N) := by
  unfold bal
  refine Wd.thrs (Wd.hand ?_ _) _ _
  split
  · exact Wd.thrTells (Wd.tell (Wd.send (Wd.thrs Wd.nil _ _) _) _) _ _
  · exact Wd.send (Wd.thrs Wd.nil _ _) _
theorem baa_wd (w b N : Int) : Wd (baa w b N) := by
  unfold baa
  refine Wd.tell (Wd.sends (Wd.thrTells ?_ _ _) _ _) _
  unfold baaT
  split
  · exact (Wd.nil.thr _).tell _
  · exact (Wd.thr (Wd.thrs (Wd.nil.send _) _ _) _).tell _
theorem hand_len (t : TS) (k : Int) : (t.hand k).st.length = t.st.length + 1 := by
  show (t.st ++ [_]).length = _
  rw [List.length_append]
  rfl
theorem bal_len {w d N : Int} (hw : 1 ≤ w) (hd : 0 ≤ d) (hN0 : 1 ≤ N) (hN : N ≤ 200) : (bal w d N).st.length ≤ 5000 := by
  have h1 := mn2_le.mp (Int.le_refl (mn2 N (w + d)))
  have h2 := mn2_le.mp (Int.le_refl (mn2 w (mn2 N (w + d))))
  have h3 : 1 ≤ mn2 N (w + d) := mn2_le.mpr ⟨by omega, by omega⟩
  have h4 : 1 ≤ mn2 w (mn2 N (w + d)) := mn2_le.mpr ⟨by omega, by omega⟩
  unfold bal
  generalize mn2 w (mn2 N (w + d)) = f at *
  generalize mn2 N (w + d) = g at *
  rw [thrs_len, hand_len]
  have e2 : (t0S).st.length = 0 := rfl
  split
  · rw [thrTells_len, tell_len, send_len, thrs_len, e2]
    omega
  · rw [send_len, thrs_len, e2]
    omega
theorem baa_len {w b N : Int} (hw : 1 ≤ w) (hw2 : w ≤ 20) (hb : 0 ≤ b) (hN : N ≤ 200) : (baa w b N).st.length ≤ 5000 := by
  obtain ⟨s, es⟩ : ∃ s, s = mx2 0 (N - w - b) := ⟨_, rfl⟩
  have hs : 0 ≤ s ∧ s ≤ 200 := by
    rw [es]
    unfold mx2
    split <;> omega
  unfold baa
  rw [← es, tell_len, sends_len, thrTells_len]
  have h1 : (baaT s).st.length ≤ 1000 := by
    unfold baaT
    split
    · decide
    · rw [tell_len, thr_len, thrs_len, send_len]
      show 0 + 1 + 2 * s.toNat + 2 + 1 ≤ _
      omega
  have h2 : baaB (N - w) s ≤ 201 := by
    unfold baaB
    split <;> omega
  omega
theorem step_rng {m m' : M} {N : Nat} {z : Str} {n t : Int} (ok : m.Ok N) (hN : N ≤ 90000) (hz : isWord z) (e : m.step z n = some (t, m')) : 0 ≤ n ∧ n ≤ 999999 := by
  have h1 := ok.b0
  have h2 := ok.tx
  have h3 := ok.ls
  have h4 := ok.an
  rcases hz with rfl | rfl | rfl
  · have es : m.step "send" n = m.send n := rfl
    rw [es] at e
    unfold M.send at e
    split at e
    · rename_i c
      have := last_le.mp c.2
      omega
    · cases e
  · have es : m.step "hand" n = m.hand n := rfl
    rw [es] at e
    unfold M.hand at e
    split at e
    · rename_i c
      have := isT_iff.mp c
      omega
    · cases e
  · have es : m.step "tell" n = m.tell n := rfl
    rw [es] at e
    unfold M.tell at e
    split at e
    · rename_i c
      have := isT_iff.mp c
      omega
    · cases e
def brkS (w r d b N : Int) : List (Str × Int) := (if N < w + r + d then bal w d N else baa w b N).st
theorem brkS_wrong {w r d b N : Int} {tx : List Str} (h1 : 1 ≤ w) (h2 : w ≤ 20) (h3 : 1 ≤ r) (h4 : r ≤ w) (h5 : 0 ≤ d) (h6 : 0 ≤ b) (hN : 1 ≤ N) (hN2 : N ≤ 200) (hlt : ¬ w + r + mx2 d b ≤ N) (hl : (tx.length : Int) = N + 1) (hu : Unlike tx) :
    (∃ m, (M.begun w r d b N tx).run (brkS w r d b N) = some m ∧ m.isWrong = true) ∧ (∀ q ∈ brkS w r d b N, isWord q.1) ∧ (brkS w r d b N).length ≤ 5000 := by
  unfold brkS
  by_cases c : N < w + r + d
  · rw [if_pos c]
    exact ⟨bal_wrong h1 h3 h4 h5 h6 hN c hl hu, bal_wd _ _ _, bal_len h1 h5 hN hN2⟩
  · rw [if_neg c]
    have hx : mx2 d b = d ∨ mx2 d b = b := by unfold mx2; split <;> simp
    exact ⟨baa_wrong h3 h4 h5 h6 (by omega) (by omega) hl, baa_wd _ _ _, baa_len h1 h2 h6 hN2⟩
end RP

namespace RP
open PySem PySem.Spec PyProof.Rows L2 L2H
/-! texts that are unlike -/
def decodeS (z : Str) : Nat := z.cps.toList.foldl (fun a c => a * 10 + (c - 48)) 0
theorem dec_all : ∀ i : Fin 100, decodeS (Str.ofString (toString ((i.val : Nat) : Int))) = i.val ∧ (Str.ofString (toString ((i.val : Nat) : Int))).cps.toList ≠ [] := by decide +kernel
theorem cps_app (a b : Str) : (a ++ b).cps.toList = a.cps.toList ++ b.cps.toList := Array.toList_append
theorem lawTxt0_ne {n sorts : Int} {i j : Nat} (hi : (i : Int) < sorts) (hj : (j : Int) < sorts) (h : sorts ≤ 100) (e : lawTxt0 n sorts i = lawTxt0 n sorts j) : i = j := by
  unfold lawTxt0 at e
  have e2 := congrArg (fun z : Str => z.cps.toList) e
  simp only [cps_app] at e2
  have e3 := List.append_cancel_left (List.append_cancel_right e2)
  rw [Int.emod_eq_of_lt (by omega) hi, Int.emod_eq_of_lt (by omega) hj] at e3
  have d1 := (dec_all ⟨i, by omega⟩).1
  have d2 := (dec_all ⟨j, by omega⟩).1
  unfold decodeS at d1 d2
  dsimp only at d1 d2
  rw [e3, d2] at d1
  exact d1.symm
theorem lawTxt0_some {n sorts : Int} {i : Nat} (hi : (i : Int) < sorts) (h : sorts ≤ 100) : lawTxt0 n sorts i ≠ "" := by
  intro e
  unfold lawTxt0 at e
  have e2 := congrArg (fun z : Str => z.cps.toList) e
  simp only [cps_app] at e2
  rw [Int.emod_eq_of_lt (by omega) hi] at e2
  have e3 : ("" : Str).cps.toList = [] := by decide +kernel
  rw [e3] at e2
  exact (dec_all ⟨i, by omega⟩).2 (List.append_eq_nil_iff.mp (List.append_eq_nil_iff.mp e2).1).2
theorem unlike_law {n sorts : Int} (h : sorts ≤ 100) {many : Nat} (hm : (many : Int) = sorts) : Unlike (lawTexts n sorts many) := by
  intro i j hi hj hij
  have g : ∀ k : Nat, k < many → (lawTexts n sorts many).getD k "" = lawTxt n sorts k := fun k hk => by
    unfold lawTexts
    rw [List.getD_eq_getElem?_getD, List.getElem?_map, List.getElem?_range hk]
    rfl
  unfold lawTexts at hi hj
  rw [List.length_map, List.length_range] at hi hj
  rw [g i hi, g j hj]
  unfold lawTxt
  intro e
  split at e
  · rename_i c
    split at e
    · rename_i c2
      have e1 := c.2
      have e2 := c2.2
      rw [Int.emod_eq_of_lt (a := (i : Int)) (by omega) (by omega)] at e1
      rw [Int.emod_eq_of_lt (a := (j : Int)) (by omega) (by omega)] at e2
      omega
    · exact lawTxt0_some (by omega) h e.symm
  · split at e
    · exact lawTxt0_some (by omega) h e
    · exact hij (lawTxt0_ne (by omega) (by omega) h e)
end RP

namespace RP
open PySem PySem.Spec PyProof.Rows L2 L2H
/-! the law's own rows -/
def mD (b : Addr) (ring : Int) (x : Addr) (base top : Int) (o k l a : Addr) : List (Key × V) :=
  [(Sum.inr "bounds", .ref b), (Sum.inr "ring", .int ring), (Sum.inr "texts", .ref x), (Sum.inr "base", .int base), (Sum.inr "top", .int top), (Sum.inr "out", .ref o), (Sum.inr "kept", .ref k), (Sum.inr "letters", .ref l), (Sum.inr "answers", .ref a)]
def mD7 (b : Addr) (ring : Int) (x : Addr) (base top : Int) (o k : Addr) : List (Key × V) :=
  [(Sum.inr "bounds", .ref b), (Sum.inr "ring", .int ring), (Sum.inr "texts", .ref x), (Sum.inr "base", .int base), (Sum.inr "top", .int top), (Sum.inr "out", .ref o), (Sum.inr "kept", .ref k)]
theorem mL : (∀ b ring x base top o k l a, valV (mD b ring x base top o k l a) (Sum.inr "bounds" : Key) = some (.ref b)) ∧ (∀ b ring x base top o k l a, valV (mD b ring x base top o k l a) (Sum.inr "ring" : Key) = some (.int ring)) ∧
    (∀ b ring x base top o k l a, valV (mD b ring x base top o k l a) (Sum.inr "texts" : Key) = some (.ref x)) ∧ (∀ b ring x base top o k l a, valV (mD b ring x base top o k l a) (Sum.inr "base" : Key) = some (.int base)) ∧
    (∀ b ring x base top o k l a, valV (mD b ring x base top o k l a) (Sum.inr "top" : Key) = some (.int top)) ∧ (∀ b ring x base top o k l a, valV (mD b ring x base top o k l a) (Sum.inr "out" : Key) = some (.ref o)) ∧
    (∀ b ring x base top o k l a, valV (mD b ring x base top o k l a) (Sum.inr "kept" : Key) = some (.ref k)) ∧ (∀ b ring x base top o k l a, valV (mD b ring x base top o k l a) (Sum.inr "letters" : Key) = some (.ref l)) ∧
    (∀ b ring x base top o k l a, valV (mD b ring x base top o k l a) (Sum.inr "answers" : Key) = some (.ref a)) ∧ (∀ b ring x base top o k l a y, putK (mD b ring x base top o k l a) (Sum.inr "base" : Key) (.int y) = mD b ring x y top o k l a) ∧
    (∀ b ring x base top o k l a y, putK (mD b ring x base top o k l a) (Sum.inr "top" : Key) (.int y) = mD b ring x base y o k l a) ∧ (∀ b ring x base top o k l a, (mD b ring x base top o k l a).length = 9) := by
  refine ⟨?_, ?_, ?_, ?_, ?_, ?_, ?_, ?_, ?_, ?_, ?_, ?_⟩ <;> intros <;> first | rfl | kernel_rfl
theorem mL7 : (∀ b ring x base top o k l, putK (mD7 b ring x base top o k) (Sum.inr "letters" : Key) (.ref l) = mD7 b ring x base top o k ++ [((Sum.inr "letters" : Key), V.ref l)]) ∧ (∀ b ring x base top o k l a, putK (mD7 b ring x base top o k ++ [((Sum.inr "letters" : Key), V.ref l)]) (Sum.inr "answers" : Key) (.ref a) = mD b ring x base top o k l a) ∧
    (∀ b ring x base top o k, (mD7 b ring x base top o k).length = 7) ∧ (∀ b ring x base top o k l, (mD7 b ring x base top o k ++ [((Sum.inr "letters" : Key), V.ref l)]).length = 8) := by
  refine ⟨?_, ?_, ?_, ?_⟩ <;> intros <;> first | rfl | kernel_rfl
/-- the places of the rows -/
structure RwA where
  m : Addr
  b : Addr
  x : Addr
  o : Addr
  k : Addr
  l : Addr
  a : Addr
def RwA.mu (R : RwA) : List Addr := [R.m, R.o, R.k, R.l, R.a]
def RwA.al (R : RwA) : List Addr := [R.m, R.x, R.o, R.k, R.l, R.a]
structure RwAt (H : Hp) (R : RwA) (m : M) : Prop where
  dic : H R.m = some (.dK (mD R.b m.ring R.x m.base m.top R.o R.k R.l R.a))
  bnd : H R.b = some (.tup [.int m.w, .int m.r, .int m.d, .int m.b])
  tx : H R.x = some (.lst (m.tx.map V.str))
  out : H R.o = some (.lst (m.out.map V.str))
  kept : H R.k = some (.dK (kvs m.kept))
  ls : ∃ vs, H R.l = some (.lst vs) ∧ All2 (LetAt H) m.ls vs
  an : H R.a = some (.lst (m.an.map V.int))
  want : m.want = m.out.length
  nd : R.al.Nodup
theorem RwAt.fr {H H1 : Hp} {R : RwA} {m : M} {B : List Addr} (t : RwAt H R m) (f : Fr B H H1) (hB : ∀ x ∈ R.al, x ∉ B) (hT : ∀ x ∈ B, ∀ xs, H x ≠ some (.tup xs)) : RwAt H1 R m := by
  simp only [RwA.al, List.mem_cons, List.not_mem_nil, or_false, forall_eq_or_imp, forall_eq] at hB
  obtain ⟨h1, h2, h3, h4, h5, h6⟩ := hB
  exact ⟨f _ _ h1 t.dic, f _ _ (fun mm => hT _ mm _ t.bnd) t.bnd, f _ _ h2 t.tx, f _ _ h3 t.out, f _ _ h4 t.kept, t.ls.elim fun vs e => ⟨vs, f _ _ h5 e.1, e.2.mono fun _ _ => LetAt.fr f hT⟩, f _ _ h6 t.an, t.want, t.nd⟩
theorem RwAt.same {H H1 : Hp} {R : RwA} {m : M} (t : RwAt H R m) (f : Same H H1) : RwAt H1 R m :=
  t.fr (.of (A := []) f) (fun _ _ => by simp) (fun _ h => by simp at h)
theorem RwAt.nt {H : Hp} {R : RwA} {m : M} (t : RwAt H R m) : ∀ x ∈ R.al, ∀ xs, H x ≠ some (.tup xs) := by
  intro x hx xs
  obtain ⟨vs, hl, _⟩ := t.ls
  simp only [RwA.al, List.mem_cons, List.not_mem_nil, or_false] at hx
  rcases hx with rfl | rfl | rfl | rfl | rfl | rfl
  · rw [t.dic]; simp
  · rw [t.tx]; simp
  · rw [t.out]; simp
  · rw [t.kept]; simp
  · rw [hl]; simp
  · rw [t.an]; simp
theorem RwA.mu_al (R : RwA) : ∀ x ∈ R.mu, x ∈ R.al := fun x hx => by
  revert hx
  simp only [RwA.mu, RwA.al, List.mem_cons, List.not_mem_nil, or_false]
  rintro (rfl | rfl | rfl | rfl | rfl) <;> simp
theorem RwAt.live {H : Hp} {R : RwA} {m : M} (t : RwAt H R m) : ∀ x ∈ R.al, H x ≠ none := by
  intro x hx
  obtain ⟨vs, hl, _⟩ := t.ls
  simp only [RwA.al, List.mem_cons, List.not_mem_nil, or_false] at hx
  rcases hx with rfl | rfl | rfl | rfl | rfl | rfl
  · rw [t.dic]; simp
  · rw [t.tx]; simp
  · rw [t.out]; simp
  · rw [t.kept]; simp
  · rw [hl]; simp
  · rw [t.an]; simp
abbrev s__law_begun : Stmt := top 43
abbrev N__law_begun : List Str := ["_law_bounds_here", "_law_ring", "_law_texts_here", "_law_m"]
theorem sc__law_begun : FnScope N__law_begun ["_law_bounds_here", "_law_ring", "_law_texts_here"] (defScope s__law_begun) := ⟨rfl, rfl, rfl, by decide +kernel, rfl, by decide +kernel, by decide +kernel⟩
def sp__law_begun (K : PySem.W.Frag) : Sp := fun vs H Q E => ∃ (ba x : Addr) (w r d b ring : Int) (tx : List Str), vs = [.ref ba, .int ring, .ref x] ∧ H ba = some (.tup [.int w, .int r, .int d, .int b]) ∧ H x = some (.lst (tx.map V.str)) ∧
  ∀ (R : RwA) H', R.b = ba → R.x = x → (∀ c ∈ R.mu, H c = none) → Same H H' → RwAt H' R (M.begun w r d b ring tx) → Q (.ref R.m) H'
theorem ok__law_begun {P : Program} {w : World} {K : PySem.W.Frag} {mg : Str → Option Value} {base : Heap} (F : FnP K ("_law_begun", none) "_law_begun" "_law_begun" s__law_begun) (hm : mg "_law_begun" = some (.ref (He.ga K "_law_begun"))) (bl : Blt mg) : Cal P w K mg base 1 "_law_begun" (sp__law_begun K) := by
  refine fn_cal F hm sc__law_begun (fun vs H Q E => by walk_at "len") (fun _ _ _ _ _ _ us hl => match us, hl with | [_, _, _], _ => rfl) (fun f cdv A outer s H vs Q E hr h => ?_)
  have hu := hu_of hr
  obtain ⟨ba, x, w', r, d, b, ring, tx, rfl, hb, hx, q⟩ := h
  refine ⟨_, (pss_cons (ps_set (i := 3) sc__law_begun.nd rfl (Or.inl rfl) (pe_disp (pps_cons pe_str (pv 0) (pps_cons pe_str (pv 1) (pps_cons pe_str (pv 2) (pps_cons pe_str pe_int (pps_cons pe_str pe_int (pps_cons pe_str (pe_lst pa_nil) (pps_cons pe_str pe_dnewK pps_nil))))))) (by rfl) (by rfl) (fun z => by cases z) (by decide)))
  (pss_cons (ps_putD (by exact hu) (pv 3) pe_str (pe_lst pa_nil) rfl)
  (pss_cons (ps_putD (by exact hu) (pv 3) pe_str (pe_lst pa_nil) rfl)
  (pss_one (ps_ret (pv 3)))))), ?_⟩
  walk_at "st0"
  refine seq_gen fun N_a h_a => ?_
  simp only [RDa, RDb, RDv, RDk, RDx, RDe, RDd, RDp, RDq, List.getElem?_cons_zero, List.getElem?_cons_succ, List.set_cons_zero, List.set_cons_succ, List.cons.injEq, List.cons_ne_nil, reduceCtorEq, exists_eq_left', exists_eq_left, exists_and_left, and_assoc, exists_const, true_and, and_true, if_true, if_false, false_and, and_false, exists_false, false_or, or_false, true_implies, false_implies, implies_true, forall_eq, forall_eq', Bool.false_eq_true, if_neg, decide_eq_true_eq, Bool.not_eq_true', decide_eq_false_iff_not, Bool.not_true, Bool.not_false, List.length_cons, List.length_nil, sizeLine_eq, Nat.reduceAdd, Nat.reduceLeDiff, Nat.reduceLT, Int.reduceLT, Int.reduceLE, Int.emod_nonneg, ne_eq, Int.reduceEq, not_false_eq_true, not_true_eq_false]
  intro m n_m
  generalize e_H2 : upd H m (.dK []) = H2
  have a_H2 : H2 m = some (.dK []) := by rw [← e_H2]; exact upd_same
  have s_H2 : Same H H2 := by rw [← e_H2]; exact same_new n_m
  intro mo n_mo
  generalize e_H3 : upd H2 mo (.lst []) = H3
  have a_H3 : H3 mo = some (.lst []) := by rw [← e_H3]; exact upd_same
  have s_H3 : Same H2 H3 := by rw [← e_H3]; exact same_new n_mo
  intro mk n_mk
  generalize e_H4 : upd H3 mk (.dK []) = H4
  have a_H4 : H4 mk = some (.dK []) := by rw [← e_H4]; exact upd_same
  have s_H4 : Same H3 H4 := by rw [← e_H4]; exact same_new n_mk
  have hm4 := s_H4 _ _ (s_H3 _ _ a_H2)
  refine ⟨hm4, mD7 ba ring x 0 0 mo mk, rfl, (by show (7 : Nat) ≤ 15; decide), h_a _ _ ?_⟩
  clear h_a
  have em : mergeK [] (mD7 ba ring x 0 0 mo mk) = mD7 ba ring x 0 0 mo mk := by rfl
  rw [em]
  have d1 : m ≠ mo := ne_of_none a_H2 n_mo
  have d2 : m ≠ mk := ne_of_none (s_H3 _ _ a_H2) n_mk
  have d3 : mo ≠ mk := ne_of_none a_H3 n_mk
  have s5 : Same H (upd H4 m (.dK (mD7 ba ring x 0 0 mo mk))) := fun c o e => by
    rw [upd_ne (ne_of_none e n_m)]
    exact s_H4 _ _ (s_H3 _ _ (s_H2 _ _ e))
  have e1 : (upd H4 m (.dK (mD7 ba ring x 0 0 mo mk))) m = _ := upd_same
  have e2 : (upd H4 m (.dK (mD7 ba ring x 0 0 mo mk))) mo = some (.lst []) := by rw [upd_ne (Ne.symm d1)]; exact s_H4 _ _ a_H3
  have e3 : (upd H4 m (.dK (mD7 ba ring x 0 0 mo mk))) mk = some (.dK []) := by rw [upd_ne (Ne.symm d2)]; exact a_H4
  generalize upd H4 m (.dK (mD7 ba ring x 0 0 mo mk)) = H5 at s5 e1 e2 e3
  clear hm4 em
  refine seq_gen fun N_b h_b => ?_
  simp only [RDa, RDb, RDv, RDk, RDx, RDe, RDd, RDp, RDq, List.getElem?_cons_zero, List.getElem?_cons_succ, List.set_cons_zero, List.set_cons_succ, List.cons.injEq, List.cons_ne_nil, reduceCtorEq, exists_eq_left', exists_eq_left, exists_and_left, and_assoc, exists_const, true_and, and_true, if_true, if_false, false_and, and_false, exists_false, false_or, or_false, true_implies, false_implies, implies_true, forall_eq, forall_eq', Bool.false_eq_true, if_neg, decide_eq_true_eq, Bool.not_eq_true', decide_eq_false_iff_not, Bool.not_true, Bool.not_false, List.length_cons, List.length_nil, sizeLine_eq, Nat.reduceAdd, Nat.reduceLeDiff, Nat.reduceLT, Int.reduceLT, Int.reduceLE, Int.emod_nonneg, ne_eq, Int.reduceEq, not_false_eq_true, not_true_eq_false]
  intro ml n_ml
  have dl : m ≠ ml := ne_of_none e1 n_ml
  have e1' := (upd_ne (o := HO.lst []) dl).trans e1
  refine ⟨_, e1', by rw [mL7.2.2.1]; decide, h_b _ _ ?_⟩
  clear h_b
  rw [mL7.1]
  have f6 : Fr [m] H5 (upd (upd H5 ml (.lst [])) m (.dK (mD7 ba ring x 0 0 mo mk ++ [((Sum.inr "letters" : Key), V.ref ml)]))) := ((Fr.refl _ _).new n_ml).upd (by simp)
  have e4 : (upd (upd H5 ml (.lst [])) m (.dK (mD7 ba ring x 0 0 mo mk ++ [((Sum.inr "letters" : Key), V.ref ml)]))) m = _ := upd_same
  have e5 : (upd (upd H5 ml (.lst [])) m (.dK (mD7 ba ring x 0 0 mo mk ++ [((Sum.inr "letters" : Key), V.ref ml)]))) ml = some (.lst []) := (upd_ne (Ne.symm dl)).trans upd_same
  generalize upd (upd H5 ml (.lst [])) m (.dK (mD7 ba ring x 0 0 mo mk ++ [((Sum.inr "letters" : Key), V.ref ml)])) = H6 at f6 e4 e5
  refine seq_gen fun N_c h_c => ?_
  simp only [RDa, RDb, RDv, RDk, RDx, RDe, RDd, RDp, RDq, List.getElem?_cons_zero, List.getElem?_cons_succ, List.set_cons_zero, List.set_cons_succ, List.cons.injEq, List.cons_ne_nil, reduceCtorEq, exists_eq_left', exists_eq_left, exists_and_left, and_assoc, exists_const, true_and, and_true, if_true, if_false, false_and, and_false, exists_false, false_or, or_false, true_implies, false_implies, implies_true, forall_eq, forall_eq', Bool.false_eq_true, if_neg, decide_eq_true_eq, Bool.not_eq_true', decide_eq_false_iff_not, Bool.not_true, Bool.not_false, List.length_cons, List.length_nil, sizeLine_eq, Nat.reduceAdd, Nat.reduceLeDiff, Nat.reduceLT, Int.reduceLT, Int.reduceLE, Int.emod_nonneg, ne_eq, Int.reduceEq, not_false_eq_true, not_true_eq_false]
  intro ma n_ma
  have da : m ≠ ma := ne_of_none e4 n_ma
  have e4' := (upd_ne (o := HO.lst []) da).trans e4
  refine ⟨_, e4', by rw [mL7.2.2.2]; decide, h_c _ _ ?_⟩
  clear h_c
  rw [mL7.2.1]
  have f7 : Fr [m] H6 (upd (upd H6 ma (.lst [])) m (.dK (mD ba ring x 0 0 mo mk ml ma))) := ((Fr.refl _ _).new n_ma).upd (by simp)
  have e6 : (upd (upd H6 ma (.lst [])) m (.dK (mD ba ring x 0 0 mo mk ml ma))) m = _ := upd_same
  have e7 : (upd (upd H6 ma (.lst [])) m (.dK (mD ba ring x 0 0 mo mk ml ma))) ma = some (.lst []) := (upd_ne (Ne.symm da)).trans upd_same
  generalize upd (upd H6 ma (.lst [])) m (.dK (mD ba ring x 0 0 mo mk ml ma)) = H7 at f7 e6 e7
  have f57 : Fr [m] H5 H7 := f6.trans f7
  have hmm : ∀ c o, H c = some o → c ∉ [m] := fun c o e => by simpa using ne_of_none e n_m
  have sH7 : Same H H7 := fun c o e => f57 _ _ (hmm c o e) (s5 _ _ e)
  have k2 := f57 _ _ (by simpa using Ne.symm d1) e2
  have k3 := f57 _ _ (by simpa using Ne.symm d2) e3
  have k5 := f7 _ _ (by simpa using Ne.symm dl) e5
  have fb : ∀ c, H5 c = none → H c = none := fun c n => by
    cases e : H c with
    | none => rfl
    | some o => rw [s5 _ _ e] at n; cases n
  have nl : H ml = none := fb _ n_ml
  have na : H ma = none := by
    cases e : H ma with
    | none => rfl
    | some o =>
      have := f6 _ _ (hmm _ _ e) (s5 _ _ e)
      rw [n_ma] at this
      cases this
  have no : H mo = none := by
    cases e : H mo with
    | none => rfl
    | some o => rw [s_H2 _ _ e] at n_mo; cases n_mo
  have nk : H mk = none := by
    cases e : H mk with
    | none => rfl
    | some o => rw [s_H3 _ _ (s_H2 _ _ e)] at n_mk; cases n_mk
  simp only [RDa, RDb, RDv, RDk, RDx, RDe, RDd, RDp, RDq, List.getElem?_cons_zero, List.getElem?_cons_succ, List.set_cons_zero, List.set_cons_succ, List.cons.injEq, List.cons_ne_nil, reduceCtorEq, exists_eq_left', exists_eq_left, exists_and_left, and_assoc, exists_const, true_and, and_true, if_true, if_false, false_and, and_false, exists_false, false_or, or_false, true_implies, false_implies, implies_true, forall_eq, forall_eq', Bool.false_eq_true, if_neg, decide_eq_true_eq, Bool.not_eq_true', decide_eq_false_iff_not, Bool.not_true, Bool.not_false, List.length_cons, List.length_nil, sizeLine_eq, Nat.reduceAdd, Nat.reduceLeDiff, Nat.reduceLT, Int.reduceLT, Int.reduceLE, Int.emod_nonneg, ne_eq, Int.reduceEq, not_false_eq_true, not_true_eq_false]
  refine q ⟨m, ba, x, mo, mk, ml, ma⟩ H7 rfl rfl (fun c hc => ?_) sH7 ⟨e6, sH7 _ _ hb, sH7 _ _ hx, k2, k3, ⟨[], k5, .nil⟩, e7, rfl, ?_⟩
  · simp only [RwA.mu, List.mem_cons, List.not_mem_nil, or_false] at hc
    rcases hc with rfl | rfl | rfl | rfl | rfl
    · exact n_m
    · exact no
    · exact nk
    · exact nl
    · exact na
  · have hal : ma ≠ ml := fun e => by
      rw [e, e5] at n_ma
      cases n_ma
    have x1 := fun c (n : H c = none) => ne_of_none hx n
    simp only [RwA.al, List.nodup_cons, List.mem_cons, List.not_mem_nil, or_false, not_or, List.nodup_nil, and_true, not_false_eq_true]
    have o1 : mo ≠ ml := ne_of_none e2 n_ml
    have o2 : mk ≠ ml := ne_of_none e3 n_ml
    have o3 : mo ≠ ma := ne_of_none (f6 _ _ (by simpa using Ne.symm d1) e2) n_ma
    have o4 : mk ≠ ma := ne_of_none (f6 _ _ (by simpa using Ne.symm d2) e3) n_ma
    exact ⟨⟨Ne.symm (x1 m n_m), d1, d2, dl, da⟩, ⟨x1 _ no, x1 _ nk, x1 _ nl, x1 _ na⟩, ⟨d3, o1, o3⟩, ⟨o2, o4⟩, Ne.symm hal⟩
end RP

namespace RP
open PySem PySem.Spec PyProof.Rows L2 L2H
def Told (H : Hp) (R : RwA) (Q : VK) (t : Int) (m' : M) : Prop := ∀ H' q, Fr R.mu H H' → RwAt H' R m' → H q = none → H' q = some (.tup [.str "told", .int t]) → Q (.ref q) H'
def Refd (H : Hp) (Q : VK) (z : Str) : Prop := ∀ H' q, Same H H' → H q = none → H' q = some (.tup [.str "refused", .str z]) → Q (.ref q) H'
theorem RwAt.free {H H1 : Hp} {R : RwA} {m : M} (t : RwAt H1 R m) (f : Fr R.mu H H1) {c : Addr} (n : H1 c = none) : H c = none := by
  cases e : H c with
  | none => rfl
  | some o =>
    by_cases hc : c ∈ R.mu
    · exact absurd n (t.live c (R.mu_al c hc))
    · rw [f _ _ hc e] at n
      cases n
abbrev s__law_send : Stmt := top 44
abbrev N__law_send : List Str := ["_law_m", "_law_k"]
theorem sc__law_send : FnScope N__law_send ["_law_m", "_law_k"] (defScope s__law_send) := ⟨rfl, rfl, rfl, by decide +kernel, rfl, by decide +kernel, by decide +kernel⟩
def sp__law_send (K : PySem.W.Frag) : Sp := fun vs H Q E => ∃ (R : RwA) (m : M) (N : Nat) (k : Int), vs = [.ref R.m, .int k] ∧ RwAt H R m ∧ m.Ok N ∧ N < 90000 ∧ 0 ≤ k ∧
  (∀ t m', m.send k = some (t, m') → Told H R Q t m') ∧ (m.send k = none → Refd H Q "now")
theorem ok__law_send {P : Program} {w : World} {K : PySem.W.Frag} {mg : Str → Option Value} {base : Heap} (F : FnP K ("_law_send", none) "_law_send" "_law_send" s__law_send) (hm : mg "_law_send" = some (.ref (He.ga K "_law_send"))) (bl : Blt mg) : Cal P w K mg base 1 "_law_send" (sp__law_send K) := by
  refine fn_cal F hm sc__law_send (fun vs H Q E => by walk_at "len") (fun _ _ _ _ _ _ us hl => match us, hl with | [_, _], _ => rfl) (fun f cdv A outer s H vs Q E hr h => ?_)
  have hu := hu_of hr
  obtain ⟨R, m, N, k, rfl, t, ok, hN, hk, q1, q2⟩ := h
  refine ⟨_, (pss_cons (ps_if (PW.pt (pw_or (pt_cmpR op_lt (pv 1) (pe_getD (by exact hu) (pv 0) pe_str (fun _ _ => rfl)) (nomark _)) (pw_or (pt_cmpR op_gt (pv 1) (pe_getD (by exact hu) (pv 0) pe_str (fun _ _ => rfl)) (nomark _)) (pw_or (pt_cmpR op_ge (pv 1) (pe_op op_add (pe_getD (by exact hu) (pv 0) pe_str (fun _ _ => rfl)) (pe_ix ix_C (pe_getD (by exact hu) (pv 0) pe_str (fun _ _ => rfl)) pe_int (fun _ _ => rfl))) (nomark _)) (pw_or1 (pt_cmpR op_ge (pv 1) (pe_callB call_lenC (by rfl) (bl.len) (by decide +kernel) (pa_cons (pe_getD (by exact hu) (pv 0) pe_str (fun _ _ => rfl)) pa_nil)) (nomark _)))))))
  (pss_one (ps_ret (pe_tup (pa_cons pe_str (pa_cons pe_str pa_nil)))))
  pss_nil)
  (pss_cons (ps_putD (by exact hu) (pv 0) pe_str (pe_callB (call_max2 rfl) (by rfl) (bl.max) (by decide +kernel) (pa_cons (pe_getD (by exact hu) (pv 0) pe_str (fun _ _ => rfl)) (pa_cons (pe_op op_add (pv 1) pe_int) pa_nil))) rfl)
  (pss_cons (ps_expr (pe_app (pe_getD (by exact hu) (pv 0) pe_str (fun _ _ => rfl)) (pe_tup (pa_cons (pe_op op_mod (pv 1) (pe_getD (by exact hu) (pv 0) pe_str (fun _ _ => rfl))) (pa_cons (pe_ix ix_C (pe_getD (by exact hu) (pv 0) pe_str (fun _ _ => rfl)) (pv 1) (fun _ _ => rfl)) pa_nil)))))
  (pss_one (ps_ret (pe_tup (pa_cons pe_str (pa_cons (pe_op op_sub (pe_callB call_lenC (by rfl) (bl.len) (by decide +kernel) (pa_cons (pe_getD (by exact hu) (pv 0) pe_str (fun _ _ => rfl)) pa_nil)) pe_int) pa_nil)))))))), ?_⟩
  walk_at "st0"
  refine seq_gen fun N_a h_a => ?_
  simp only [RDa, RDb, RDv, RDk, RDx, RDe, RDd, RDp, RDq, List.getElem?_cons_zero, List.getElem?_cons_succ, List.set_cons_zero, List.set_cons_succ, List.cons.injEq, List.cons_ne_nil, reduceCtorEq, exists_eq_left', exists_eq_left, exists_and_left, and_assoc, exists_const, true_and, and_true, if_true, if_false, false_and, and_false, exists_false, false_or, or_false, true_implies, false_implies, implies_true, forall_eq, forall_eq', Bool.false_eq_true, if_neg, decide_eq_true_eq, Bool.not_eq_true', decide_eq_false_iff_not, Bool.not_true, Bool.not_false, List.length_cons, List.length_nil, sizeLine_eq, Nat.reduceAdd, Nat.reduceLeDiff, Nat.reduceLT, Int.reduceLT, Int.reduceLE, Int.emod_nonneg, ne_eq, Int.reduceEq, not_false_eq_true, not_true_eq_false, mL, t.dic, seqO_tup t.bnd, lenO_lst t.tx]
  rw [List.length_map]
  have es : m.send k = if m.base ≤ k ∧ k ≤ m.last then some ((m.ls.length : Int), sentM m k) else none := rfl
  have ref : ¬ (m.base ≤ k ∧ k ≤ m.last) → ∀ p, H p = none → Q (.ref p) (upd H p (.tup [.str "refused", .str "now"])) := fun hn p np => q2 (by rw [es, if_neg hn]) _ p (same_new np) np upd_same
  have lastI := @last_le m k
  split
  · exact ref (by omega)
  split
  · exact ref (by omega)
  split
  · exact ref (by omega)
  split
  · exact ref (by omega)
  rename_i c1 c2 c3 c4
  have hlast : m.base ≤ k ∧ k ≤ m.last := ⟨by omega, lastI.mpr ⟨by omega, by omega, by omega⟩⟩
  clear ref lastI
  rw [if_pos hlast] at es
  refine h_a _ _ ?_
  clear h_a
  have et : (if k + 1 > m.top then k + 1 else m.top) = sTop m.top k := by
    unfold sTop
    split <;> split <;> omega
  refine seq_gen fun N_b h_b => ?_
  simp only [RDa, RDb, RDv, RDk, RDx, RDe, RDd, RDp, RDq, List.getElem?_cons_zero, List.getElem?_cons_succ, List.set_cons_zero, List.set_cons_succ, List.cons.injEq, List.cons_ne_nil, reduceCtorEq, exists_eq_left', exists_eq_left, exists_and_left, and_assoc, exists_const, true_and, and_true, if_true, if_false, false_and, and_false, exists_false, false_or, or_false, true_implies, false_implies, implies_true, forall_eq, forall_eq', Bool.false_eq_true, if_neg, decide_eq_true_eq, Bool.not_eq_true', decide_eq_false_iff_not, Bool.not_true, Bool.not_false, List.length_cons, List.length_nil, sizeLine_eq, Nat.reduceAdd, Nat.reduceLeDiff, Nat.reduceLT, Int.reduceLT, Int.reduceLE, Int.emod_nonneg, ne_eq, Int.reduceEq, not_false_eq_true, not_true_eq_false, mL, t.dic, et]
  refine h_b _ _ ?_
  clear h_b
  have nd := t.nd
  simp only [RwA.al, List.nodup_cons, List.mem_cons, List.not_mem_nil, or_false, not_or, List.nodup_nil, and_true, not_false_eq_true] at nd
  obtain ⟨⟨n1, n2, n3, n4, n5⟩, ⟨n6, n7, n8, n9⟩, ⟨n10, n11, n12⟩, ⟨n13, n14⟩, n15⟩ := nd
  obtain ⟨vs, hl, al⟩ := t.ls
  have f1 : Fr R.mu H (upd H R.m (.dK (mD R.b m.ring R.x m.base (sTop m.top k) R.o R.k R.l R.a))) := (Fr.refl _ _).upd (by simp [RwA.mu])
  have d1 : (upd H R.m (.dK (mD R.b m.ring R.x m.base (sTop m.top k) R.o R.k R.l R.a))) R.m = _ := upd_same
  have x1 := (upd_ne (o := HO.dK (mD R.b m.ring R.x m.base (sTop m.top k) R.o R.k R.l R.a)) (Ne.symm n1)).trans t.tx
  have l1 := (upd_ne (o := HO.dK (mD R.b m.ring R.x m.base (sTop m.top k) R.o R.k R.l R.a)) (Ne.symm n4)).trans hl
  have o1 := (upd_ne (o := HO.dK (mD R.b m.ring R.x m.base (sTop m.top k) R.o R.k R.l R.a)) (Ne.symm n2)).trans t.out
  have k1 := (upd_ne (o := HO.dK (mD R.b m.ring R.x m.base (sTop m.top k) R.o R.k R.l R.a)) (Ne.symm n3)).trans t.kept
  have a1 := (upd_ne (o := HO.dK (mD R.b m.ring R.x m.base (sTop m.top k) R.o R.k R.l R.a)) (Ne.symm n5)).trans t.an
  generalize upd H R.m (.dK (mD R.b m.ring R.x m.base (sTop m.top k) R.o R.k R.l R.a)) = H1 at f1 d1 x1 l1 o1 k1 a1
  have hg1 := ok.g1
  have hx : atI (m.tx.map V.str) k = some (.str (m.tx.getD k.toNat "")) := by
    rw [show k = ((k.toNat : Nat) : Int) by omega]
    refine atI_nat ?_
    rw [List.getElem?_map, Int.toNat_natCast, List.getElem?_eq_getElem (by omega), List.getD_eq_getElem?_getD, List.getElem?_eq_getElem (by omega)]
    rfl
  refine seq_gen fun N_c h_c => ?_
  simp only [RDa, RDb, RDv, RDk, RDx, RDe, RDd, RDp, RDq, List.getElem?_cons_zero, List.getElem?_cons_succ, List.set_cons_zero, List.set_cons_succ, List.cons.injEq, List.cons_ne_nil, reduceCtorEq, exists_eq_left', exists_eq_left, exists_and_left, and_assoc, exists_const, true_and, and_true, if_true, if_false, false_and, and_false, exists_false, false_or, or_false, true_implies, false_implies, implies_true, forall_eq, forall_eq', Bool.false_eq_true, if_neg, decide_eq_true_eq, Bool.not_eq_true', decide_eq_false_iff_not, Bool.not_true, Bool.not_false, List.length_cons, List.length_nil, sizeLine_eq, Nat.reduceAdd, Nat.reduceLeDiff, Nat.reduceLT, Int.reduceLT, Int.reduceLE, Int.emod_nonneg, ne_eq, Int.reduceEq, not_false_eq_true, not_true_eq_false, mL, d1, l1, SqL.of x1, seqO_lst x1, hx]
  have hvl := al.length
  have hol := ok.ls
  refine ⟨by omega, fun p np => ?_⟩
  have l1' := (upd_ne (o := HO.tup [.int (k % m.ring), .str (m.tx.getD k.toNat "")]) (ne_of_none l1 np)).trans l1
  refine ⟨vs, l1', by omega, h_c _ _ ?_⟩
  clear h_c
  have f2 := (f1.new (p := p) (o := .tup [.int (k % m.ring), .str (m.tx.getD k.toNat "")]) np).upd (p := R.l) (o := .lst (vs ++ [.ref p])) (by simp [RwA.mu])
  have up : ∀ {c : Addr} {o : HO}, H1 c = some o → c ≠ R.l → (upd (upd H1 p (.tup [.int (k % m.ring), .str (m.tx.getD k.toNat "")])) R.l (.lst (vs ++ [.ref p]))) c = some o := fun e hc => (upd_ne hc).trans ((upd_ne (ne_of_none e np)).trans e)
  have d2 := up d1 n4
  have x2 := up x1 n8
  have o2 := up o1 n11
  have k2 := up k1 n13
  have a2 := up a1 (Ne.symm n15)
  have l2 : (upd (upd H1 p (.tup [.int (k % m.ring), .str (m.tx.getD k.toNat "")])) R.l (.lst (vs ++ [.ref p]))) R.l = _ := upd_same
  have p2 : (upd (upd H1 p (.tup [.int (k % m.ring), .str (m.tx.getD k.toNat "")])) R.l (.lst (vs ++ [.ref p]))) p = _ := (upd_ne (Ne.symm (ne_of_none l1 np))).trans upd_same
  generalize upd (upd H1 p (.tup [.int (k % m.ring), .str (m.tx.getD k.toNat "")])) R.l (.lst (vs ++ [.ref p])) = H2 at f2 d2 x2 o2 k2 a2 l2 p2
  have ntm : ∀ x ∈ R.mu, ∀ xs, H x ≠ some (.tup xs) := fun x hx => t.nt x (R.mu_al x hx)
  have t2 : RwAt H2 R (sentM m k) := ⟨d2, f2 _ _ (fun mm => ntm _ mm _ t.bnd) t.bnd, x2, o2, k2, ⟨_, l2, (al.mono fun _ _ => LetAt.fr f2 ntm).snoc ⟨p, rfl, p2⟩⟩, a2, t.want, t.nd⟩
  simp only [RDa, RDb, RDv, RDk, RDx, RDe, RDd, RDp, RDq, List.getElem?_cons_zero, List.getElem?_cons_succ, List.set_cons_zero, List.set_cons_succ, List.cons.injEq, List.cons_ne_nil, reduceCtorEq, exists_eq_left', exists_eq_left, exists_and_left, and_assoc, exists_const, true_and, and_true, if_true, if_false, false_and, and_false, exists_false, false_or, or_false, true_implies, false_implies, implies_true, forall_eq, forall_eq', Bool.false_eq_true, if_neg, decide_eq_true_eq, Bool.not_eq_true', decide_eq_false_iff_not, Bool.not_true, Bool.not_false, List.length_cons, List.length_nil, sizeLine_eq, Nat.reduceAdd, Nat.reduceLeDiff, Nat.reduceLT, Int.reduceLT, Int.reduceLE, Int.emod_nonneg, ne_eq, Int.reduceEq, not_false_eq_true, not_true_eq_false, mL, d2, lenO_lst l2]
  intro q nq
  have e : ((vs ++ [V.ref p]).length : Int) - 1 = m.ls.length := by
    rw [List.length_append, ← hvl]
    show ((m.ls.length + 1 : Nat) : Int) - 1 = _
    omega
  rw [e]
  exact q1 _ _ es _ q (f2.new nq) (t2.same (same_new nq)) (t2.free f2 nq) upd_same
abbrev s__law_is_there : Stmt := top 45
abbrev N__law_is_there : List Str := ["_law_rows", "_law_number", "_law_bound"]
theorem sc__law_is_there : FnScope N__law_is_there ["_law_rows", "_law_number", "_law_bound"] (defScope s__law_is_there) := ⟨rfl, rfl, rfl, by decide +kernel, rfl, by decide +kernel, by decide +kernel⟩
def sp__law_is_there (K : PySem.W.Frag) : Sp := fun vs H Q E => ∃ (l : Addr) (xs : List V) (n b : Int), vs = [.ref l, .int n, .int b] ∧ H l = some (.lst xs) ∧ 0 ≤ n ∧ Q (.bl (isT n xs.length b)) H
theorem ok__law_is_there {P : Program} {w : World} {K : PySem.W.Frag} {mg : Str → Option Value} {base : Heap} (F : FnP K ("_law_is_there", none) "_law_is_there" "_law_is_there" s__law_is_there) (hm : mg "_law_is_there" = some (.ref (He.ga K "_law_is_there"))) (bl : Blt mg) : Cal P w K mg base 1 "_law_is_there" (sp__law_is_there K) := by
  refine fn_cal F hm sc__law_is_there (fun vs H Q E => by walk_at "len") (fun _ _ _ _ _ _ us hl => match us, hl with | [_, _, _], _ => rfl) (fun f cdv A outer s H vs Q E hr h => ?_)
  have hu := hu_of hr
  obtain ⟨l, xs, n, b, rfl, hl, hn, q⟩ := h
  refine ⟨_, (pss_one (ps_ret (pe_and (pe_cmpR op_lt (pv 1) (pe_callB call_lenC (by rfl) (bl.len) (by decide +kernel) (pa_cons (pv 0) pa_nil)) (nomark _)) (pe_one (pe_cmpR op_le (pe_op op_sub (pe_op op_sub (pe_callB call_lenC (by rfl) (bl.len) (by decide +kernel) (pa_cons (pv 0) pa_nil)) pe_int) (pv 1)) (pv 2) (nomark _)))))), ?_⟩
  walk_at "st0"
  simp only [RDa, RDb, RDv, RDk, RDx, RDe, RDd, RDp, RDq, List.getElem?_cons_zero, List.getElem?_cons_succ, List.set_cons_zero, List.set_cons_succ, List.cons.injEq, List.cons_ne_nil, reduceCtorEq, exists_eq_left', exists_eq_left, exists_and_left, and_assoc, exists_const, true_and, and_true, if_true, if_false, false_and, and_false, exists_false, false_or, or_false, true_implies, false_implies, implies_true, forall_eq, forall_eq', Bool.false_eq_true, if_neg, decide_eq_true_eq, Bool.not_eq_true', decide_eq_false_iff_not, Bool.not_true, Bool.not_false, List.length_cons, List.length_nil, sizeLine_eq, Nat.reduceAdd, Nat.reduceLeDiff, Nat.reduceLT, Int.reduceLT, Int.reduceLE, Int.emod_nonneg, ne_eq, Int.reduceEq, not_false_eq_true, not_true_eq_false, lenO_lst hl]
  have e : isT n xs.length b = (decide (n < (xs.length : Int)) && decide ((xs.length : Int) - 1 - n ≤ b)) := by
    rw [Bool.eq_iff_iff, isT_iff, Bool.and_eq_true, decide_eq_true_eq, decide_eq_true_eq]
    omega
  rw [e] at q
  split
  · rename_i c
    rw [decide_eq_true c, Bool.true_and] at q
    exact q
  · rename_i c
    rw [decide_eq_false c, Bool.false_and] at q
    exact q
theorem RwAt.dist {H : Hp} {R : RwA} {m : M} (t : RwAt H R m) : (R.m ≠ R.x ∧ R.m ≠ R.o ∧ R.m ≠ R.k ∧ R.m ≠ R.l ∧ R.m ≠ R.a) ∧ (R.x ≠ R.o ∧ R.x ≠ R.k ∧ R.x ≠ R.l ∧ R.x ≠ R.a) ∧ (R.o ≠ R.k ∧ R.o ≠ R.l ∧ R.o ≠ R.a) ∧ (R.k ≠ R.l ∧ R.k ≠ R.a) ∧ R.l ≠ R.a := by
  have nd := t.nd
  simp only [RwA.al, List.nodup_cons, List.mem_cons, List.not_mem_nil, or_false, not_or, List.nodup_nil, and_true, not_false_eq_true] at nd
  exact nd
theorem RwAt.ntm {H : Hp} {R : RwA} {m : M} (t : RwAt H R m) : ∀ x ∈ R.mu, ∀ xs, H x ≠ some (.tup xs) := fun x hx => t.nt x (R.mu_al x hx)
theorem RwAt.upK {H : Hp} {R : RwA} {m : M} (t : RwAt H R m) (kp : List (Int × Str)) : RwAt (upd H R.k (.dK (kvs kp))) R { m with kept := kp } := by
  obtain ⟨⟨n1, n2, n3, n4, n5⟩, ⟨n6, n7, n8, n9⟩, ⟨n10, n11, n12⟩, ⟨n13, n14⟩, n15⟩ := t.dist
  have f : Fr R.mu H (upd H R.k (.dK (kvs kp))) := (Fr.refl _ _).upd (by simp [RwA.mu])
  obtain ⟨vs, hl, al⟩ := t.ls
  exact ⟨(upd_ne n3).trans t.dic, f _ _ (fun mm => t.ntm _ mm _ t.bnd) t.bnd, (upd_ne n7).trans t.tx, (upd_ne n10).trans t.out, upd_same, ⟨vs, (upd_ne (Ne.symm n13)).trans hl, al.mono fun _ _ => LetAt.fr f t.ntm⟩, (upd_ne (Ne.symm n14)).trans t.an, t.want, t.nd⟩
theorem RwAt.upO {H : Hp} {R : RwA} {m : M} (t : RwAt H R m) (g : List Str) {w : Int} (hw : w = g.length) : RwAt (upd H R.o (.lst (g.map V.str))) R { m with out := g, want := w } := by
  obtain ⟨⟨n1, n2, n3, n4, n5⟩, ⟨n6, n7, n8, n9⟩, ⟨n10, n11, n12⟩, ⟨n13, n14⟩, n15⟩ := t.dist
  have f : Fr R.mu H (upd H R.o (.lst (g.map V.str))) := (Fr.refl _ _).upd (by simp [RwA.mu])
  obtain ⟨vs, hl, al⟩ := t.ls
  exact ⟨(upd_ne n2).trans t.dic, f _ _ (fun mm => t.ntm _ mm _ t.bnd) t.bnd, (upd_ne n6).trans t.tx, upd_same, (upd_ne (Ne.symm n10)).trans t.kept, ⟨vs, (upd_ne (Ne.symm n11)).trans hl, al.mono fun _ _ => LetAt.fr f t.ntm⟩, (upd_ne (Ne.symm n12)).trans t.an, hw, t.nd⟩
theorem RwAt.upA {H : Hp} {R : RwA} {m : M} (t : RwAt H R m) (an : List Int) : RwAt (upd H R.a (.lst (an.map V.int))) R { m with an := an } := by
  obtain ⟨⟨n1, n2, n3, n4, n5⟩, ⟨n6, n7, n8, n9⟩, ⟨n10, n11, n12⟩, ⟨n13, n14⟩, n15⟩ := t.dist
  have f : Fr R.mu H (upd H R.a (.lst (an.map V.int))) := (Fr.refl _ _).upd (by simp [RwA.mu])
  obtain ⟨vs, hl, al⟩ := t.ls
  exact ⟨(upd_ne n5).trans t.dic, f _ _ (fun mm => t.ntm _ mm _ t.bnd) t.bnd, (upd_ne n9).trans t.tx, (upd_ne n12).trans t.out, (upd_ne n14).trans t.kept, ⟨vs, (upd_ne n15).trans hl, al.mono fun _ _ => LetAt.fr f t.ntm⟩, upd_same, t.want, t.nd⟩
theorem RwAt.upB {H : Hp} {R : RwA} {m : M} (t : RwAt H R m) (y : Int) : RwAt (upd H R.m (.dK (mD R.b m.ring R.x y m.top R.o R.k R.l R.a))) R { m with base := y } := by
  obtain ⟨⟨n1, n2, n3, n4, n5⟩, ⟨n6, n7, n8, n9⟩, ⟨n10, n11, n12⟩, ⟨n13, n14⟩, n15⟩ := t.dist
  have f : Fr R.mu H (upd H R.m (.dK (mD R.b m.ring R.x y m.top R.o R.k R.l R.a))) := (Fr.refl _ _).upd (by simp [RwA.mu])
  obtain ⟨vs, hl, al⟩ := t.ls
  exact ⟨upd_same, f _ _ (fun mm => t.ntm _ mm _ t.bnd) t.bnd, (upd_ne (Ne.symm n1)).trans t.tx, (upd_ne (Ne.symm n2)).trans t.out, (upd_ne (Ne.symm n3)).trans t.kept, ⟨vs, (upd_ne (Ne.symm n4)).trans hl, al.mono fun _ _ => LetAt.fr f t.ntm⟩, (upd_ne (Ne.symm n5)).trans t.an, t.want, t.nd⟩
end RP

namespace RP
open PySem PySem.Spec PyProof.Rows L2 L2H
abbrev s__law_hand : Stmt := top 46
abbrev N__law_hand : List Str := ["_law_m", "_law_number", "_law_bears", "_law_text", "_law_want", "_law_step"]
theorem sc__law_hand : FnScope N__law_hand ["_law_m", "_law_number"] (defScope s__law_hand) := ⟨rfl, rfl, rfl, by decide +kernel, rfl, by decide +kernel, by decide +kernel⟩
def sp__law_hand (K : PySem.W.Frag) : Sp := fun vs H Q E => ∃ (R : RwA) (m : M) (N : Nat) (n : Int), vs = [.ref R.m, .int n] ∧ RwAt H R m ∧ m.Ok N ∧ N < 90000 ∧ 0 ≤ n ∧
  (∀ t m', m.hand n = some (t, m') → Told H R Q t m') ∧ (m.hand n = none → Refd H Q "letter")
theorem ok__law_hand {P : Program} {w : World} {K : PySem.W.Frag} {mg : Str → Option Value} {base : Heap} (F : FnP K ("_law_hand", none) "_law_hand" "_law_hand" s__law_hand) (hm : mg "_law_hand" = some (.ref (He.ga K "_law_hand"))) (bl : Blt mg) (c__law_is_there : Cal P w K mg base 1 "_law_is_there" (sp__law_is_there K)) : Cal P w K mg base 2 "_law_hand" (sp__law_hand K) := by
  refine fn_cal F hm sc__law_hand (fun vs H Q E => by walk_at "len") (fun _ _ _ _ _ _ us hl => match us, hl with | [_, _], _ => rfl) (fun f cdv A outer s H vs Q E hr h => ?_)
  have hu := hu_of hr
  obtain ⟨R, m, N, n, rfl, t, ok, hN, hn, q1, q2⟩ := h
  obtain ⟨vs, hl, al⟩ := t.ls
  have hvl := al.length
  have eh : m.hand n = if isT n m.ls.length m.d = true then some ((m.an.length : Int), m.handed (m.ls.getD n.toNat (0, ""))) else none := rfl
  refine ⟨_, (pss_cons (ps_if (pt_not (pt_val (pe_fn c__law_is_there (hr.mono (by decide)) (L2N.takes_of rfl rfl rfl rfl) (pa_cons (pe_getD (by exact hu) (pv 0) pe_str (fun _ _ => rfl)) (pa_cons (pv 1) (pa_cons (pe_ix ix_C (pe_getD (by exact hu) (pv 0) pe_str (fun _ _ => rfl)) pe_int (fun _ _ => rfl)) pa_nil))))))
  (pss_one (ps_ret (pe_tup (pa_cons pe_str (pa_cons pe_str pa_nil)))))
  pss_nil)
  (pss_cons (ps_asg (pe_ix ix_C (pe_getD (by exact hu) (pv 0) pe_str (fun _ _ => rfl)) (pv 1) (fun _ _ => rfl)) (pg_tupC (n := 2) rfl (pgs_cons (pg_name (i := 2) sc__law_hand.nd rfl (Or.inl rfl)) (pgs_cons (pg_name (i := 3) sc__law_hand.nd rfl (Or.inl rfl)) pgs_nil))))
  (pss_cons (ps_set (i := 4) sc__law_hand.nd rfl (Or.inl rfl) (pe_callB call_lenC (by rfl) (bl.len) (by decide +kernel) (pa_cons (pe_getD (by exact hu) (pv 0) pe_str (fun _ _ => rfl)) pa_nil)))
  (pss_cons (ps_for (passes_of rfl) rfl (pi_range1 rfl (bl.range) (pa_cons (pe_ix ix_C (pe_getD (by exact hu) (pv 0) pe_str (fun _ _ => rfl)) pe_int (fun _ _ => rfl)) pa_nil)) (pg_name (i := 5) sc__law_hand.nd rfl (Or.inl rfl))
  (pss_one (ps_if (PW.pt (pw_and (pt_cmpR op_lt (pv 5) (pe_getD (by exact hu) (pv 0) pe_str (fun _ _ => rfl)) (nomark _)) (pw_and (pt_cmpR op_eq (pe_op op_mod (pe_op op_sub (pe_op op_add (pv 4) (pv 5)) (pv 2)) (pe_getD (by exact hu) (pv 0) pe_str (fun _ _ => rfl))) pe_int (nomark _)) (pw_and1 (pt_cmp (pc_notinD (by exact hu) (pe_op op_add (pv 4) (pv 5)) (pe_getD (by exact hu) (pv 0) pe_str (fun _ _ => rfl))))))))
  (pss_one (ps_putD (by exact hu) (pe_getD (by exact hu) (pv 0) pe_str (fun _ _ => rfl)) (pe_op op_add (pv 4) (pv 5)) (pv 3) rfl))
  pss_nil)))
  (pss_cons (ps_while (passes_of rfl) (pt_cmp (pc_inD (by exact hu) (pe_callB call_lenC (by rfl) (bl.len) (by decide +kernel) (pa_cons (pe_getD (by exact hu) (pv 0) pe_str (fun _ _ => rfl)) pa_nil)) (pe_getD (by exact hu) (pv 0) pe_str (fun _ _ => rfl))))
  (pss_one (ps_expr (pe_app (pe_getD (by exact hu) (pv 0) pe_str (fun _ _ => rfl)) (pe_popD (pe_getD (by exact hu) (pv 0) pe_str (fun _ _ => rfl)) (pe_callB call_lenC (by rfl) (bl.len) (by decide +kernel) (pa_cons (pe_getD (by exact hu) (pv 0) pe_str (fun _ _ => rfl)) pa_nil)) ⟨rfl, rfl, rfl, rfl⟩)))))
  (pss_cons (ps_expr (pe_app (pe_getD (by exact hu) (pv 0) pe_str (fun _ _ => rfl)) (pe_op op_mod (pe_callB call_lenC (by rfl) (bl.len) (by decide +kernel) (pa_cons (pe_getD (by exact hu) (pv 0) pe_str (fun _ _ => rfl)) pa_nil)) (pe_getD (by exact hu) (pv 0) pe_str (fun _ _ => rfl)))))
  (pss_one (ps_ret (pe_tup (pa_cons pe_str (pa_cons (pe_op op_sub (pe_callB call_lenC (by rfl) (bl.len) (by decide +kernel) (pa_cons (pe_getD (by exact hu) (pv 0) pe_str (fun _ _ => rfl)) pa_nil)) pe_int) pa_nil))))))))))), ?_⟩
  walk_at "st0"
  refine seq_gen fun N_a h_a => ?_
  simp only [RDa, RDb, RDv, RDk, RDx, RDe, RDd, RDp, RDq, List.getElem?_cons_zero, List.getElem?_cons_succ, List.set_cons_zero, List.set_cons_succ, List.cons.injEq, List.cons_ne_nil, reduceCtorEq, exists_eq_left', exists_eq_left, exists_and_left, and_assoc, exists_const, true_and, and_true, if_true, if_false, false_and, and_false, exists_false, false_or, or_false, true_implies, false_implies, implies_true, forall_eq, forall_eq', Bool.false_eq_true, if_neg, decide_eq_true_eq, Bool.not_eq_true', decide_eq_false_iff_not, Bool.not_true, Bool.not_false, List.length_cons, List.length_nil, sizeLine_eq, Nat.reduceAdd, Nat.reduceLeDiff, Nat.reduceLT, Int.reduceLT, Int.reduceLE, Int.emod_nonneg, ne_eq, Int.reduceEq, not_false_eq_true, not_true_eq_false, mL, t.dic, seqO_tup t.bnd]
  refine ⟨R.l, vs, n, m.d, rfl, hl, hn, ?_⟩
  rw [← hvl]
  cases hT : isT n m.ls.length m.d with
  | false =>
    simp only [RDa, RDb, RDv, RDk, RDx, RDe, RDd, RDp, RDq, List.getElem?_cons_zero, List.getElem?_cons_succ, List.set_cons_zero, List.set_cons_succ, List.cons.injEq, List.cons_ne_nil, reduceCtorEq, exists_eq_left', exists_eq_left, exists_and_left, and_assoc, exists_const, true_and, and_true, if_true, if_false, false_and, and_false, exists_false, false_or, or_false, true_implies, false_implies, implies_true, forall_eq, forall_eq', Bool.false_eq_true, if_neg, decide_eq_true_eq, Bool.not_eq_true', decide_eq_false_iff_not, Bool.not_true, Bool.not_false, List.length_cons, List.length_nil, sizeLine_eq, Nat.reduceAdd, Nat.reduceLeDiff, Nat.reduceLT, Int.reduceLT, Int.reduceLE, Int.emod_nonneg, ne_eq, Int.reduceEq, not_false_eq_true, not_true_eq_false]
    exact fun p np => q2 (by rw [eh, hT]; rfl) _ p (same_new np) np upd_same
  | true =>
    rw [hT, if_pos rfl] at eh
    have hT' := isT_iff.mp hT
    simp only [RDa, RDb, RDv, RDk, RDx, RDe, RDd, RDp, RDq, List.getElem?_cons_zero, List.getElem?_cons_succ, List.set_cons_zero, List.set_cons_succ, List.cons.injEq, List.cons_ne_nil, reduceCtorEq, exists_eq_left', exists_eq_left, exists_and_left, and_assoc, exists_const, true_and, and_true, if_true, if_false, false_and, and_false, exists_false, false_or, or_false, true_implies, false_implies, implies_true, forall_eq, forall_eq', Bool.false_eq_true, if_neg, decide_eq_true_eq, Bool.not_eq_true', decide_eq_false_iff_not, Bool.not_true, Bool.not_false, List.length_cons, List.length_nil, sizeLine_eq, Nat.reduceAdd, Nat.reduceLeDiff, Nat.reduceLT, Int.reduceLT, Int.reduceLE, Int.emod_nonneg, ne_eq, Int.reduceEq, not_false_eq_true, not_true_eq_false]
    refine h_a _ _ ?_
    clear h_a q2
    obtain ⟨qq, hqq⟩ : ∃ qq, qq = m.ls.getD n.toNat (0, "") := ⟨_, rfl⟩
    rw [← hqq] at eh
    obtain ⟨lp, hlp, hlt⟩ : ∃ lp, atI vs n = some (.ref lp) ∧ H lp = some (.tup [.int qq.1, .str qq.2]) := by
      have hi : n.toNat < m.ls.length := by omega
      obtain ⟨v, hv, a, rfl, ha⟩ := al.getL (i := n.toNat) (List.getElem?_eq_getElem hi)
      refine ⟨a, ?_, ?_⟩
      · rw [show n = ((n.toNat : Nat) : Int) by omega]
        exact atI_nat hv
      · rw [ha, hqq, List.getD_eq_getElem?_getD, List.getElem?_eq_getElem hi]
        rfl
    refine seq_gen fun N_b h_b => ?_
    simp only [RDa, RDb, RDv, RDk, RDx, RDe, RDd, RDp, RDq, List.getElem?_cons_zero, List.getElem?_cons_succ, List.set_cons_zero, List.set_cons_succ, List.cons.injEq, List.cons_ne_nil, reduceCtorEq, exists_eq_left', exists_eq_left, exists_and_left, and_assoc, exists_const, true_and, and_true, if_true, if_false, false_and, and_false, exists_false, false_or, or_false, true_implies, false_implies, implies_true, forall_eq, forall_eq', Bool.false_eq_true, if_neg, decide_eq_true_eq, Bool.not_eq_true', decide_eq_false_iff_not, Bool.not_true, Bool.not_false, List.length_cons, List.length_nil, sizeLine_eq, Nat.reduceAdd, Nat.reduceLeDiff, Nat.reduceLT, Int.reduceLT, Int.reduceLE, Int.emod_nonneg, ne_eq, Int.reduceEq, not_false_eq_true, not_true_eq_false, mL, t.dic, seqO_lst hl, hlp, hlt]
    refine h_b _ _ ?_
    clear h_b
    refine seq_gen fun N_c h_c => ?_
    simp only [RDa, RDb, RDv, RDk, RDx, RDe, RDd, RDp, RDq, List.getElem?_cons_zero, List.getElem?_cons_succ, List.set_cons_zero, List.set_cons_succ, List.cons.injEq, List.cons_ne_nil, reduceCtorEq, exists_eq_left', exists_eq_left, exists_and_left, and_assoc, exists_const, true_and, and_true, if_true, if_false, false_and, and_false, exists_false, false_or, or_false, true_implies, false_implies, implies_true, forall_eq, forall_eq', Bool.false_eq_true, if_neg, decide_eq_true_eq, Bool.not_eq_true', decide_eq_false_iff_not, Bool.not_true, Bool.not_false, List.length_cons, List.length_nil, sizeLine_eq, Nat.reduceAdd, Nat.reduceLeDiff, Nat.reduceLT, Int.reduceLT, Int.reduceLE, Int.emod_nonneg, ne_eq, Int.reduceEq, not_false_eq_true, not_true_eq_false, mL, t.dic, lenO_lst t.out]
    rw [List.length_map, ← t.want]
    refine h_c _ _ ?_
    clear h_c
    have hr0 := ok.g1
    have hr1 := ok.r1
    have hr2 := ok.r2
    have hw0 : 0 ≤ m.want := by rw [t.want]; omega
    have hsm := md_rng (qq.1 - m.want) (show (0 : Int) < m.ring by omega)
    have hput := tkPut_le m.r m.ring m.want m.kept qq.1 qq.2
    have hok := ok.ok
    obtain ⟨kp, ekp⟩ : ∃ kp, kp = tkPut m.r m.ring m.want m.kept qq.1 qq.2 := ⟨_, rfl⟩
    rw [← ekp] at hput
    refine seq_rel (fun σ H1 => (∃ u5, σ = [some (.ref R.m), some (.int n), some (.int qq.1), some (.str qq.2), some (.int m.want), u5]) ∧ Fr R.mu H H1 ∧ RwAt H1 R { m with kept := kp }) (fun N_d h_d => ?_) ?_
    · obtain ⟨Inv, hI⟩ : ∃ Inv : Nat → L2.St → Hp → Prop, ∀ i σ H1, Inv i σ H1 ↔ (∃ u5, σ = [some (.ref R.m), some (.int n), some (.int qq.1), some (.str qq.2), some (.int m.want), u5]) ∧ Fr R.mu H H1 ∧ RwAt H1 R { m with kept := if (qq.1 - m.want) % m.ring < i then kp else m.kept } := ⟨_, fun _ _ _ => Iff.rfl⟩
      refine for_rcut 0 m.r.toNat (fun H1 => H1 = H) ?_ Inv ?_ ?_ ?_
      · intro Z hZ
        simp only [RDa, RDb, RDv, RDk, RDx, RDe, RDd, RDp, RDq, List.getElem?_cons_zero, List.getElem?_cons_succ, List.set_cons_zero, List.set_cons_succ, List.cons.injEq, List.cons_ne_nil, reduceCtorEq, exists_eq_left', exists_eq_left, exists_and_left, and_assoc, exists_const, true_and, and_true, if_true, if_false, false_and, and_false, exists_false, false_or, or_false, true_implies, false_implies, implies_true, forall_eq, forall_eq', Bool.false_eq_true, if_neg, decide_eq_true_eq, Bool.not_eq_true', decide_eq_false_iff_not, Bool.not_true, Bool.not_false, List.length_cons, List.length_nil, sizeLine_eq, Nat.reduceAdd, Nat.reduceLeDiff, Nat.reduceLT, Int.reduceLT, Int.reduceLE, Int.emod_nonneg, ne_eq, Int.reduceEq, not_false_eq_true, not_true_eq_false, mL, t.dic, seqO_tup t.bnd]
        exact ⟨by omega, by omega, hZ H rfl⟩
      · rintro H1 rfl
        refine (hI _ _ _).mpr ⟨⟨_, rfl⟩, Fr.refl _ _, ?_⟩
        rw [if_neg (by omega)]
        exact t
      · rintro i σ H1 hi z
        obtain ⟨⟨u5, rfl⟩, f1, t1⟩ := (hI _ _ _).mp z
        have bnd1 : H1 R.b = some (.tup [.int m.w, .int m.r, .int m.d, .int m.b]) := t1.bnd
        have dic1 : H1 R.m = some (.dK (mD R.b m.ring R.x m.base m.top R.o R.k R.l R.a)) := t1.dic
        have kept1 : H1 R.k = some (.dK (kvs (if (qq.1 - m.want) % m.ring < i then kp else m.kept))) := t1.kept
        rw [Int.zero_add]
        have fin : ∀ H2, Fr R.mu H H2 → RwAt H2 R { m with kept := if (qq.1 - m.want) % m.ring < ((i + 1 : Nat) : Int) then kp else m.kept } → Inv (i + 1) [some (.ref R.m), some (.int n), some (.int qq.1), some (.str qq.2), some (.int m.want), some (.int i)] H2 := fun H2 f2 t2 => (hI _ _ _).mpr ⟨⟨_, rfl⟩, f2, t2⟩
        by_cases ci : (i : Int) < m.ring
        · have hmod : (m.want + (i : Int) - qq.1) % m.ring = 0 ↔ (qq.1 - m.want) % m.ring = (i : Int) := by
            rw [show m.want + (i : Int) - qq.1 = (i : Int) - (qq.1 - m.want) by omega, Int.emod_eq_emod_iff_emod_sub_eq_zero.symm, Int.emod_eq_of_lt (by omega) ci]
            exact eq_comm
          by_cases c2 : (qq.1 - m.want) % m.ring = (i : Int)
          · have n1 : ¬ ((qq.1 - m.want) % m.ring < (i : Int)) := by omega
            have n2 : (qq.1 - m.want) % m.ring < ((i + 1 : Nat) : Int) := by omega
            rw [if_neg n1] at kept1 t1
            rw [if_pos n2] at fin
            have c2' := hmod.mpr c2
            simp only [RDa, RDb, RDv, RDk, RDx, RDe, RDd, RDp, RDq, List.getElem?_cons_zero, List.getElem?_cons_succ, List.set_cons_zero, List.set_cons_succ, List.cons.injEq, List.cons_ne_nil, reduceCtorEq, exists_eq_left', exists_eq_left, exists_and_left, and_assoc, exists_const, true_and, and_true, if_true, if_false, false_and, and_false, exists_false, false_or, or_false, true_implies, false_implies, implies_true, forall_eq, forall_eq', Bool.false_eq_true, if_neg, decide_eq_true_eq, Bool.not_eq_true', decide_eq_false_iff_not, Bool.not_true, Bool.not_false, List.length_cons, List.length_nil, sizeLine_eq, Nat.reduceAdd, Nat.reduceLeDiff, Nat.reduceLT, Int.reduceLT, Int.reduceLE, Int.emod_nonneg, ne_eq, Int.reduceEq, not_false_eq_true, not_true_eq_false, mL, dic1, kept1, kvs_get, ci, c2', show 0 < m.ring by omega]
            cases hg : hget m.kept (m.want + (i : Int)) with
            | some z =>
              have e : kp = m.kept := by
                rw [ekp]
                unfold tkPut
                rw [c2, hg, if_neg (by simp)]
              rw [e] at fin
              exact fin H1 f1 t1
            | none =>
              have e : kp = m.kept ++ [(m.want + (i : Int), qq.2)] := by
                rw [ekp]
                unfold tkPut
                rw [c2, hg, if_pos ⟨by omega, rfl⟩]
              rw [if_pos (by simp), kvs_put qq.2 hg, kvs_length, ← e]
              exact ⟨by omega, fin _ (f1.upd (by simp [RwA.mu])) (t1.upK kp)⟩
          · have c1 : ¬ (m.want + (i : Int) - qq.1) % m.ring = 0 := fun e => c2 (hmod.mp e)
            have n3 : ((qq.1 - m.want) % m.ring < ((i + 1 : Nat) : Int)) = ((qq.1 - m.want) % m.ring < (i : Int)) := by
              apply propext
              constructor <;> intro h <;> omega
            simp only [n3] at fin
            have ff := fin H1 f1 t1
            simp only [RDa, RDb, RDv, RDk, RDx, RDe, RDd, RDp, RDq, List.getElem?_cons_zero, List.getElem?_cons_succ, List.set_cons_zero, List.set_cons_succ, List.cons.injEq, List.cons_ne_nil, reduceCtorEq, exists_eq_left', exists_eq_left, exists_and_left, and_assoc, exists_const, true_and, and_true, if_true, if_false, false_and, and_false, exists_false, false_or, or_false, true_implies, false_implies, implies_true, forall_eq, forall_eq', Bool.false_eq_true, if_neg, decide_eq_true_eq, Bool.not_eq_true', decide_eq_false_iff_not, Bool.not_true, Bool.not_false, List.length_cons, List.length_nil, sizeLine_eq, Nat.reduceAdd, Nat.reduceLeDiff, Nat.reduceLT, Int.reduceLT, Int.reduceLE, Int.emod_nonneg, ne_eq, Int.reduceEq, not_false_eq_true, not_true_eq_false, mL, dic1, kept1, kvs_get, ci, c1, show 0 < m.ring by omega]
            exact ff
        · have n3 : ((qq.1 - m.want) % m.ring < ((i + 1 : Nat) : Int)) = ((qq.1 - m.want) % m.ring < (i : Int)) := by
            apply propext
            constructor <;> intro h <;> omega
          simp only [n3] at fin
          have ff := fin H1 f1 t1
          simp only [RDa, RDb, RDv, RDk, RDx, RDe, RDd, RDp, RDq, List.getElem?_cons_zero, List.getElem?_cons_succ, List.set_cons_zero, List.set_cons_succ, List.cons.injEq, List.cons_ne_nil, reduceCtorEq, exists_eq_left', exists_eq_left, exists_and_left, and_assoc, exists_const, true_and, and_true, if_true, if_false, false_and, and_false, exists_false, false_or, or_false, true_implies, false_implies, implies_true, forall_eq, forall_eq', Bool.false_eq_true, if_neg, decide_eq_true_eq, Bool.not_eq_true', decide_eq_false_iff_not, Bool.not_true, Bool.not_false, List.length_cons, List.length_nil, sizeLine_eq, Nat.reduceAdd, Nat.reduceLeDiff, Nat.reduceLT, Int.reduceLT, Int.reduceLE, Int.emod_nonneg, ne_eq, Int.reduceEq, not_false_eq_true, not_true_eq_false, mL, dic1, kept1, ci]
          exact ff
      · rintro σ H1 z
        obtain ⟨⟨u5, rfl⟩, f1, t1⟩ := (hI _ _ _).mp z
        refine h_d _ _ ⟨⟨u5, rfl⟩, f1, ?_⟩
        have ek : (if (qq.1 - m.want) % m.ring < ((m.r.toNat : Nat) : Int) then kp else m.kept) = kp := by
          split
          · rfl
          · rename_i c
            rw [ekp]
            unfold tkPut
            rw [if_neg (fun h => by omega)]
        rw [ek] at t1
        exact t1
    rintro _ H1 ⟨⟨u5, rfl⟩, f1, t1⟩
    have e1 : tkCame m.r m.ring m.want m.out m.kept qq.1 qq.2 = drained m.want m.out kp := by rw [ekp]; rfl
    refine seq_rel (fun σ H2 => σ = [some (.ref R.m), some (.int n), some (.int qq.1), some (.str qq.2), some (.int m.want), u5] ∧ Fr R.mu H H2 ∧ ∃ w2 g2 h2, g2.length + h2.length ≤ N + 1 ∧ RwAt H2 R { m with want := w2, out := g2, kept := h2 } ∧ tkCame m.r m.ring m.want m.out m.kept qq.1 qq.2 = (w2, g2, h2)) (fun N_e h_e => ?_) ?_
    · obtain ⟨Inv, hI⟩ : ∃ Inv : Nat → L2.St → Hp → Prop, ∀ mm σ H2, Inv mm σ H2 ↔ (σ = [some (.ref R.m), some (.int n), some (.int qq.1), some (.str qq.2), some (.int m.want), u5] ∧ Fr R.mu H H2 ∧ ∃ w2 g2 h2, h2.length = mm ∧ g2.length + h2.length ≤ N + 1 ∧ RwAt H2 R { m with want := w2, out := g2, kept := h2 } ∧ tkCame m.r m.ring m.want m.out m.kept qq.1 qq.2 = drained w2 g2 h2) := ⟨_, fun _ _ _ => Iff.rfl⟩
      refine ⟨Inv, ⟨kp.length, (hI _ _ _).mpr ⟨rfl, f1, m.want, m.out, kp, rfl, by omega, t1, e1⟩⟩, ?_⟩
      rintro mm σ H2 z
      obtain ⟨rfl, f2, w2, g2, h2, rfl, l2, t2, e2⟩ := (hI _ _ _).mp z
      have dic2 : H2 R.m = some (.dK (mD R.b m.ring R.x m.base m.top R.o R.k R.l R.a)) := t2.dic
      have out2 : H2 R.o = some (.lst (g2.map V.str)) := t2.out
      have kept2 : H2 R.k = some (.dK (kvs h2)) := t2.kept
      have wnt2 : w2 = g2.length := t2.want
      have lnt : ((g2.map V.str).length : Int) = w2 := by rw [List.length_map, wnt2]
      simp only [RDa, RDb, RDv, RDk, RDx, RDe, RDd, RDp, RDq, List.getElem?_cons_zero, List.getElem?_cons_succ, List.set_cons_zero, List.set_cons_succ, List.cons.injEq, List.cons_ne_nil, reduceCtorEq, exists_eq_left', exists_eq_left, exists_and_left, and_assoc, exists_const, true_and, and_true, if_true, if_false, false_and, and_false, exists_false, false_or, or_false, true_implies, false_implies, implies_true, forall_eq, forall_eq', Bool.false_eq_true, if_neg, decide_eq_true_eq, Bool.not_eq_true', decide_eq_false_iff_not, Bool.not_true, Bool.not_false, List.length_cons, List.length_nil, sizeLine_eq, Nat.reduceAdd, Nat.reduceLeDiff, Nat.reduceLT, Int.reduceLT, Int.reduceLE, Int.emod_nonneg, ne_eq, Int.reduceEq, not_false_eq_true, not_true_eq_false, mL, dic2, lenO_lst out2, kept2, kvs_get, lnt]
      cases hg : hget h2 w2 with
      | none =>
        rw [if_neg (by simp)]
        rw [drained_none hg] at e2
        exact h_e _ _ ⟨rfl, f2, w2, g2, h2, l2, t2, e2⟩
      | some z =>
        rw [if_pos (by simp)]
        have l3 := hdrop_lt hg
        refine ⟨_, fun _ _ z => z, ?_⟩
        obtain ⟨_, _, ⟨n10, _, _⟩, _, _⟩ := t2.dist
        have n10 : R.o ≠ R.k := n10
        refine ⟨_, out2, _, rfl, g2.map V.str, (upd_ne n10).trans out2, by rw [List.length_map]; omega, (hdrop h2 w2).length, l3, (hI _ _ _).mpr ⟨rfl, (f2.upd (by simp [RwA.mu])).upd (by simp [RwA.mu]), w2 + 1, g2 ++ [z], hdrop h2 w2, rfl, by rw [List.length_append]; simp only [List.length_cons, List.length_nil]; omega, ?_, by rw [e2, drained_some hg]⟩⟩
        rw [kvs_drop]
        have t3 := (t2.upK (hdrop h2 w2)).upO (g2 ++ [z]) (w := w2 + 1) (by rw [List.length_append, wnt2]; rfl)
        rw [List.map_append] at t3
        exact t3
    rintro _ H2 ⟨rfl, f2, w2, g2, h2, l2, t2, e2⟩
    have dic2 : H2 R.m = some (.dK (mD R.b m.ring R.x m.base m.top R.o R.k R.l R.a)) := t2.dic
    have out2 : H2 R.o = some (.lst (g2.map V.str)) := t2.out
    have an2 : H2 R.a = some (.lst (m.an.map V.int)) := t2.an
    have wnt2 : w2 = g2.length := t2.want
    have lnt : ((g2.map V.str).length : Int) = w2 := by rw [List.length_map, wnt2]
    refine seq_gen fun N_f h_f => ?_
    simp only [RDa, RDb, RDv, RDk, RDx, RDe, RDd, RDp, RDq, List.getElem?_cons_zero, List.getElem?_cons_succ, List.set_cons_zero, List.set_cons_succ, List.cons.injEq, List.cons_ne_nil, reduceCtorEq, exists_eq_left', exists_eq_left, exists_and_left, and_assoc, exists_const, true_and, and_true, if_true, if_false, false_and, and_false, exists_false, false_or, or_false, true_implies, false_implies, implies_true, forall_eq, forall_eq', Bool.false_eq_true, if_neg, decide_eq_true_eq, Bool.not_eq_true', decide_eq_false_iff_not, Bool.not_true, Bool.not_false, List.length_cons, List.length_nil, sizeLine_eq, Nat.reduceAdd, Nat.reduceLeDiff, Nat.reduceLT, Int.reduceLT, Int.reduceLE, Int.emod_nonneg, ne_eq, Int.reduceEq, not_false_eq_true, not_true_eq_false, mL, dic2, lenO_lst out2, an2, lnt]
    have han := ok.an
    refine ⟨by omega, by rw [List.length_map]; omega, h_f _ _ ?_⟩
    clear h_f
    have t3 := t2.upA (m.an ++ [w2 % m.ring])
    have f3 : Fr R.mu H (upd H2 R.a (.lst ((m.an ++ [w2 % m.ring]).map V.int))) := f2.upd (by simp [RwA.mu])
    rw [show m.an.map V.int ++ [V.int (w2 % m.ring)] = (m.an ++ [w2 % m.ring]).map V.int by rw [List.map_append]; rfl]
    generalize upd H2 R.a (.lst ((m.an ++ [w2 % m.ring]).map V.int)) = H3 at t3 f3
    have dic3 : H3 R.m = some (.dK (mD R.b m.ring R.x m.base m.top R.o R.k R.l R.a)) := t3.dic
    have an3 : H3 R.a = some (.lst ((m.an ++ [w2 % m.ring]).map V.int)) := t3.an
    simp only [RDa, RDb, RDv, RDk, RDx, RDe, RDd, RDp, RDq, List.getElem?_cons_zero, List.getElem?_cons_succ, List.set_cons_zero, List.set_cons_succ, List.cons.injEq, List.cons_ne_nil, reduceCtorEq, exists_eq_left', exists_eq_left, exists_and_left, and_assoc, exists_const, true_and, and_true, if_true, if_false, false_and, and_false, exists_false, false_or, or_false, true_implies, false_implies, implies_true, forall_eq, forall_eq', Bool.false_eq_true, if_neg, decide_eq_true_eq, Bool.not_eq_true', decide_eq_false_iff_not, Bool.not_true, Bool.not_false, List.length_cons, List.length_nil, sizeLine_eq, Nat.reduceAdd, Nat.reduceLeDiff, Nat.reduceLT, Int.reduceLT, Int.reduceLE, Int.emod_nonneg, ne_eq, Int.reduceEq, not_false_eq_true, not_true_eq_false, mL, dic3, lenO_lst an3]
    intro q nq
    have e : (((m.an ++ [w2 % m.ring]).map V.int).length : Int) - 1 = m.an.length := by
      rw [List.length_map, List.length_append]
      show ((m.an.length + 1 : Nat) : Int) - 1 = _
      omega
    rw [e]
    have emh : m.handed qq = { m with want := w2, out := g2, kept := h2, an := m.an ++ [w2 % m.ring] } := by
      unfold M.handed
      rw [e2]
    rw [emh] at eh
    exact q1 _ _ eh _ q (f3.new nq) (RwAt.same t3 (same_new nq)) (RwAt.free t3 f3 nq) upd_same
end RP

namespace RP
open PySem PySem.Spec PyProof.Rows L2 L2H
abbrev s__law_tell : Stmt := top 47
abbrev N__law_tell : List Str := ["_law_m", "_law_number", "_law_step"]
theorem sc__law_tell : FnScope N__law_tell ["_law_m", "_law_number"] (defScope s__law_tell) := ⟨rfl, rfl, rfl, by decide +kernel, rfl, by decide +kernel, by decide +kernel⟩
def sp__law_tell (K : PySem.W.Frag) : Sp := fun vs H Q E => ∃ (R : RwA) (m : M) (N : Nat) (n : Int), vs = [.ref R.m, .int n] ∧ RwAt H R m ∧ m.Ok N ∧ N < 90000 ∧ 0 ≤ n ∧
  (∀ t m', m.tell n = some (t, m') → Told H R Q t m') ∧ (m.tell n = none → Refd H Q "letter")
theorem ok__law_tell {P : Program} {w : World} {K : PySem.W.Frag} {mg : Str → Option Value} {base : Heap} (F : FnP K ("_law_tell", none) "_law_tell" "_law_tell" s__law_tell) (hm : mg "_law_tell" = some (.ref (He.ga K "_law_tell"))) (bl : Blt mg) (c__law_is_there : Cal P w K mg base 1 "_law_is_there" (sp__law_is_there K)) : Cal P w K mg base 2 "_law_tell" (sp__law_tell K) := by
  refine fn_cal F hm sc__law_tell (fun vs H Q E => by walk_at "len") (fun _ _ _ _ _ _ us hl => match us, hl with | [_, _], _ => rfl) (fun f cdv A outer s H vs Q E hr h => ?_)
  have hu := hu_of hr
  obtain ⟨R, m, N, n, rfl, t, ok, hN, hn, q1, q2⟩ := h
  have eh : m.tell n = if isT n m.an.length m.b = true then some (sBase m.base m.top m.ring (m.an.getD n.toNat 0), { m with base := sBase m.base m.top m.ring (m.an.getD n.toNat 0) }) else none := rfl
  refine ⟨_, (pss_cons (ps_if (pt_not (pt_val (pe_fn c__law_is_there (hr.mono (by decide)) (L2N.takes_of rfl rfl rfl rfl) (pa_cons (pe_getD (by exact hu) (pv 0) pe_str (fun _ _ => rfl)) (pa_cons (pv 1) (pa_cons (pe_ix ix_C (pe_getD (by exact hu) (pv 0) pe_str (fun _ _ => rfl)) pe_int (fun _ _ => rfl)) pa_nil))))))
  (pss_one (ps_ret (pe_tup (pa_cons pe_str (pa_cons pe_str pa_nil)))))
  pss_nil)
  (pss_cons (ps_set (i := 2) sc__law_tell.nd rfl (Or.inl rfl) pe_int)
  (pss_cons (ps_while (passes_of rfl) (pt_cmpR op_ne (pe_op op_mod (pe_op op_sub (pe_op op_add (pe_getD (by exact hu) (pv 0) pe_str (fun _ _ => rfl)) (pv 2)) (pe_ix ix_C (pe_getD (by exact hu) (pv 0) pe_str (fun _ _ => rfl)) (pv 1) (fun _ _ => rfl))) (pe_getD (by exact hu) (pv 0) pe_str (fun _ _ => rfl))) pe_int (nomark _))
  (pss_one (ps_set (i := 2) sc__law_tell.nd rfl (Or.inl rfl) (pe_op op_add (pv 2) pe_int))))
  (pss_cons (ps_if (pt_cmpR op_le (pe_op op_add (pe_getD (by exact hu) (pv 0) pe_str (fun _ _ => rfl)) (pv 2)) (pe_getD (by exact hu) (pv 0) pe_str (fun _ _ => rfl)) (nomark _))
  (pss_one (ps_putD (by exact hu) (pv 0) pe_str (pe_op op_add (pe_getD (by exact hu) (pv 0) pe_str (fun _ _ => rfl)) (pv 2)) rfl))
  pss_nil)
  (pss_one (ps_ret (pe_tup (pa_cons pe_str (pa_cons (pe_getD (by exact hu) (pv 0) pe_str (fun _ _ => rfl)) pa_nil))))))))), ?_⟩
  walk_at "st0"
  refine seq_gen fun N_a h_a => ?_
  simp only [RDa, RDb, RDv, RDk, RDx, RDe, RDd, RDp, RDq, List.getElem?_cons_zero, List.getElem?_cons_succ, List.set_cons_zero, List.set_cons_succ, List.cons.injEq, List.cons_ne_nil, reduceCtorEq, exists_eq_left', exists_eq_left, exists_and_left, and_assoc, exists_const, true_and, and_true, if_true, if_false, false_and, and_false, exists_false, false_or, or_false, true_implies, false_implies, implies_true, forall_eq, forall_eq', Bool.false_eq_true, if_neg, decide_eq_true_eq, Bool.not_eq_true', decide_eq_false_iff_not, Bool.not_true, Bool.not_false, List.length_cons, List.length_nil, sizeLine_eq, Nat.reduceAdd, Nat.reduceLeDiff, Nat.reduceLT, Int.reduceLT, Int.reduceLE, Int.emod_nonneg, ne_eq, Int.reduceEq, not_false_eq_true, not_true_eq_false, mL, t.dic, seqO_tup t.bnd]
  refine ⟨R.a, m.an.map V.int, n, m.b, rfl, t.an, hn, ?_⟩
  rw [List.length_map]
  cases hT : isT n m.an.length m.b with
  | false =>
    simp only [RDa, RDb, RDv, RDk, RDx, RDe, RDd, RDp, RDq, List.getElem?_cons_zero, List.getElem?_cons_succ, List.set_cons_zero, List.set_cons_succ, List.cons.injEq, List.cons_ne_nil, reduceCtorEq, exists_eq_left', exists_eq_left, exists_and_left, and_assoc, exists_const, true_and, and_true, if_true, if_false, false_and, and_false, exists_false, false_or, or_false, true_implies, false_implies, implies_true, forall_eq, forall_eq', Bool.false_eq_true, if_neg, decide_eq_true_eq, Bool.not_eq_true', decide_eq_false_iff_not, Bool.not_true, Bool.not_false, List.length_cons, List.length_nil, sizeLine_eq, Nat.reduceAdd, Nat.reduceLeDiff, Nat.reduceLT, Int.reduceLT, Int.reduceLE, Int.emod_nonneg, ne_eq, Int.reduceEq, not_false_eq_true, not_true_eq_false]
    exact fun p np => q2 (by rw [eh, hT]; rfl) _ p (same_new np) np upd_same
  | true =>
    rw [hT, if_pos rfl] at eh
    have hT' := isT_iff.mp hT
    simp only [RDa, RDb, RDv, RDk, RDx, RDe, RDd, RDp, RDq, List.getElem?_cons_zero, List.getElem?_cons_succ, List.set_cons_zero, List.set_cons_succ, List.cons.injEq, List.cons_ne_nil, reduceCtorEq, exists_eq_left', exists_eq_left, exists_and_left, and_assoc, exists_const, true_and, and_true, if_true, if_false, false_and, and_false, exists_false, false_or, or_false, true_implies, false_implies, implies_true, forall_eq, forall_eq', Bool.false_eq_true, if_neg, decide_eq_true_eq, Bool.not_eq_true', decide_eq_false_iff_not, Bool.not_true, Bool.not_false, List.length_cons, List.length_nil, sizeLine_eq, Nat.reduceAdd, Nat.reduceLeDiff, Nat.reduceLT, Int.reduceLT, Int.reduceLE, Int.emod_nonneg, ne_eq, Int.reduceEq, not_false_eq_true, not_true_eq_false]
    refine h_a _ _ ?_
    clear h_a q2
    obtain ⟨v, hv⟩ : ∃ v, v = m.an.getD n.toNat 0 := ⟨_, rfl⟩
    rw [← hv] at eh
    have hi : n.toNat < m.an.length := by omega
    have hat : atI (m.an.map V.int) n = some (.int v) := by
      rw [show n = ((n.toNat : Nat) : Int) by omega]
      refine atI_nat ?_
      rw [List.getElem?_map, List.getElem?_eq_getElem hi, hv, List.getD_eq_getElem?_getD, List.getElem?_eq_getElem hi]
      rfl
    refine seq_gen fun N_b h_b => ?_
    simp only [RDa, RDb, RDv, RDk, RDx, RDe, RDd, RDp, RDq, List.getElem?_cons_zero, List.getElem?_cons_succ, List.set_cons_zero, List.set_cons_succ, List.cons.injEq, List.cons_ne_nil, reduceCtorEq, exists_eq_left', exists_eq_left, exists_and_left, and_assoc, exists_const, true_and, and_true, if_true, if_false, false_and, and_false, exists_false, false_or, or_false, true_implies, false_implies, implies_true, forall_eq, forall_eq', Bool.false_eq_true, if_neg, decide_eq_true_eq, Bool.not_eq_true', decide_eq_false_iff_not, Bool.not_true, Bool.not_false, List.length_cons, List.length_nil, sizeLine_eq, Nat.reduceAdd, Nat.reduceLeDiff, Nat.reduceLT, Int.reduceLT, Int.reduceLE, Int.emod_nonneg, ne_eq, Int.reduceEq, not_false_eq_true, not_true_eq_false]
    refine h_b _ _ ?_
    clear h_b
    have hr0 := ok.g1
    have hr2 := ok.g2
    have hsm := md_rng (v - m.base) (show (0 : Int) < m.ring by omega)
    refine seq_rel (fun σ H2 => H = H2 ∧ σ = [some (.ref R.m), some (.int n), some (.int ((v - m.base) % m.ring))]) (fun N_c h_c => ?_) ?_
    · refine ⟨fun mm σ H2 => H = H2 ∧ ∃ s : Int, σ = [some (.ref R.m), some (.int n), some (.int s)] ∧ 0 ≤ s ∧ s ≤ (v - m.base) % m.ring ∧ mm = ((v - m.base) % m.ring - s).toNat, ⟨_, rfl, 0, rfl, Int.le_refl _, hsm.1, rfl⟩, ?_⟩
      rintro mm σ H2 ⟨rfl, s, rfl, s0, s1, rfl⟩
      have hmod : (m.base + s - v) % m.ring = 0 ↔ s = (v - m.base) % m.ring := by
        rw [show m.base + s - v = s - (v - m.base) by omega, Int.emod_eq_emod_iff_emod_sub_eq_zero.symm, Int.emod_eq_of_lt s0 (by omega)]
      by_cases c : s = (v - m.base) % m.ring
      · have c' := hmod.mpr c
        simp only [RDa, RDb, RDv, RDk, RDx, RDe, RDd, RDp, RDq, List.getElem?_cons_zero, List.getElem?_cons_succ, List.set_cons_zero, List.set_cons_succ, List.cons.injEq, List.cons_ne_nil, reduceCtorEq, exists_eq_left', exists_eq_left, exists_and_left, and_assoc, exists_const, true_and, and_true, if_true, if_false, false_and, and_false, exists_false, false_or, or_false, true_implies, false_implies, implies_true, forall_eq, forall_eq', Bool.false_eq_true, if_neg, decide_eq_true_eq, Bool.not_eq_true', decide_eq_false_iff_not, Bool.not_true, Bool.not_false, List.length_cons, List.length_nil, sizeLine_eq, Nat.reduceAdd, Nat.reduceLeDiff, Nat.reduceLT, Int.reduceLT, Int.reduceLE, Int.emod_nonneg, ne_eq, Int.reduceEq, not_false_eq_true, not_true_eq_false, mL, t.dic, seqO_lst t.an, hat, c', show 0 < m.ring by omega]
        exact h_c _ _ ⟨rfl, by rw [c]⟩
      · have c' : ¬ (m.base + s - v) % m.ring = 0 := fun e => c (hmod.mp e)
        simp only [RDa, RDb, RDv, RDk, RDx, RDe, RDd, RDp, RDq, List.getElem?_cons_zero, List.getElem?_cons_succ, List.set_cons_zero, List.set_cons_succ, List.cons.injEq, List.cons_ne_nil, reduceCtorEq, exists_eq_left', exists_eq_left, exists_and_left, and_assoc, exists_const, true_and, and_true, if_true, if_false, false_and, and_false, exists_false, false_or, or_false, true_implies, false_implies, implies_true, forall_eq, forall_eq', Bool.false_eq_true, if_neg, decide_eq_true_eq, Bool.not_eq_true', decide_eq_false_iff_not, Bool.not_true, Bool.not_false, List.length_cons, List.length_nil, sizeLine_eq, Nat.reduceAdd, Nat.reduceLeDiff, Nat.reduceLT, Int.reduceLT, Int.reduceLE, Int.emod_nonneg, ne_eq, Int.reduceEq, not_false_eq_true, not_true_eq_false, mL, t.dic, seqO_lst t.an, hat, c', show 0 < m.ring by omega]
        refine ⟨_, fun _ _ z => z, _, ?_, rfl, s + 1, rfl, by omega, by omega, rfl⟩
        omega
    rintro _ _ ⟨rfl, rfl⟩
    refine seq_gen fun N_d h_d => ?_
    simp only [RDa, RDb, RDv, RDk, RDx, RDe, RDd, RDp, RDq, List.getElem?_cons_zero, List.getElem?_cons_succ, List.set_cons_zero, List.set_cons_succ, List.cons.injEq, List.cons_ne_nil, reduceCtorEq, exists_eq_left', exists_eq_left, exists_and_left, and_assoc, exists_const, true_and, and_true, if_true, if_false, false_and, and_false, exists_false, false_or, or_false, true_implies, false_implies, implies_true, forall_eq, forall_eq', Bool.false_eq_true, if_neg, decide_eq_true_eq, Bool.not_eq_true', decide_eq_false_iff_not, Bool.not_true, Bool.not_false, List.length_cons, List.length_nil, sizeLine_eq, Nat.reduceAdd, Nat.reduceLeDiff, Nat.reduceLT, Int.reduceLT, Int.reduceLE, Int.emod_nonneg, ne_eq, Int.reduceEq, not_false_eq_true, not_true_eq_false, mL, t.dic]
    have key : N_d [some (.ref R.m), some (.int n), some (.int ((v - m.base) % m.ring))] (upd H R.m (.dK (mD R.b m.ring R.x (sBase m.base m.top m.ring v) m.top R.o R.k R.l R.a))) := by
      have t2 := t.upB (sBase m.base m.top m.ring v)
      have f2 : Fr R.mu H (upd H R.m (.dK (mD R.b m.ring R.x (sBase m.base m.top m.ring v) m.top R.o R.k R.l R.a))) := (Fr.refl _ _).upd (by simp [RwA.mu])
      generalize upd H R.m (.dK (mD R.b m.ring R.x (sBase m.base m.top m.ring v) m.top R.o R.k R.l R.a)) = H2 at t2 f2
      refine h_d _ _ ?_
      have dic2 : H2 R.m = some (.dK (mD R.b m.ring R.x (sBase m.base m.top m.ring v) m.top R.o R.k R.l R.a)) := t2.dic
      simp only [RDa, RDb, RDv, RDk, RDx, RDe, RDd, RDp, RDq, List.getElem?_cons_zero, List.getElem?_cons_succ, List.set_cons_zero, List.set_cons_succ, List.cons.injEq, List.cons_ne_nil, reduceCtorEq, exists_eq_left', exists_eq_left, exists_and_left, and_assoc, exists_const, true_and, and_true, if_true, if_false, false_and, and_false, exists_false, false_or, or_false, true_implies, false_implies, implies_true, forall_eq, forall_eq', Bool.false_eq_true, if_neg, decide_eq_true_eq, Bool.not_eq_true', decide_eq_false_iff_not, Bool.not_true, Bool.not_false, List.length_cons, List.length_nil, sizeLine_eq, Nat.reduceAdd, Nat.reduceLeDiff, Nat.reduceLT, Int.reduceLT, Int.reduceLE, Int.emod_nonneg, ne_eq, Int.reduceEq, not_false_eq_true, not_true_eq_false, mL, dic2]
      exact fun q nq => q1 _ _ eh _ q (f2.new nq) (RwAt.same t2 (same_new nq)) (RwAt.free t2 f2 nq) upd_same
    unfold sBase at key
    split
    · rename_i c
      rw [if_pos c] at key
      exact key
    · rename_i c
      rw [if_neg c, upd_id t.dic] at key
      exact key
abbrev s__law_moved : Stmt := top 48
abbrev N__law_moved : List Str := ["_law_m", "_law_step"]
theorem sc__law_moved : FnScope N__law_moved ["_law_m", "_law_step"] (defScope s__law_moved) := ⟨rfl, rfl, rfl, by decide +kernel, rfl, by decide +kernel, by decide +kernel⟩
def refW (z : Str) : Str := if z = "send" then "now" else "letter"
def sp__law_moved (K : PySem.W.Frag) : Sp := fun vs H Q E => ∃ (R : RwA) (m : M) (N : Nat) (p : Addr) (z : Str) (n : Int), vs = [.ref R.m, .ref p] ∧ RwAt H R m ∧ m.Ok N ∧ N < 90000 ∧ H p = some (.tup [.str z, .int n]) ∧ isWord z ∧ 0 ≤ n ∧
  (∀ t m', m.step z n = some (t, m') → Told H R Q t m') ∧ (m.step z n = none → Refd H Q (refW z))
theorem ok__law_moved {P : Program} {w : World} {K : PySem.W.Frag} {mg : Str → Option Value} {base : Heap} (F : FnP K ("_law_moved", none) "_law_moved" "_law_moved" s__law_moved) (hm : mg "_law_moved" = some (.ref (He.ga K "_law_moved"))) (bl : Blt mg) (c__law_hand : Cal P w K mg base 2 "_law_hand" (sp__law_hand K)) (c__law_send : Cal P w K mg base 1 "_law_send" (sp__law_send K)) (c__law_tell : Cal P w K mg base 2 "_law_tell" (sp__law_tell K)) : Cal P w K mg base 3 "_law_moved" (sp__law_moved K) := by
  refine fn_cal F hm sc__law_moved (fun vs H Q E => by walk_at "len") (fun _ _ _ _ _ _ us hl => match us, hl with | [_, _], _ => rfl) (fun f cdv A outer s H vs Q E hr h => ?_)
  have hu := hu_of hr
  obtain ⟨R, m, N, p, z, n, rfl, t, ok, hN, hp, hz, hn, q1, q2⟩ := h
  refine ⟨_, (pss_cons (ps_if (pt_cmpR op_eq (pe_ix ix_C (pv 1) pe_int (fun _ _ => rfl)) pe_str (nomark _))
  (pss_one (ps_ret (pe_fn c__law_send (hr.mono (by decide)) (L2N.takes_of rfl rfl rfl rfl) (pa_cons (pv 0) (pa_cons (pe_ix ix_C (pv 1) pe_int (fun _ _ => rfl)) pa_nil)))))
  pss_nil)
  (pss_cons (ps_if (pt_cmpR op_eq (pe_ix ix_C (pv 1) pe_int (fun _ _ => rfl)) pe_str (nomark _))
  (pss_one (ps_ret (pe_fn c__law_hand (hr.mono (by decide)) (L2N.takes_of rfl rfl rfl rfl) (pa_cons (pv 0) (pa_cons (pe_ix ix_C (pv 1) pe_int (fun _ _ => rfl)) pa_nil)))))
  pss_nil)
  (pss_one (ps_ret (pe_fn c__law_tell (hr.mono (by decide)) (L2N.takes_of rfl rfl rfl rfl) (pa_cons (pv 0) (pa_cons (pe_ix ix_C (pv 1) pe_int (fun _ _ => rfl)) pa_nil))))))), ?_⟩
  walk_at "st0"
  rcases hz with rfl | rfl | rfl
  · simp only [RDa, RDb, RDv, RDk, RDx, RDe, RDd, RDp, RDq, List.getElem?_cons_zero, List.getElem?_cons_succ, List.set_cons_zero, List.set_cons_succ, List.cons.injEq, List.cons_ne_nil, reduceCtorEq, exists_eq_left', exists_eq_left, exists_and_left, and_assoc, exists_const, true_and, and_true, if_true, if_false, false_and, and_false, exists_false, false_or, or_false, true_implies, false_implies, implies_true, forall_eq, forall_eq', Bool.false_eq_true, if_neg, decide_eq_true_eq, Bool.not_eq_true', decide_eq_false_iff_not, Bool.not_true, Bool.not_false, List.length_cons, List.length_nil, sizeLine_eq, Nat.reduceAdd, Nat.reduceLeDiff, Nat.reduceLT, Int.reduceLT, Int.reduceLE, Int.emod_nonneg, ne_eq, Int.reduceEq, not_false_eq_true, not_true_eq_false, seqO_tup hp]
    exact ⟨R, m, N, n, rfl, t, ok, hN, hn, q1, q2⟩
  · simp only [RDa, RDb, RDv, RDk, RDx, RDe, RDd, RDp, RDq, List.getElem?_cons_zero, List.getElem?_cons_succ, List.set_cons_zero, List.set_cons_succ, List.cons.injEq, List.cons_ne_nil, reduceCtorEq, exists_eq_left', exists_eq_left, exists_and_left, and_assoc, exists_const, true_and, and_true, if_true, if_false, false_and, and_false, exists_false, false_or, or_false, true_implies, false_implies, implies_true, forall_eq, forall_eq', Bool.false_eq_true, if_neg, decide_eq_true_eq, Bool.not_eq_true', decide_eq_false_iff_not, Bool.not_true, Bool.not_false, List.length_cons, List.length_nil, sizeLine_eq, Nat.reduceAdd, Nat.reduceLeDiff, Nat.reduceLT, Int.reduceLT, Int.reduceLE, Int.emod_nonneg, ne_eq, Int.reduceEq, not_false_eq_true, not_true_eq_false, seqO_tup hp]
    exact ⟨R, m, N, n, rfl, t, ok, hN, hn, q1, q2⟩
  · simp only [RDa, RDb, RDv, RDk, RDx, RDe, RDd, RDp, RDq, List.getElem?_cons_zero, List.getElem?_cons_succ, List.set_cons_zero, List.set_cons_succ, List.cons.injEq, List.cons_ne_nil, reduceCtorEq, exists_eq_left', exists_eq_left, exists_and_left, and_assoc, exists_const, true_and, and_true, if_true, if_false, false_and, and_false, exists_false, false_or, or_false, true_implies, false_implies, implies_true, forall_eq, forall_eq', Bool.false_eq_true, if_neg, decide_eq_true_eq, Bool.not_eq_true', decide_eq_false_iff_not, Bool.not_true, Bool.not_false, List.length_cons, List.length_nil, sizeLine_eq, Nat.reduceAdd, Nat.reduceLeDiff, Nat.reduceLT, Int.reduceLT, Int.reduceLE, Int.emod_nonneg, ne_eq, Int.reduceEq, not_false_eq_true, not_true_eq_false, seqO_tup hp]
    exact ⟨R, m, N, n, rfl, t, ok, hN, hn, q1, q2⟩
end RP

namespace RP
open PySem PySem.Spec PyProof.Rows L2 L2H
theorem low_step {m m' : M} {z : Str} {n t : Int} (h : m.base ≤ m.top) (e : m.step z n = some (t, m')) : m'.base ≤ m'.top := by
  unfold M.step at e
  split at e
  · unfold M.send at e
    split at e
    · cases e
      show m.base ≤ sTop m.top n
      unfold sTop
      split <;> omega
    · cases e
  split at e
  · unfold M.hand at e
    split at e
    · cases e
      exact h
    · cases e
  · unfold M.tell at e
    split at e
    · cases e
      show sBase m.base m.top m.ring _ ≤ m.top
      unfold sBase
      split <;> omega
    · cases e
abbrev s__law_drawn : Stmt := top 49
abbrev N__law_drawn : List Str := ["_law_m", "_law_cell", "_law_kind", "_law_more", "_law_k", "_law_rows", "_law_bound", "_law_back"]
theorem sc__law_drawn : FnScope N__law_drawn ["_law_m", "_law_cell"] (defScope s__law_drawn) := ⟨rfl, rfl, rfl, by decide +kernel, rfl, by decide +kernel, by decide +kernel⟩
def sp__law_drawn (K : PySem.W.Frag) : Sp := fun vs H Q E => ∃ (R : RwA) (m : M) (N : Nat) (c : Int), vs = [.ref R.m, .int c] ∧ RwAt H R m ∧ m.Ok N ∧ N < 90000 ∧ m.base ≤ m.top ∧
  ∀ q z n H', Same H H' → H q = none → H' q = some (.tup [.str z, .int n]) → isWord z → 0 ≤ n → n ≤ 999999 → Q (.ref q) H'
theorem ok__law_drawn {P : Program} {w : World} {K : PySem.W.Frag} {mg : Str → Option Value} {base : Heap} (F : FnP K ("_law_drawn", none) "_law_drawn" "_law_drawn" s__law_drawn) (hm : mg "_law_drawn" = some (.ref (He.ga K "_law_drawn"))) (bl : Blt mg) : Cal P w K mg base 1 "_law_drawn" (sp__law_drawn K) := by
  refine fn_cal F hm sc__law_drawn (fun vs H Q E => by walk_at "len") (fun _ _ _ _ _ _ us hl => match us, hl with | [_, _], _ => rfl) (fun f cdv A outer s H vs Q E hr h => ?_)
  have hu := hu_of hr
  obtain ⟨R, m, N, c, rfl, t, ok, hN, hlow, q⟩ := h
  have em : ∀ i j : Int, (if j > i then j else i) = mx2 i j := fun _ _ => rfl
  have o1 := ok.b0
  have o2 := ok.t0
  have o3 := ok.tx
  have o4 := ok.w1
  have o5 := ok.w2
  have o6 := ok.d1
  have o7 := ok.d2
  have o8 := ok.b1
  have o9 := ok.b2
  have o10 := ok.ls
  have o11 := ok.an
  refine ⟨_, (pss_cons (ps_set (i := 2) sc__law_drawn.nd rfl (Or.inl rfl) (pe_op op_mod (pv 1) pe_int))
  (pss_cons (ps_set (i := 3) sc__law_drawn.nd rfl (Or.inl rfl) (pe_op op_fdiv (pv 1) pe_int))
  (pss_cons (ps_if (pt_cmpR op_lt (pv 2) pe_int (nomark _))
  (pss_cons (ps_set (i := 4) sc__law_drawn.nd rfl (Or.inl rfl) (pe_op op_add (pe_getD (by exact hu) (pv 0) pe_str (fun _ _ => rfl)) (pe_op op_mod (pv 3) (pe_ix ix_C (pe_getD (by exact hu) (pv 0) pe_str (fun _ _ => rfl)) pe_int (fun _ _ => rfl)))))
  (pss_cons (ps_if (pt_cmpR op_eq (pe_op op_mod (pe_op op_fdiv (pv 3) pe_int) pe_int) pe_int (nomark _))
  (pss_one (ps_set (i := 4) sc__law_drawn.nd rfl (Or.inl rfl) (pe_op op_add (pe_op op_sub (pe_getD (by exact hu) (pv 0) pe_str (fun _ _ => rfl)) pe_int) (pe_op op_mod (pe_op op_fdiv (pv 3) pe_int) (pe_op op_add (pe_ix ix_C (pe_getD (by exact hu) (pv 0) pe_str (fun _ _ => rfl)) pe_int (fun _ _ => rfl)) pe_int)))))
  (pss_one (ps_if (pt_cmpR op_gt (pe_op op_mod (pe_op op_fdiv (pv 3) pe_int) pe_int) pe_int (nomark _))
  (pss_one (ps_set (i := 4) sc__law_drawn.nd rfl (Or.inl rfl) (pe_getD (by exact hu) (pv 0) pe_str (fun _ _ => rfl))))
  pss_nil)))
  (pss_one (ps_ret (pe_tup (pa_cons pe_str (pa_cons (pe_callB (call_max2 rfl) (by rfl) (bl.max) (by decide +kernel) (pa_cons pe_int (pa_cons (pv 4) pa_nil))) pa_nil)))))))
  pss_nil)
  (pss_cons (ps_set (i := 5) sc__law_drawn.nd rfl (Or.inl rfl) (pe_pick (pa_cons (pe_getD (by exact hu) (pv 0) pe_str (fun _ _ => rfl)) (pa_cons (pe_getD (by exact hu) (pv 0) pe_str (fun _ _ => rfl)) pa_nil)) (pe_op op_fdiv (pv 2) pe_int) (fun _ _ => rfl)))
  (pss_cons (ps_set (i := 6) sc__law_drawn.nd rfl (Or.inl rfl) (pe_ix ix_C (pe_getD (by exact hu) (pv 0) pe_str (fun _ _ => rfl)) (pe_op op_add pe_int (pe_op op_fdiv (pv 2) pe_int)) (fun _ _ => rfl)))
  (pss_cons (ps_set (i := 7) sc__law_drawn.nd rfl (Or.inl rfl) (pe_op op_mod (pv 3) (pe_op op_add (pv 6) pe_int)))
  (pss_cons (ps_if (pt_cmpR op_eq (pe_op op_mod (pe_op op_fdiv (pv 3) pe_int) pe_int) pe_int (nomark _))
  (pss_one (ps_set (i := 7) sc__law_drawn.nd rfl (Or.inl rfl) (pe_pick (pa_cons (pe_op op_add (pv 6) pe_int) (pa_cons (pe_op op_sub (pe_un un_neg pe_int) (pv 6)) pa_nil)) (pe_op op_mod (pe_op op_fdiv (pv 3) pe_int) pe_int) (fun _ _ => rfl))))
  pss_nil)
  (pss_one (ps_ret (pe_tup (pa_cons (pe_pick (pa_cons pe_str (pa_cons pe_str pa_nil)) (pe_op op_fdiv (pv 2) pe_int) (fun _ _ => rfl)) (pa_cons (pe_callB (call_max2 rfl) (by rfl) (bl.max) (by decide +kernel) (pa_cons pe_int (pa_cons (pe_op op_sub (pe_op op_sub (pe_callB call_lenC (by rfl) (bl.len) (by decide +kernel) (pa_cons (pv 5) pa_nil)) pe_int) (pv 7)) pa_nil))) pa_nil)))))))))))), ?_⟩
  walk_at "st0"
  refine seq_gen fun N_a h_a => ?_
  simp only [RDa, RDb, RDv, RDk, RDx, RDe, RDd, RDp, RDq, List.getElem?_cons_zero, List.getElem?_cons_succ, List.set_cons_zero, List.set_cons_succ, List.cons.injEq, List.cons_ne_nil, reduceCtorEq, exists_eq_left', exists_eq_left, exists_and_left, and_assoc, exists_const, true_and, and_true, if_true, if_false, false_and, and_false, exists_false, false_or, or_false, true_implies, false_implies, implies_true, forall_eq, forall_eq', Bool.false_eq_true, if_neg, decide_eq_true_eq, Bool.not_eq_true', decide_eq_false_iff_not, Bool.not_true, Bool.not_false, List.length_cons, List.length_nil, sizeLine_eq, Nat.reduceAdd, Nat.reduceLeDiff, Nat.reduceLT, Int.reduceLT, Int.reduceLE, Int.emod_nonneg, ne_eq, Int.reduceEq, not_false_eq_true, not_true_eq_false]
  refine h_a _ _ ?_
  clear h_a
  refine seq_gen fun N_b h_b => ?_
  simp only [RDa, RDb, RDv, RDk, RDx, RDe, RDd, RDp, RDq, List.getElem?_cons_zero, List.getElem?_cons_succ, List.set_cons_zero, List.set_cons_succ, List.cons.injEq, List.cons_ne_nil, reduceCtorEq, exists_eq_left', exists_eq_left, exists_and_left, and_assoc, exists_const, true_and, and_true, if_true, if_false, false_and, and_false, exists_false, false_or, or_false, true_implies, false_implies, implies_true, forall_eq, forall_eq', Bool.false_eq_true, if_neg, decide_eq_true_eq, Bool.not_eq_true', decide_eq_false_iff_not, Bool.not_true, Bool.not_false, List.length_cons, List.length_nil, sizeLine_eq, Nat.reduceAdd, Nat.reduceLeDiff, Nat.reduceLT, Int.reduceLT, Int.reduceLE, Int.emod_nonneg, ne_eq, Int.reduceEq, not_false_eq_true, not_true_eq_false]
  refine h_b _ _ ?_
  clear h_b
  have fin : ∀ (z : Str) (n : Int), isWord z → n ≤ 999999 → ∀ p : Addr, H p = none → Q (.ref p) (upd H p (.tup [.str z, .int (mx2 0 n)])) := fun z n hz hn p np =>
    q p z _ _ (same_new np) np upd_same hz (mx2_le.mp (Int.le_refl (mx2 0 n))).1 (mx2_le.mpr ⟨by decide, hn⟩)
  have w1 : isWord "send" := .inl rfl
  have w2 : isWord "hand" := .inr (.inl rfl)
  have w3 : isWord "tell" := .inr (.inr rfl)
  refine seq_gen fun N_c h_c => ?_
  simp only [RDa, RDb, RDv, RDk, RDx, RDe, RDd, RDp, RDq, List.getElem?_cons_zero, List.getElem?_cons_succ, List.set_cons_zero, List.set_cons_succ, List.cons.injEq, List.cons_ne_nil, reduceCtorEq, exists_eq_left', exists_eq_left, exists_and_left, and_assoc, exists_const, true_and, and_true, if_true, if_false, false_and, and_false, exists_false, false_or, or_false, true_implies, false_implies, implies_true, forall_eq, forall_eq', Bool.false_eq_true, if_neg, decide_eq_true_eq, Bool.not_eq_true', decide_eq_false_iff_not, Bool.not_true, Bool.not_false, List.length_cons, List.length_nil, sizeLine_eq, Nat.reduceAdd, Nat.reduceLeDiff, Nat.reduceLT, Int.reduceLT, Int.reduceLE, Int.emod_nonneg, ne_eq, Int.reduceEq, not_false_eq_true, not_true_eq_false, mL, t.dic, seqO_tup t.bnd, em]
  have m1 := md_rng (c / 8) (show (0 : Int) < m.w by omega)
  have m2 := md_rng (c / 8 / 140) (show (0 : Int) < m.w + 3 by omega)
  by_cases c3 : c % 8 < 3
  · rw [if_pos c3]
    refine ⟨by omega, ?_⟩
    split
    · exact ⟨by omega, fin _ _ w1 (by omega)⟩
    · split
      · exact fin _ _ w1 (by omega)
      · exact fin _ _ w1 (by omega)
  rw [if_neg c3]
  refine h_c _ _ ?_
  clear h_c
  rcases (show c % 8 / 6 = 0 ∨ c % 8 / 6 = 1 by omega) with e | e
  · obtain ⟨vs, hl, hlen⟩ : ∃ vs, H R.l = some (.lst vs) ∧ vs.length ≤ 90000 := t.ls.elim fun vs z => ⟨vs, z.1, by have := z.2.length; omega⟩
    have m3 := md_rng (c / 8) (show (0 : Int) < m.d + 1 by omega)
    simp only [RDa, RDb, RDv, RDk, RDx, RDe, RDd, RDp, RDq, List.getElem?_cons_zero, List.getElem?_cons_succ, List.set_cons_zero, List.set_cons_succ, List.cons.injEq, List.cons_ne_nil, reduceCtorEq, exists_eq_left', exists_eq_left, exists_and_left, and_assoc, exists_const, true_and, and_true, if_true, if_false, false_and, and_false, exists_false, false_or, or_false, true_implies, false_implies, implies_true, forall_eq, forall_eq', Bool.false_eq_true, if_neg, decide_eq_true_eq, Bool.not_eq_true', decide_eq_false_iff_not, Bool.not_true, Bool.not_false, List.length_cons, List.length_nil, sizeLine_eq, Nat.reduceAdd, Nat.reduceLeDiff, Nat.reduceLT, Int.reduceLT, Int.reduceLE, Int.emod_nonneg, ne_eq, Int.reduceEq, not_false_eq_true, not_true_eq_false, mL, t.dic, seqO_tup t.bnd, em, e, Int.add_zero, Int.reduceAdd, lenO_lst hl]
    refine ⟨by omega, ?_⟩
    split
    · have m4 := md_rng (c / 8 / 360) (show (0 : Int) < 2 by decide)
      rcases (show c / 8 / 360 % 2 = 0 ∨ c / 8 / 360 % 2 = 1 by omega) with e4 | e4
      · rw [e4]
        exact ⟨_, rfl, _, rfl, fin _ _ w2 (by omega)⟩
      · rw [e4]
        exact ⟨_, rfl, _, rfl, fin _ _ w2 (by omega)⟩
    · exact fin _ _ w2 (by omega)
  · obtain ⟨vs, hl, hlen⟩ : ∃ vs, H R.a = some (.lst vs) ∧ vs.length ≤ 90000 := ⟨_, t.an, by rw [List.length_map]; omega⟩
    have m3 := md_rng (c / 8) (show (0 : Int) < m.b + 1 by omega)
    simp only [RDa, RDb, RDv, RDk, RDx, RDe, RDd, RDp, RDq, List.getElem?_cons_zero, List.getElem?_cons_succ, List.set_cons_zero, List.set_cons_succ, List.cons.injEq, List.cons_ne_nil, reduceCtorEq, exists_eq_left', exists_eq_left, exists_and_left, and_assoc, exists_const, true_and, and_true, if_true, if_false, false_and, and_false, exists_false, false_or, or_false, true_implies, false_implies, implies_true, forall_eq, forall_eq', Bool.false_eq_true, if_neg, decide_eq_true_eq, Bool.not_eq_true', decide_eq_false_iff_not, Bool.not_true, Bool.not_false, List.length_cons, List.length_nil, sizeLine_eq, Nat.reduceAdd, Nat.reduceLeDiff, Nat.reduceLT, Int.reduceLT, Int.reduceLE, Int.emod_nonneg, ne_eq, Int.reduceEq, not_false_eq_true, not_true_eq_false, mL, t.dic, seqO_tup t.bnd, em, e, Int.add_zero, Int.reduceAdd, lenO_lst hl]
    refine ⟨by omega, ?_⟩
    split
    · have m4 := md_rng (c / 8 / 360) (show (0 : Int) < 2 by decide)
      rcases (show c / 8 / 360 % 2 = 0 ∨ c / 8 / 360 % 2 = 1 by omega) with e4 | e4
      · rw [e4]
        exact ⟨_, rfl, _, rfl, fin _ _ w3 (by omega)⟩
      · rw [e4]
        exact ⟨_, rfl, _, rfl, fin _ _ w3 (by omega)⟩
    · exact fin _ _ w3 (by omega)
end RP

namespace RP
open PySem PySem.Spec PyProof.Rows L2
/-- what was told at some time: pairs of a list and its copy, off A -/
def OldOk (A : List Addr) (H : Hp) (os : List V) : Prop := ∀ o ∈ os, ∃ q a b d, o = V.ref q ∧ hm A H q = some (.tup [.ref a, .ref b]) ∧ dat (hm A H) 8 (.ref a) = some d ∧ dat (hm A H) 8 (.ref b) = some d ∧ Shp 8 d
theorem OldOk.fr {A : List Addr} {H H1 : Hp} {os : List V} (h : OldOk A H os) (f : Fr A H H1) : OldOk A H1 os := fun o ho => by
  obtain ⟨q, a, b, d, e, h1, h2, h3, h4⟩ := h o ho
  exact ⟨q, a, b, d, e, hm_fr f _ _ h1, dat_same (hm_fr f) _ _ _ h2, dat_same (hm_fr f) _ _ _ h3, h4⟩
theorem OldOk.snoc {A : List Addr} {H : Hp} {os : List V} (h : OldOk A H os) {q a b : Addr} {d : PyData} (h1 : hm A H q = some (.tup [.ref a, .ref b])) (h2 : dat (hm A H) 8 (.ref a) = some d) (h3 : dat (hm A H) 8 (.ref b) = some d) (h4 : Shp 8 d) : OldOk A H (os ++ [.ref q]) := fun o ho => by
  rcases List.mem_append.mp ho with z | z
  · exact h o z
  · have e : o = .ref q := by simpa using z
    exact ⟨q, a, b, d, e, h1, h2, h3, h4⟩
/-- A's members are there -/
def Liv (A : List Addr) (H : Hp) : Prop := ∀ c ∈ A, H c ≠ none
theorem Liv.not {A : List Addr} {H : Hp} (h : Liv A H) {c : Addr} (n : H c = none) : c ∉ A := fun m => h c m n
/-- the list l and its copy, put among the old ones -/
theorem old_add {A : List Addr} {H : Hp} {ol l : Addr} {os xs : List V} {ds : List PyData} (hA : Liv A H) (olA : ol ∈ A) (lA : l ∉ A) (ho : H ol = some (.lst os)) (old : OldOk A H os) (hl : H l = some (.lst xs)) (hd : mapO (dat (hm (l :: A) H) 7) xs = some ds) (sd : ∀ d ∈ ds, Shp 7 d) {b q : Addr} (nb : H b = none) (nq : upd H b (.lst xs) q = none) :
    upd (upd H b (.lst xs)) q (.tup [.ref l, .ref b]) ol = some (.lst os) ∧ Fr [ol] H (upd (upd (upd H b (.lst xs)) q (.tup [.ref l, .ref b])) ol (.lst (os ++ [V.ref q]))) ∧ OldOk A (upd (upd (upd H b (.lst xs)) q (.tup [.ref l, .ref b])) ol (.lst (os ++ [V.ref q]))) (os ++ [V.ref q]) := by
  have qb : q ≠ b := fun e => by rw [e, upd_same] at nq; cases nq
  rw [upd_ne qb] at nq
  have b_ol : ol ≠ b := fun e => by rw [e, nb] at ho; cases ho
  have q_ol : ol ≠ q := fun e => by rw [e, nq] at ho; cases ho
  have lol : l ≠ ol := fun e => lA (by rw [e]; exact olA)
  have bA := hA.not nb
  have qA := hA.not nq
  have f89 : Fr [ol] H (upd (upd (upd H b (.lst xs)) q (.tup [.ref l, .ref b])) ol (.lst (os ++ [V.ref q]))) := (((Fr.refl _ _).new nb).new (by rw [upd_ne qb]; exact nq)).upd (by simp)
  refine ⟨by rw [upd_ne q_ol, upd_ne b_ol]; exact ho, f89, ?_⟩
  have hb9 : hm A (upd (upd (upd H b (.lst xs)) q (.tup [.ref l, .ref b])) ol (.lst (os ++ [V.ref q]))) b = some (.lst xs) := by
    rw [hm_in bA, upd_ne (Ne.symm b_ol), upd_ne (Ne.symm qb), upd_same]
  have hq9 : hm A (upd (upd (upd H b (.lst xs)) q (.tup [.ref l, .ref b])) ol (.lst (os ++ [V.ref q]))) q = some (.tup [.ref l, .ref b]) := by
    rw [hm_in qA, upd_ne (Ne.symm q_ol), upd_same]
  generalize upd (upd (upd H b (.lst xs)) q (.tup [.ref l, .ref b])) ol (.lst (os ++ [V.ref q])) = H9 at f89 hb9 hq9
  have hl9 : hm A H9 l = some (.lst xs) := by
    rw [hm_in lA]
    exact f89 _ _ (by simpa using lol) hl
  have sm : Same (hm (l :: A) H) (hm A H9) := fun c o e => by
    unfold hm at e
    split at e
    · cases e
    · rename_i n
      have n2 : c ∉ A := fun h => n (List.mem_cons_of_mem _ h)
      rw [hm_in n2]
      exact f89 _ _ (by
        have z : c ≠ ol := fun e2 => n2 (by rw [e2]; exact olA)
        simpa using z) e
  have d9 := mapO_same (dat_same sm 7) _ _ hd
  exact (old.fr (f89.mono (by simpa using olA))).snoc hq9 (by rw [dat_lst hl9, d9]; rfl) (by rw [dat_lst hb9, d9]; rfl) (shp_list sd)
theorem mapO_get {f : V → Option PyData} : ∀ {xs : List V} {ds : List PyData} {i : Nat} {x : V}, mapO f xs = some ds → xs[i]? = some x → ∃ d, ds[i]? = some d ∧ f x = some d
  | [], _, _, _, _, e => by simp at e
  | y :: r, ds, i, x, h, e => by
    unfold mapO at h
    split at h
    · rename_i d ds' h1 h2
      cases h
      cases i with
      | zero =>
        have e2 : y = x := by simpa using e
        subst e2
        exact ⟨d, rfl, h1⟩
      | succ i =>
        obtain ⟨d2, e3, e4⟩ := mapO_get (i := i) h2 (by simpa using e)
        exact ⟨d2, by simpa using e3, e4⟩
    · cases h
theorem mapO_len {f : V → Option PyData} : ∀ {xs : List V} {ds : List PyData}, mapO f xs = some ds → xs.length = ds.length
  | [], _, h => by cases h; rfl
  | y :: r, ds, h => by
    unfold mapO at h
    split at h
    · rename_i d ds' h1 h2
      cases h
      rw [List.length_cons, List.length_cons, mapO_len h2]
    · cases h
theorem dat_up {H : Hp} : ∀ (n : Nat) (v : V) (d : PyData), dat H n v = some d → dat H (n + 1) v = some d := by
  intro n
  induction n with
  | zero =>
    intro v d h
    cases v <;> first | exact h | (unfold dat at h; cases h)
  | succ n ih =>
    intro v d h
    cases v with
    | ref a =>
      unfold dat at h ⊢
      split at h
      · rename_i xs e1
        obtain ⟨ds, e2, rfl⟩ := Option.map_eq_some_iff.mp h
        rw [mapO_same ih _ _ e2]
        rfl
      · rename_i xs e1
        obtain ⟨ds, e2, rfl⟩ := Option.map_eq_some_iff.mp h
        rw [mapO_same ih _ _ e2]
        rfl
      · rename_i ob xs e1
        obtain ⟨ds, e2, rfl⟩ := Option.map_eq_some_iff.mp h
        rw [mapO_same ih _ _ e2]
        rfl
      · cases h
    | _ => exact h
end RP

namespace RP
open PySem PySem.Spec PyProof.Rows L2 L2H
abbrev s__law_said : Stmt := top 51
abbrev N__law_said : List Str := ["_law_run", "_law_step"]
theorem sc__law_said : FnScope N__law_said ["_law_run", "_law_step"] (defScope s__law_said) := ⟨rfl, rfl, rfl, by decide +kernel, rfl, by decide +kernel, by decide +kernel⟩
def sp__law_said (K : PySem.W.Frag) : Sp := fun vs H Q E => ∃ (A : RA) (m : M) (hs : List (Str × Int)) (N : Nat) (p : Addr) (z : Str) (n : Int), vs = [.ref A.p, .ref p] ∧ RunAt K H A m hs ∧ m.Ok N ∧ N < 90000 ∧ hs.length < 90000 ∧ H p = some (.tup [.str z, .int n]) ∧ isWord z ∧ 0 ≤ n ∧ n ≤ 999999 ∧
  (∀ t m' H1 q, m.step z n = some (t, m') → Fr A.mu' H H1 → RunAt K H1 A m' (hs ++ [(z, n)]) → H q = none → H1 q = some (.tup [.str "told", .int t]) → Q (.ref q) H1) ∧
  (m.step z n = none → ∀ H1 q, Same H H1 → H q = none → H1 q = some (.tup [.str "refused", .str (if z = "send" then "now" else "letter")]) → Q (.ref q) H1)
theorem ok__law_said {P : Program} {w : World} {K : PySem.W.Frag} {mg : Str → Option Value} {base : Heap} (F : FnP K ("_law_said", none) "_law_said" "_law_said" s__law_said) (hm : mg "_law_said" = some (.ref (He.ga K "_law_said"))) (bl : Blt mg) (hRun : RunF K) (m_Run_do : MCal P w K mg base 4 (He.ga K "Run") "do" (sp_Run_do K)) (e_NoLetter : ErrC K mg "NoLetter") (e_NotNow : ErrC K mg "NotNow") (hx1 : PySem.W.exmOne K (.ref (He.ga K "NotNow")) (.ref (He.ga K "NotNow")) = some true) (hx2 : PySem.W.exmOne K (.ref (He.ga K "NoLetter")) (.ref (He.ga K "NotNow")) = some false) (hx3 : PySem.W.exmOne K (.ref (He.ga K "NoLetter")) (.ref (He.ga K "NoLetter")) = some true) : Cal P w K mg base 5 "_law_said" (sp__law_said K) := by
  refine fn_cal F hm sc__law_said (fun vs H Q E => by walk_at "len") (fun _ _ _ _ _ _ us hl => match us, hl with | [_, _], _ => rfl) (fun f cdv A outer s H vs Q E hr h => ?_)
  have hu := hu_of hr
  obtain ⟨A, m, hs, N, p, z, n, rfl, t, ok, hN, hl, hpt, hz, n0, n1, q1, q2⟩ := h
  obtain ⟨dx, hp⟩ := t.c.ins
  obtain ⟨kn, sv⟩ := step_tup hpt hz n0 n1
  refine ⟨_, (pss_one (L2N.ps_try_many rfl rfl (L2N.takes_of rfl rfl rfl rfl)
  (fun W pn xe tk po => (pss_one (ps_ret (pe_tup (pa_cons pe_str (pa_cons (pe_mth (pv 0) m_Run_do (hr.mono (by decide)) tk (pa_cons (pv 1) pa_nil)) pa_nil))))))
  (.cons ⟨rfl, by decide, .inl e_NotNow.g⟩ (fun a oe cls d pn hz hf => (pss_one (ps_ret (pe_tup (pa_cons pe_str (pa_cons pe_str pa_nil)))))) (.cons ⟨rfl, by decide, .inl e_NoLetter.g⟩ (fun a oe cls d pn hz hf => (pss_one (ps_ret (pe_tup (pa_cons pe_str (pa_cons pe_str pa_nil)))))) .nil)))), ?_⟩
  walk_at "st0"
  simp only [RDa, RDb, RDv, RDk, RDx, RDe, RDd, RDp, RDq, List.getElem?_cons_zero, List.getElem?_cons_succ, List.set_cons_zero, List.set_cons_succ, List.cons.injEq, List.cons_ne_nil, reduceCtorEq, exists_eq_left', exists_eq_left, exists_and_left, and_assoc, exists_const, true_and, and_true, if_true, if_false, false_and, and_false, exists_false, false_or, or_false, true_implies, false_implies, implies_true, forall_eq, forall_eq', Bool.false_eq_true, if_neg, decide_eq_true_eq, Bool.not_eq_true', decide_eq_false_iff_not, Bool.not_true, Bool.not_false, List.length_cons, List.length_nil, sizeLine_eq, Nat.reduceAdd, Nat.reduceLeDiff, Nat.reduceLT, Int.reduceLT, Int.reduceLE, Int.emod_nonneg, ne_eq, Int.reduceEq, not_false_eq_true, not_true_eq_false, hRun, RunL, hp, hx1, hx2, hx3]
  refine ⟨A, m, hs, N, _, rfl, t, ok, hN, hl, kn, fun a z' n' u m' H1 e ha hv es f1 t1 c nc => ?_, fun a z' n' H1 e ha hv es s1 => ?_, fun hv => by rw [sv] at hv; cases hv⟩
  · cases e
    rw [hpt] at ha
    cases ha
    have sp := same_new (o := HO.tup [.str "told", .int u]) nc
    exact q1 u m' _ c es (f1.trans (.of sp)) (t1.same sp) (t1.free f1 nc) upd_same
  · cases e
    rw [hpt] at ha
    cases ha
    have q := q2 es
    unfold errOf
    by_cases c : z = "send"
    · rw [if_pos c] at q ⊢
      simp only [RDa, RDb, RDv, RDk, RDx, RDe, RDd, RDp, RDq, List.getElem?_cons_zero, List.getElem?_cons_succ, List.set_cons_zero, List.set_cons_succ, List.cons.injEq, List.cons_ne_nil, reduceCtorEq, exists_eq_left', exists_eq_left, exists_and_left, and_assoc, exists_const, true_and, and_true, if_true, if_false, false_and, and_false, exists_false, false_or, or_false, true_implies, false_implies, implies_true, forall_eq, forall_eq', Bool.false_eq_true, if_neg, decide_eq_true_eq, Bool.not_eq_true', decide_eq_false_iff_not, Bool.not_true, Bool.not_false, List.length_cons, List.length_nil, sizeLine_eq, Nat.reduceAdd, Nat.reduceLeDiff, Nat.reduceLT, Int.reduceLT, Int.reduceLE, Int.emod_nonneg, ne_eq, Int.reduceEq, not_false_eq_true, not_true_eq_false, hx1, hx2, hx3]
      exact fun a na p np => q _ p (s1.trans (same_new np)) (s1.free np) upd_same
    · rw [if_neg c] at q ⊢
      simp only [RDa, RDb, RDv, RDk, RDx, RDe, RDd, RDp, RDq, List.getElem?_cons_zero, List.getElem?_cons_succ, List.set_cons_zero, List.set_cons_succ, List.cons.injEq, List.cons_ne_nil, reduceCtorEq, exists_eq_left', exists_eq_left, exists_and_left, and_assoc, exists_const, true_and, and_true, if_true, if_false, false_and, and_false, exists_false, false_or, or_false, true_implies, false_implies, implies_true, forall_eq, forall_eq', Bool.false_eq_true, if_neg, decide_eq_true_eq, Bool.not_eq_true', decide_eq_false_iff_not, Bool.not_true, Bool.not_false, List.length_cons, List.length_nil, sizeLine_eq, Nat.reduceAdd, Nat.reduceLeDiff, Nat.reduceLT, Int.reduceLT, Int.reduceLE, Int.emod_nonneg, ne_eq, Int.reduceEq, not_false_eq_true, not_true_eq_false, hx1, hx2, hx3]
      exact fun a na p np => q _ p (s1.trans (same_new np)) (s1.free np) upd_same
end RP

namespace RP
open PySem PySem.Spec PyProof.Rows L2 L2H
theorem filter_ge (lo : Nat) : ∀ n : Nat, (List.range n).filter (fun i => decide (lo ≤ i)) = (List.range (n - lo)).map fun i => lo + i
  | 0 => by simp
  | n + 1 => by
    rw [List.range_succ, List.filter_append, filter_ge lo n]
    by_cases h : lo ≤ n
    · rw [show n + 1 - lo = (n - lo) + 1 by omega, List.range_succ, List.map_append, List.filter_cons, if_pos (decide_eq_true h), List.filter_nil]
      congr 1
      simp only [List.map_cons, List.map_nil]
      rw [show lo + (n - lo) = n by omega]
    · rw [show n + 1 - lo = 0 by omega, show n - lo = 0 by omega, List.filter_cons, if_neg (by simpa using h), List.filter_nil]
      rfl
theorem filter_there (len : Nat) (b : Int) : (List.range len).filter (fun i => isT (i : Nat) len b) = thereN len b := by
  have h0 : 0 ≤ mx2 0 ((len : Int) - 1 - b) := (mx2_le.mp (Int.le_refl (mx2 0 ((len : Int) - 1 - b)))).1
  rw [List.filter_congr (q := fun i => decide ((mx2 0 ((len : Int) - 1 - b)).toNat ≤ i)) (fun i hi => ?_), filter_ge]
  · rfl
  · rw [List.mem_range] at hi
    unfold isT
    rw [Bool.eq_iff_iff, Bool.and_eq_true, decide_eq_true_eq, decide_eq_true_eq, decide_eq_true_eq]
    omega
theorem fil_pos {p : Nat → Bool} {n : Nat} (h : p n = true) : (List.range (n + 1)).filter p = (List.range n).filter p ++ [n] := by
  rw [List.range_succ, List.filter_append, List.filter_cons, if_pos h, List.filter_nil]
theorem fil_neg {p : Nat → Bool} {n : Nat} (h : p n = false) : (List.range (n + 1)).filter p = (List.range n).filter p := by
  rw [List.range_succ, List.filter_append, List.filter_cons, if_neg (by rw [h]; exact Bool.false_ne_true), List.filter_nil, List.append_nil]
/-- the law's own tellings -/
def DueAt (H : Hp) (R : RwA) (m : M) (q c l a : Addr) : Prop := H q = some (.lst [.ref c, .ref l, .ref a, .ref R.o, .bl m.isWrong]) ∧ H c = some (.tup [.int m.base, .int m.top, .int m.want]) ∧
  (∃ rs, H l = some (.lst rs) ∧ All2 (LRow m H) (thereN m.ls.length m.d) rs) ∧ (∃ rs, H a = some (.lst rs) ∧ All2 (ARow m H) (thereN m.an.length m.b) rs)
theorem LRow.fr {m : M} {H H1 : Hp} {i : Nat} {v : V} {B : List Addr} (h : LRow m H i v) (f : Fr B H H1) (hT : ∀ x ∈ B, ∀ xs, H x ≠ some (.tup xs)) : LRow m H1 i v := by
  obtain ⟨a, e, h⟩ := h
  exact ⟨a, e, f _ _ (fun mm => hT _ mm _ h) h⟩
theorem ARow.fr {m : M} {H H1 : Hp} {i : Nat} {v : V} {B : List Addr} (h : ARow m H i v) (f : Fr B H H1) (hT : ∀ x ∈ B, ∀ xs, H x ≠ some (.tup xs)) : ARow m H1 i v := by
  obtain ⟨a, e, h⟩ := h
  exact ⟨a, e, f _ _ (fun mm => hT _ mm _ h) h⟩
abbrev s__law_state : Stmt := top 52
abbrev N__law_state : List Str := ["_law_m", "_law_letters", "_law_number", "_law_answers", "_law_is_wrong"]
theorem sc__law_state : FnScope N__law_state ["_law_m"] (defScope s__law_state) := ⟨rfl, rfl, rfl, by decide +kernel, rfl, by decide +kernel, by decide +kernel⟩
def sp__law_state (K : PySem.W.Frag) : Sp := fun vs H Q E => ∃ (R : RwA) (m : M) (N : Nat), vs = [.ref R.m] ∧ RwAt H R m ∧ m.Ok N ∧ N < 90000 ∧ ∀ q c l a H', Same H H' → H q = none → H l = none → H a = none → DueAt H' R m q c l a → Q (.ref q) H'
theorem ok__law_state {P : Program} {w : World} {K : PySem.W.Frag} {mg : Str → Option Value} {base : Heap} (F : FnP K ("_law_state", none) "_law_state" "_law_state" s__law_state) (hm : mg "_law_state" = some (.ref (He.ga K "_law_state"))) (bl : Blt mg) (c__law_is_there : Cal P w K mg base 1 "_law_is_there" (sp__law_is_there K)) : Cal P w K mg base 2 "_law_state" (sp__law_state K) := by
  refine fn_cal F hm sc__law_state (fun vs H Q E => by walk_at "len") (fun _ _ _ _ _ _ us hl => match us, hl with | [_], _ => rfl) (fun f cdv A outer s H vs Q E hr h => ?_)
  have hu := hu_of hr
  obtain ⟨R, m, N, rfl, t, ok, hN, q⟩ := h
  have okl := ok.ls
  have oka := ok.an
  refine ⟨_, (pss_cons (ps_set (i := 1) sc__law_state.nd rfl (Or.inl rfl) (pe_lst pa_nil))
  (pss_cons (ps_for (passes_of rfl) rfl (pi_range1 rfl (bl.range) (pa_cons (pe_callB call_lenC (by rfl) (bl.len) (by decide +kernel) (pa_cons (pe_getD (by exact hu) (pv 0) pe_str (fun _ _ => rfl)) pa_nil)) pa_nil)) (pg_name (i := 2) sc__law_state.nd rfl (Or.inl rfl))
  (pss_one (ps_if (pt_val (pe_fn c__law_is_there (hr.mono (by decide)) (L2N.takes_of rfl rfl rfl rfl) (pa_cons (pe_getD (by exact hu) (pv 0) pe_str (fun _ _ => rfl)) (pa_cons (pv 2) (pa_cons (pe_ix ix_C (pe_getD (by exact hu) (pv 0) pe_str (fun _ _ => rfl)) pe_int (fun _ _ => rfl)) pa_nil)))))
  (pss_one (ps_expr (pe_app (pv 1) (pe_op op_catTC (pe_tup (pa_cons (pv 2) pa_nil)) (pe_ix ix_C (pe_getD (by exact hu) (pv 0) pe_str (fun _ _ => rfl)) (pv 2) (fun _ _ => rfl))))))
  pss_nil)))
  (pss_cons (ps_set (i := 3) sc__law_state.nd rfl (Or.inl rfl) (pe_lst pa_nil))
  (pss_cons (ps_for (passes_of rfl) rfl (pi_range1 rfl (bl.range) (pa_cons (pe_callB call_lenC (by rfl) (bl.len) (by decide +kernel) (pa_cons (pe_getD (by exact hu) (pv 0) pe_str (fun _ _ => rfl)) pa_nil)) pa_nil)) (pg_name (i := 2) sc__law_state.nd rfl (Or.inl rfl))
  (pss_one (ps_if (pt_val (pe_fn c__law_is_there (hr.mono (by decide)) (L2N.takes_of rfl rfl rfl rfl) (pa_cons (pe_getD (by exact hu) (pv 0) pe_str (fun _ _ => rfl)) (pa_cons (pv 2) (pa_cons (pe_ix ix_C (pe_getD (by exact hu) (pv 0) pe_str (fun _ _ => rfl)) pe_int (fun _ _ => rfl)) pa_nil)))))
  (pss_one (ps_expr (pe_app (pv 3) (pe_tup (pa_cons (pv 2) (pa_cons (pe_ix ix_C (pe_getD (by exact hu) (pv 0) pe_str (fun _ _ => rfl)) (pv 2) (fun _ _ => rfl)) pa_nil))))))
  pss_nil)))
  (pss_cons (ps_set (i := 4) sc__law_state.nd rfl (Or.inl rfl) (pe_or (pe_cmpR (op_neC hr.units) (pe_getD (by exact hu) (pv 0) pe_str (fun _ _ => rfl)) (pe_slice sl_list (pe_getD (by exact hu) (pv 0) pe_str (fun _ _ => rfl)) po_none (po_some (pe_callB call_lenC (by rfl) (bl.len) (by decide +kernel) (pa_cons (pe_getD (by exact hu) (pv 0) pe_str (fun _ _ => rfl)) pa_nil)))) (nomark _)) (pe_one (pe_cmpR op_gt (pe_getD (by exact hu) (pv 0) pe_str (fun _ _ => rfl)) (pe_callB call_lenC (by rfl) (bl.len) (by decide +kernel) (pa_cons (pe_getD (by exact hu) (pv 0) pe_str (fun _ _ => rfl)) pa_nil)) (nomark _)))))
  (pss_one (ps_ret (pe_lst (pa_cons (pe_tup (pa_cons (pe_getD (by exact hu) (pv 0) pe_str (fun _ _ => rfl)) (pa_cons (pe_getD (by exact hu) (pv 0) pe_str (fun _ _ => rfl)) (pa_cons (pe_callB call_lenC (by rfl) (bl.len) (by decide +kernel) (pa_cons (pe_getD (by exact hu) (pv 0) pe_str (fun _ _ => rfl)) pa_nil)) pa_nil)))) (pa_cons (pv 1) (pa_cons (pv 3) (pa_cons (pe_getD (by exact hu) (pv 0) pe_str (fun _ _ => rfl)) (pa_cons (pv 4) pa_nil))))))))))))), ?_⟩
  walk_at "st0"
  refine seq_gen fun N_a h_a => ?_
  simp only [RDa, RDb, RDv, RDk, RDx, RDe, RDd, RDp, RDq, List.getElem?_cons_zero, List.getElem?_cons_succ, List.set_cons_zero, List.set_cons_succ, List.cons.injEq, List.cons_ne_nil, reduceCtorEq, exists_eq_left', exists_eq_left, exists_and_left, and_assoc, exists_const, true_and, and_true, if_true, if_false, false_and, and_false, exists_false, false_or, or_false, true_implies, false_implies, implies_true, forall_eq, forall_eq', Bool.false_eq_true, if_neg, decide_eq_true_eq, Bool.not_eq_true', decide_eq_false_iff_not, Bool.not_true, Bool.not_false, List.length_cons, List.length_nil, sizeLine_eq, Nat.reduceAdd, Nat.reduceLeDiff, Nat.reduceLT, Int.reduceLT, Int.reduceLE, Int.emod_nonneg, ne_eq, Int.reduceEq, not_false_eq_true, not_true_eq_false]
  intro l n_l
  generalize e_H1 : upd H l (.lst []) = H1
  have a_H1 : H1 l = some (.lst []) := by rw [← e_H1]; exact upd_same
  have s_H1 : Same H H1 := by rw [← e_H1]; exact same_new n_l
  refine h_a _ _ ?_
  clear h_a
  have nt1 : ∀ x ∈ [l], ∀ xs, H1 x ≠ some (.tup xs) := fun x hx xs => by rw [List.mem_singleton.mp hx, a_H1]; simp
  have t1 := t.same s_H1
  have lR : ∀ x ∈ R.al, x ∉ [l] := fun x hx mm => by
    rw [List.mem_singleton.mp mm] at hx
    exact t.live l hx n_l
  obtain ⟨vs, hvs, al⟩ := t1.ls
  have hvl := al.length
  refine seq_rel (fun σ1 H2 => ∃ u, σ1 = [some (.ref R.m), some (.ref l), u, none, none] ∧ Fr [l] H1 H2 ∧ ∃ rs, H2 l = some (.lst rs) ∧ All2 (LRow m H2) (thereN m.ls.length m.d) rs) (fun N_b h_b => ?_) ?_
  · refine for_rcut 0 m.ls.length (fun H2 => H2 = H1) (fun Z hZ => ?_) (fun i σ1 H2 => ∃ u, σ1 = [some (.ref R.m), some (.ref l), u, none, none] ∧ Fr [l] H1 H2 ∧ ∃ rs, H2 l = some (.lst rs) ∧ All2 (LRow m H2) ((List.range i).filter (fun j => isT (j : Nat) m.ls.length m.d)) rs) ?_ ?_ ?_
    · simp only [RDa, RDb, RDv, RDk, RDx, RDe, RDd, RDp, RDq, List.getElem?_cons_zero, List.getElem?_cons_succ, List.set_cons_zero, List.set_cons_succ, List.cons.injEq, List.cons_ne_nil, reduceCtorEq, exists_eq_left', exists_eq_left, exists_and_left, and_assoc, exists_const, true_and, and_true, if_true, if_false, false_and, and_false, exists_false, false_or, or_false, true_implies, false_implies, implies_true, forall_eq, forall_eq', Bool.false_eq_true, if_neg, decide_eq_true_eq, Bool.not_eq_true', decide_eq_false_iff_not, Bool.not_true, Bool.not_false, List.length_cons, List.length_nil, sizeLine_eq, Nat.reduceAdd, Nat.reduceLeDiff, Nat.reduceLT, Int.reduceLT, Int.reduceLE, Int.emod_nonneg, ne_eq, Int.reduceEq, not_false_eq_true, not_true_eq_false, mL, t1.dic, lenO_lst hvs]
      rw [← hvl]
      exact ⟨by omega, by omega, hZ _ rfl⟩
    · rintro H2 rfl
      exact ⟨_, rfl, .refl _ _, [], a_H1, .nil⟩
    · rintro i σ1 H2 hi ⟨u, rfl, f2, rs, hl2, ar⟩
      have t2 := t1.fr f2 lR nt1
      have hv2 := f2 _ _ (lR _ (by simp [RwA.al])) hvs
      have nt2 : ∀ x ∈ [l], ∀ xs, H2 x ≠ some (.tup xs) := fun x hx xs => by rw [List.mem_singleton.mp hx, hl2]; simp
      obtain ⟨v, hv, a', rfl, ha'⟩ := al.getL (i := i) (List.getElem?_eq_getElem hi)
      have ha2 := f2 _ _ (fun mm => nt1 _ mm _ ha') ha'
      simp only [RDa, RDb, RDv, RDk, RDx, RDe, RDd, RDp, RDq, List.getElem?_cons_zero, List.getElem?_cons_succ, List.set_cons_zero, List.set_cons_succ, List.cons.injEq, List.cons_ne_nil, reduceCtorEq, exists_eq_left', exists_eq_left, exists_and_left, and_assoc, exists_const, true_and, and_true, if_true, if_false, false_and, and_false, exists_false, false_or, or_false, true_implies, false_implies, implies_true, forall_eq, forall_eq', Bool.false_eq_true, if_neg, decide_eq_true_eq, Bool.not_eq_true', decide_eq_false_iff_not, Bool.not_true, Bool.not_false, List.length_cons, List.length_nil, sizeLine_eq, Nat.reduceAdd, Nat.reduceLeDiff, Nat.reduceLT, Int.reduceLT, Int.reduceLE, Int.emod_nonneg, ne_eq, Int.reduceEq, not_false_eq_true, not_true_eq_false, mL, t2.dic, seqO_tup t2.bnd]
      refine ⟨R.l, vs, _, m.d, rfl, hv2, by omega, ?_⟩
      rw [show (0 : Int) + (i : Int) = (i : Int) from Int.zero_add _, ← hvl]
      refine ⟨_, rfl, ?_⟩
      cases hT : isT (i : Int) m.ls.length m.d with
      | false =>
        rw [if_neg Bool.false_ne_true, fil_neg hT]
        exact ⟨f2, rs, hl2, ar⟩
      | true =>
        rw [if_pos rfl]
        refine ⟨rs, hl2, ?_⟩
        intro T n_T
        generalize e_H3 : upd H2 T (.tup [.int (i : Int)]) = H3
        have a_H3 : H3 T = some (.tup [.int (i : Int)]) := by rw [← e_H3]; exact upd_same
        have s_H3 : Same H2 H3 := by rw [← e_H3]; exact same_new n_T
        have t3 := t2.same s_H3
        have hv3 := s_H3 _ _ hv2
        have ha3 := s_H3 _ _ ha2
        have hl3 := s_H3 _ _ hl2
        have hat : atI vs (i : Int) = some (.ref a') := atI_nat hv
        simp only [RDa, RDb, RDv, RDk, RDx, RDe, RDd, RDp, RDq, List.getElem?_cons_zero, List.getElem?_cons_succ, List.set_cons_zero, List.set_cons_succ, List.cons.injEq, List.cons_ne_nil, reduceCtorEq, exists_eq_left', exists_eq_left, exists_and_left, and_assoc, exists_const, true_and, and_true, if_true, if_false, false_and, and_false, exists_false, false_or, or_false, true_implies, false_implies, implies_true, forall_eq, forall_eq', Bool.false_eq_true, if_neg, decide_eq_true_eq, Bool.not_eq_true', decide_eq_false_iff_not, Bool.not_true, Bool.not_false, List.length_cons, List.length_nil, sizeLine_eq, Nat.reduceAdd, Nat.reduceLeDiff, Nat.reduceLT, Int.reduceLT, Int.reduceLE, Int.emod_nonneg, ne_eq, Int.reduceEq, not_false_eq_true, not_true_eq_false, mL, t3.dic, seqO_lst hv3, hat, RDc, a_H3, ha3]
        intro p np
        have sp : Same H3 (upd H3 p (.tup ([.int (i : Int)] ++ [.int m.ls[i].1, .str m.ls[i].2]))) := same_new np
        have hp : (upd H3 p (.tup ([.int (i : Int)] ++ [.int m.ls[i].1, .str m.ls[i].2]))) p = some (.tup ([.int (i : Int)] ++ [.int m.ls[i].1, .str m.ls[i].2])) := upd_same
        generalize upd H3 p (.tup ([.int (i : Int)] ++ [.int m.ls[i].1, .str m.ls[i].2])) = H4 at sp hp ⊢
        have hl4 := sp _ _ hl3
        have hrl := ar.length
        have hfl := List.length_filter_le (fun j => isT ((j : Nat) : Int) m.ls.length m.d) (List.range i)
        rw [List.length_range] at hfl
        have f5 : Fr [l] H4 (upd H4 l (.lst (rs ++ [.ref p]))) := (Fr.refl _ _).upd (by simp)
        have nt4 : ∀ x ∈ [l], ∀ xs, H4 x ≠ some (.tup xs) := fun x hx xs => by rw [List.mem_singleton.mp hx, hl4]; simp
        refine ⟨rs, hl4, by omega, (f2.trans (.of (s_H3.trans sp))).trans f5, _, upd_same, ?_⟩
        rw [fil_pos hT]
        refine (ar.mono fun _ _ h => (h.fr (Fr.of (A := [l]) (s_H3.trans sp)) nt2).fr f5 nt4).snoc ⟨p, rfl, ?_⟩
        rw [f5 _ _ (fun mm => nt4 _ mm _ hp) hp, List.getD_eq_getElem?_getD, List.getElem?_eq_getElem hi]
        rfl
    · rintro σ1 H2 ⟨u, rfl, f2, rs, hl2, ar⟩
      rw [filter_there] at ar
      exact h_b _ _ ⟨u, rfl, f2, rs, hl2, ar⟩
  rintro _ H2 ⟨u2, rfl, f2, rs, hl2, ar⟩
  have s2 : Same H H2 := fun c o e => f2 _ _ (by simpa using ne_of_none e n_l) (s_H1 _ _ e)
  clear f2 nt1 lR
  have t2 := t.same s2
  refine seq_gen fun N_c h_c => ?_
  simp only [RDa, RDb, RDv, RDk, RDx, RDe, RDd, RDp, RDq, List.getElem?_cons_zero, List.getElem?_cons_succ, List.set_cons_zero, List.set_cons_succ, List.cons.injEq, List.cons_ne_nil, reduceCtorEq, exists_eq_left', exists_eq_left, exists_and_left, and_assoc, exists_const, true_and, and_true, if_true, if_false, false_and, and_false, exists_false, false_or, or_false, true_implies, false_implies, implies_true, forall_eq, forall_eq', Bool.false_eq_true, if_neg, decide_eq_true_eq, Bool.not_eq_true', decide_eq_false_iff_not, Bool.not_true, Bool.not_false, List.length_cons, List.length_nil, sizeLine_eq, Nat.reduceAdd, Nat.reduceLeDiff, Nat.reduceLT, Int.reduceLT, Int.reduceLE, Int.emod_nonneg, ne_eq, Int.reduceEq, not_false_eq_true, not_true_eq_false]
  intro k n_k
  generalize e_H3 : upd H2 k (.lst []) = H3
  have a_H3 : H3 k = some (.lst []) := by rw [← e_H3]; exact upd_same
  have s_H3 : Same H2 H3 := by rw [← e_H3]; exact same_new n_k
  refine h_c _ _ ?_
  clear h_c
  have nt3 : ∀ x ∈ [k], ∀ xs, H3 x ≠ some (.tup xs) := fun x hx xs => by rw [List.mem_singleton.mp hx, a_H3]; simp
  have t3 := t2.same s_H3
  have kR : ∀ x ∈ R.al, x ∉ [k] := fun x hx mm => by
    rw [List.mem_singleton.mp mm] at hx
    exact t2.live k hx n_k
  have dlk : l ≠ k := ne_of_none hl2 n_k
  have hl3 := s_H3 _ _ hl2
  have ar3 : All2 (LRow m H3) (thereN m.ls.length m.d) rs := ar.mono fun _ _ h => h.fr (Fr.of (A := []) s_H3) (fun _ h => by simp at h)
  refine seq_rel (fun σ1 H4 => ∃ u, σ1 = [some (.ref R.m), some (.ref l), u, some (.ref k), none] ∧ Fr [k] H3 H4 ∧ ∃ rs, H4 k = some (.lst rs) ∧ All2 (ARow m H4) (thereN m.an.length m.b) rs) (fun N_d h_d => ?_) ?_
  · refine for_rcut 0 m.an.length (fun H4 => H4 = H3) (fun Z hZ => ?_) (fun i σ1 H4 => ∃ u, σ1 = [some (.ref R.m), some (.ref l), u, some (.ref k), none] ∧ Fr [k] H3 H4 ∧ ∃ rs, H4 k = some (.lst rs) ∧ All2 (ARow m H4) ((List.range i).filter (fun j => isT (j : Nat) m.an.length m.b)) rs) ?_ ?_ ?_
    · simp only [RDa, RDb, RDv, RDk, RDx, RDe, RDd, RDp, RDq, List.getElem?_cons_zero, List.getElem?_cons_succ, List.set_cons_zero, List.set_cons_succ, List.cons.injEq, List.cons_ne_nil, reduceCtorEq, exists_eq_left', exists_eq_left, exists_and_left, and_assoc, exists_const, true_and, and_true, if_true, if_false, false_and, and_false, exists_false, false_or, or_false, true_implies, false_implies, implies_true, forall_eq, forall_eq', Bool.false_eq_true, if_neg, decide_eq_true_eq, Bool.not_eq_true', decide_eq_false_iff_not, Bool.not_true, Bool.not_false, List.length_cons, List.length_nil, sizeLine_eq, Nat.reduceAdd, Nat.reduceLeDiff, Nat.reduceLT, Int.reduceLT, Int.reduceLE, Int.emod_nonneg, ne_eq, Int.reduceEq, not_false_eq_true, not_true_eq_false, mL, t3.dic, lenO_lst t3.an]
      rw [List.length_map]
      exact ⟨by omega, by omega, hZ _ rfl⟩
    · rintro H4 rfl
      exact ⟨_, rfl, .refl _ _, [], a_H3, .nil⟩
    · rintro i σ1 H4 hi ⟨u, rfl, f4, rs4, hk4, ar4⟩
      have t4 := t3.fr f4 kR nt3
      have nt4 : ∀ x ∈ [k], ∀ xs, H4 x ≠ some (.tup xs) := fun x hx xs => by rw [List.mem_singleton.mp hx, hk4]; simp
      simp only [RDa, RDb, RDv, RDk, RDx, RDe, RDd, RDp, RDq, List.getElem?_cons_zero, List.getElem?_cons_succ, List.set_cons_zero, List.set_cons_succ, List.cons.injEq, List.cons_ne_nil, reduceCtorEq, exists_eq_left', exists_eq_left, exists_and_left, and_assoc, exists_const, true_and, and_true, if_true, if_false, false_and, and_false, exists_false, false_or, or_false, true_implies, false_implies, implies_true, forall_eq, forall_eq', Bool.false_eq_true, if_neg, decide_eq_true_eq, Bool.not_eq_true', decide_eq_false_iff_not, Bool.not_true, Bool.not_false, List.length_cons, List.length_nil, sizeLine_eq, Nat.reduceAdd, Nat.reduceLeDiff, Nat.reduceLT, Int.reduceLT, Int.reduceLE, Int.emod_nonneg, ne_eq, Int.reduceEq, not_false_eq_true, not_true_eq_false, mL, t4.dic, seqO_tup t4.bnd]
      refine ⟨R.a, _, _, m.b, rfl, t4.an, by omega, ?_⟩
      rw [show (0 : Int) + (i : Int) = (i : Int) from Int.zero_add _, List.length_map]
      refine ⟨_, rfl, ?_⟩
      cases hT : isT (i : Int) m.an.length m.b with
      | false =>
        rw [if_neg Bool.false_ne_true, fil_neg hT]
        exact ⟨f4, rs4, hk4, ar4⟩
      | true =>
        rw [if_pos rfl]
        have hat : atI (m.an.map V.int) (i : Int) = some (.int (m.an.getD i 0)) := by
          refine atI_nat ?_
          rw [List.getElem?_map, List.getElem?_eq_getElem hi, List.getD_eq_getElem?_getD, List.getElem?_eq_getElem hi]
          rfl
        refine ⟨rs4, hk4, ?_⟩
        simp only [RDa, RDb, RDv, RDk, RDx, RDe, RDd, RDp, RDq, List.getElem?_cons_zero, List.getElem?_cons_succ, List.set_cons_zero, List.set_cons_succ, List.cons.injEq, List.cons_ne_nil, reduceCtorEq, exists_eq_left', exists_eq_left, exists_and_left, and_assoc, exists_const, true_and, and_true, if_true, if_false, false_and, and_false, exists_false, false_or, or_false, true_implies, false_implies, implies_true, forall_eq, forall_eq', Bool.false_eq_true, if_neg, decide_eq_true_eq, Bool.not_eq_true', decide_eq_false_iff_not, Bool.not_true, Bool.not_false, List.length_cons, List.length_nil, sizeLine_eq, Nat.reduceAdd, Nat.reduceLeDiff, Nat.reduceLT, Int.reduceLT, Int.reduceLE, Int.emod_nonneg, ne_eq, Int.reduceEq, not_false_eq_true, not_true_eq_false, mL, t4.dic, seqO_lst t4.an, hat]
        intro p np
        have sp : Same H4 (upd H4 p (.tup [.int (i : Int), .int (m.an.getD i 0)])) := same_new np
        have hp : (upd H4 p (.tup [.int (i : Int), .int (m.an.getD i 0)])) p = some (.tup [.int (i : Int), .int (m.an.getD i 0)]) := upd_same
        generalize upd H4 p (.tup [.int (i : Int), .int (m.an.getD i 0)]) = H5 at sp hp ⊢
        have hk5 := sp _ _ hk4
        have hrl := ar4.length
        have hfl := List.length_filter_le (fun j => isT ((j : Nat) : Int) m.an.length m.b) (List.range i)
        rw [List.length_range] at hfl
        have f6 : Fr [k] H5 (upd H5 k (.lst (rs4 ++ [.ref p]))) := (Fr.refl _ _).upd (by simp)
        have nt5 : ∀ x ∈ [k], ∀ xs, H5 x ≠ some (.tup xs) := fun x hx xs => by rw [List.mem_singleton.mp hx, hk5]; simp
        refine ⟨rs4, hk5, by omega, (f4.trans (.of sp)).trans f6, _, upd_same, ?_⟩
        rw [fil_pos hT]
        refine (ar4.mono fun _ _ h => (h.fr (Fr.of (A := [k]) sp) nt4).fr f6 nt5).snoc ⟨p, rfl, ?_⟩
        exact f6 _ _ (fun mm => nt5 _ mm _ hp) hp
    · rintro σ1 H4 ⟨u, rfl, f4, rs4, hk4, ar4⟩
      rw [filter_there] at ar4
      exact h_d _ _ ⟨u, rfl, f4, rs4, hk4, ar4⟩
  rintro _ H4 ⟨u4, rfl, f4, rs4, hk4, ar4⟩
  have s24 : Same H2 H4 := fun c o e => f4 _ _ (by simpa using ne_of_none e n_k) (s_H3 _ _ e)
  have s04 := s2.trans s24
  have t4 := t.same s04
  have hl4 := f4 _ _ (by simpa using dlk) hl3
  have arl4 : All2 (LRow m H4) (thereN m.ls.length m.d) rs := ar3.mono fun _ _ h => h.fr f4 nt3
  refine seq_rel (fun σ1 H5 => σ1 = [some (.ref R.m), some (.ref l), u4, some (.ref k), some (.bl m.isWrong)] ∧ Same H4 H5) (fun N_e h_e => ?_) ?_
  · simp only [RDa, RDb, RDv, RDk, RDx, RDe, RDd, RDp, RDq, List.getElem?_cons_zero, List.getElem?_cons_succ, List.set_cons_zero, List.set_cons_succ, List.cons.injEq, List.cons_ne_nil, reduceCtorEq, exists_eq_left', exists_eq_left, exists_and_left, and_assoc, exists_const, true_and, and_true, if_true, if_false, false_and, and_false, exists_false, false_or, or_false, true_implies, false_implies, implies_true, forall_eq, forall_eq', Bool.false_eq_true, if_neg, decide_eq_true_eq, Bool.not_eq_true', decide_eq_false_iff_not, Bool.not_true, Bool.not_false, List.length_cons, List.length_nil, sizeLine_eq, Nat.reduceAdd, Nat.reduceLeDiff, Nat.reduceLT, Int.reduceLT, Int.reduceLE, Int.emod_nonneg, ne_eq, Int.reduceEq, not_false_eq_true, not_true_eq_false, mL, t4.dic, lenO_lst t4.out, SqL.of t4.tx, seqO_lst t4.tx]
    refine ⟨_, SqL.of t4.tx, fun c nc => ?_⟩
    rw [List.length_map, cut_take, ← List.map_take]
    have s5 : Same H4 (upd H4 c (.lst ((m.tx.take m.out.length).map V.str))) := same_new nc
    have c5 : (upd H4 c (.lst ((m.tx.take m.out.length).map V.str))) c = _ := upd_same
    generalize upd H4 c (.lst ((m.tx.take m.out.length).map V.str)) = H5 at s5 c5
    have t5 := t4.same s5
    have sh1 := (shaped_strs (xs := m.out) fun x hx => (ok.so x hx).1).1
    have sh2 := (shaped_strs (xs := m.tx.take m.out.length) fun x hx => (ok.sx x (List.mem_of_mem_take hx)).1).1
    have ev : PyData.eqv (.list (m.out.map PyData.str)) (.list ((m.tx.take m.out.length).map PyData.str)) = decide (m.out = m.tx.take m.out.length) := by
      rw [PyData.eqv]
      exact eqvAll_strs _ _
    simp only [RDa, RDb, RDv, RDk, RDx, RDe, RDd, RDp, RDq, List.getElem?_cons_zero, List.getElem?_cons_succ, List.set_cons_zero, List.set_cons_succ, List.cons.injEq, List.cons_ne_nil, reduceCtorEq, exists_eq_left', exists_eq_left, exists_and_left, and_assoc, exists_const, true_and, and_true, if_true, if_false, false_and, and_false, exists_false, false_or, or_false, true_implies, false_implies, implies_true, forall_eq, forall_eq', Bool.false_eq_true, if_neg, decide_eq_true_eq, Bool.not_eq_true', decide_eq_false_iff_not, Bool.not_true, Bool.not_false, List.length_cons, List.length_nil, sizeLine_eq, Nat.reduceAdd, Nat.reduceLeDiff, Nat.reduceLT, Int.reduceLT, Int.reduceLE, Int.emod_nonneg, ne_eq, Int.reduceEq, not_false_eq_true, not_true_eq_false, mL, t5.dic, lenO_lst t5.out, dat_lst t5.out, dat_lst c5, dat_strs, Option.map_some, sh1, sh2, ev]
    unfold M.isWrong at h_e
    by_cases e : m.out = m.tx.take m.out.length
    · rw [if_neg (fun h => h e)]
      rw [decide_eq_true e, Bool.not_true, Bool.false_or] at h_e
      rw [List.length_map]
      exact h_e _ _ ⟨rfl, s5⟩
    · rw [if_pos e]
      rw [decide_eq_false e, Bool.not_false, Bool.true_or] at h_e
      exact h_e _ _ ⟨rfl, s5⟩
  rintro _ H5 ⟨rfl, s5⟩
  have t5 := t4.same s5
  have hl5 := s5 _ _ hl4
  have hk5 := s5 _ _ hk4
  simp only [RDa, RDb, RDv, RDk, RDx, RDe, RDd, RDp, RDq, List.getElem?_cons_zero, List.getElem?_cons_succ, List.set_cons_zero, List.set_cons_succ, List.cons.injEq, List.cons_ne_nil, reduceCtorEq, exists_eq_left', exists_eq_left, exists_and_left, and_assoc, exists_const, true_and, and_true, if_true, if_false, false_and, and_false, exists_false, false_or, or_false, true_implies, false_implies, implies_true, forall_eq, forall_eq', Bool.false_eq_true, if_neg, decide_eq_true_eq, Bool.not_eq_true', decide_eq_false_iff_not, Bool.not_true, Bool.not_false, List.length_cons, List.length_nil, sizeLine_eq, Nat.reduceAdd, Nat.reduceLeDiff, Nat.reduceLT, Int.reduceLT, Int.reduceLE, Int.emod_nonneg, ne_eq, Int.reduceEq, not_false_eq_true, not_true_eq_false, mL, t5.dic, lenO_lst t5.out]
  rw [List.length_map, ← t5.want]
  intro cc n_cc
  generalize e_H6 : upd H5 cc (.tup [.int m.base, .int m.top, .int m.want]) = H6
  have a_H6 : H6 cc = some (.tup [.int m.base, .int m.top, .int m.want]) := by rw [← e_H6]; exact upd_same
  have s_H6 : Same H5 H6 := by rw [← e_H6]; exact same_new n_cc
  have t6 := t5.same s_H6
  simp only [RDa, RDb, RDv, RDk, RDx, RDe, RDd, RDp, RDq, List.getElem?_cons_zero, List.getElem?_cons_succ, List.set_cons_zero, List.set_cons_succ, List.cons.injEq, List.cons_ne_nil, reduceCtorEq, exists_eq_left', exists_eq_left, exists_and_left, and_assoc, exists_const, true_and, and_true, if_true, if_false, false_and, and_false, exists_false, false_or, or_false, true_implies, false_implies, implies_true, forall_eq, forall_eq', Bool.false_eq_true, if_neg, decide_eq_true_eq, Bool.not_eq_true', decide_eq_false_iff_not, Bool.not_true, Bool.not_false, List.length_cons, List.length_nil, sizeLine_eq, Nat.reduceAdd, Nat.reduceLeDiff, Nat.reduceLT, Int.reduceLT, Int.reduceLE, Int.emod_nonneg, ne_eq, Int.reduceEq, not_false_eq_true, not_true_eq_false, mL, t6.dic]
  intro p np
  have sp : Same H6 (upd H6 p (.lst [.ref cc, .ref l, .ref k, .ref R.o, .bl m.isWrong])) := same_new np
  have hp : (upd H6 p (.lst [.ref cc, .ref l, .ref k, .ref R.o, .bl m.isWrong])) p = some (.lst [.ref cc, .ref l, .ref k, .ref R.o, .bl m.isWrong]) := upd_same
  generalize upd H6 p (.lst [.ref cc, .ref l, .ref k, .ref R.o, .bl m.isWrong]) = H7 at sp hp ⊢
  have s47 := (s5.trans s_H6).trans sp
  exact q p cc l k H7 (s04.trans s47) (s04.free (s5.free (s_H6.free np))) n_l (s2.free n_k)
    ⟨hp, sp _ _ a_H6, ⟨rs, s47 _ _ hl4, arl4.mono fun _ _ h => h.fr (Fr.of (A := []) s47) (fun _ h => by simp at h)⟩, ⟨rs4, s47 _ _ hk4, ar4.mono fun _ _ h => h.fr (Fr.of (A := []) s47) (fun _ h => by simp at h)⟩⟩
end RP

namespace RP
open PySem PySem.Spec PyProof.Rows L2 L2H
/-- [e for x in a tuple] -/
theorem tcut {K : PySem.W.Frag} {te : TE} {g : TG} {σ : L2.St} {H : Hp} {vs : List Nat} {Q : VK} {tl : TE} (G : Addr → Hp → Prop) (R : Hp → V → V → Prop) (xs : List V) (hk : Keeps R) (h1 : ∀ Z : VK, (∀ a H1, G a H1 → Z (.ref a) H1) → tl σ H Z) (h0 : ∀ a H1, G a H1 → H1 a = some (.tup xs)) (hlen : xs.length ≤ sizeLine)
    (hs : ∀ a H1 H2 (i : Nat) x (Z : VK), G a H1 → xs[i]? = some x → Same H1 H2 → (∀ y H3, Same H2 H3 → R H3 x y → Z y H3) → g x (wipe σ vs) H2 fun σ2 H3' => wipe σ2 vs = wipe σ vs ∧ te σ2 H3' Z)
    (hd : ∀ a H1 H3 D rs, G a H1 → H1 D = none → Same H1 H3 → H3 D = some (.lst rs) → All2 (R H3) xs rs → Q (.ref D) H3) : tLc (iTup K tl) g tYes te vs σ H Q := by
  refine h1 _ fun a H1 hG => ⟨a, rfl, ⟨xs, SqT.of (h0 a H1 hG)⟩, fun D nD => ?_⟩
  refine lc_tup (xs := xs) (fun i H' => Same H1 H' ∧ ∃ rs, H' D = some (.lst rs) ∧ All2 (R H') (xs.take i) rs) ⟨same_new nD, [], upd_same, by rw [List.take_zero]; exact .nil⟩ (fun i H' _ h => SqT.of (h.1 _ _ (h0 a H1 hG))) ?_ ?_
  · rintro i x H' hx ⟨s1, rs, hD, ar⟩
    obtain ⟨hi, hx2⟩ := List.getElem?_eq_some_iff.mp hx
    simp only [tYes, if_true]
    refine hs a H1 H' i x _ hG hx s1 fun y H3 s3 r3 => ?_
    have hl : rs.length < sizeLine := by
      rw [← ar.length, List.length_take]
      omega
    refine ⟨rs, s3 _ _ hD, hl, fun c o ec => ?_, rs ++ [y], upd_same, ?_⟩
    · rw [upd_ne (ne_of_none ec nD)]
      exact s3 _ _ (s1 _ _ ec)
    · have f3 : Fr [D] H3 (upd H3 D (.lst (rs ++ [y]))) := (Fr.refl _ _).upd (by simp)
      have e : xs.take (i + 1) = xs.take i ++ [x] := by rw [List.take_succ, hx]; rfl
      rw [e]
      exact (ar.mono fun u v r => hk _ _ D _ u v (s3 _ _ hD) f3 (hk _ _ D _ u v hD (.of s3) r)).snoc (hk _ _ D _ x y (s3 _ _ hD) f3 r3)
  · rintro H' ⟨s1, rs, hD, ar⟩
    rw [List.take_length] at ar
    exact hd a H1 H' D rs hG nD s1 hD ar
abbrev s__law_asked : Stmt := top 53
abbrev N__law_asked : List Str := ["_law_run", "_law_which"]
theorem sc__law_asked : FnScope N__law_asked ["_law_run", "_law_which"] (defScope s__law_asked) := ⟨rfl, rfl, rfl, by decide +kernel, rfl, by decide +kernel, by decide +kernel⟩
/-- what is told when one asks -/
def AskR (H H' : Hp) (m : M) (c : Int) (x : V) : Prop :=
  (c = 0 ∧ ∃ l, x = .ref l ∧ H' l = some (.tup [.int m.base, .int m.top, .int m.want])) ∨
  (c = 1 ∧ ∃ l rs, x = .ref l ∧ H l = none ∧ H' l = some (.lst rs) ∧ All2 (LRow m H') (thereN m.ls.length m.d) rs) ∨
  (c = 2 ∧ ∃ l rs, x = .ref l ∧ H l = none ∧ H' l = some (.lst rs) ∧ All2 (ARow m H') (thereN m.an.length m.b) rs) ∨
  (c = 3 ∧ ∃ l, x = .ref l ∧ H l = none ∧ H' l = some (.lst (m.out.map V.str))) ∨
  (c = 4 ∧ x = .bl m.isWrong)
def sp__law_asked (K : PySem.W.Frag) : Sp := fun vs H Q _ => ∃ (A : RA) (m : M) (N : Nat) (c : Int), vs = [.ref A.p, .int c] ∧ RunC K H A m ∧ m.Ok N ∧ N < 90000 ∧ 0 ≤ c ∧ c < 5 ∧ ∀ x H', Same H H' → AskR H H' m c x → Q x H'
theorem ok__law_asked {P : Program} {w : World} {K : PySem.W.Frag} {mg : Str → Option Value} {base : Heap} (F : FnP K ("_law_asked", none) "_law_asked" "_law_asked" s__law_asked) (hm : mg "_law_asked" = some (.ref (He.ga K "_law_asked"))) (bl : Blt mg) (hRun : RunF K) (m_Run_answers : MCal P w K mg base 3 (He.ga K "Run") "answers" (sp_Run_answers K)) (m_Run_counts : MCal P w K mg base 2 (He.ga K "Run") "counts" (sp_Run_counts K)) (m_Run_letters : MCal P w K mg base 3 (He.ga K "Run") "letters" (sp_Run_letters K)) (m_Run_out : MCal P w K mg base 2 (He.ga K "Run") "out" (sp_Run_out K)) (m_Run_wrong : MCal P w K mg base 3 (He.ga K "Run") "wrong" (sp_Run_wrong K)) : Cal P w K mg base 4 "_law_asked" (sp__law_asked K) := by
  refine fn_cal F hm sc__law_asked (fun vs H Q E => by walk_at "len") (fun _ _ _ _ _ _ us hl => match us, hl with | [_, _], _ => rfl) (fun f cdv A outer s H vs Q E hr h => ?_)
  have hu := hu_of hr
  obtain ⟨A, m, N, c, rfl, t, ok, hN, c0, c5, q⟩ := h
  obtain ⟨dx, hp⟩ := t.ins
  refine ⟨_, (pss_cons (ps_if (pt_cmpR op_eq (pv 1) pe_int (nomark _))
  (pss_one (ps_ret (pe_mth0 (pv 0) m_Run_counts (hr.mono (by decide)) (L2N.takes_of rfl rfl rfl rfl))))
  pss_nil)
  (pss_cons (ps_if (pt_cmpR op_eq (pv 1) pe_int (nomark _))
  (pss_one (ps_ret (pe_mth0 (pv 0) m_Run_letters (hr.mono (by decide)) (L2N.takes_of rfl rfl rfl rfl))))
  pss_nil)
  (pss_cons (ps_if (pt_cmpR op_eq (pv 1) pe_int (nomark _))
  (pss_one (ps_ret (pe_mth0 (pv 0) m_Run_answers (hr.mono (by decide)) (L2N.takes_of rfl rfl rfl rfl))))
  pss_nil)
  (pss_cons (ps_if (pt_cmpR op_eq (pv 1) pe_int (nomark _))
  (pss_one (ps_ret (pe_mth0 (pv 0) m_Run_out (hr.mono (by decide)) (L2N.takes_of rfl rfl rfl rfl))))
  pss_nil)
  (pss_one (ps_ret (pe_mth0 (pv 0) m_Run_wrong (hr.mono (by decide)) (L2N.takes_of rfl rfl rfl rfl)))))))), ?_⟩
  walk_at "st0"
  simp only [RDa, RDb, RDv, RDk, RDx, RDe, RDd, RDp, RDq, List.getElem?_cons_zero, List.getElem?_cons_succ, List.set_cons_zero, List.set_cons_succ, List.cons.injEq, List.cons_ne_nil, reduceCtorEq, exists_eq_left', exists_eq_left, exists_and_left, and_assoc, exists_const, true_and, and_true, if_true, if_false, false_and, and_false, exists_false, false_or, or_false, true_implies, false_implies, implies_true, forall_eq, forall_eq', Bool.false_eq_true, if_neg, decide_eq_true_eq, Bool.not_eq_true', decide_eq_false_iff_not, Bool.not_true, Bool.not_false, List.length_cons, List.length_nil, sizeLine_eq, Nat.reduceAdd, Nat.reduceLeDiff, Nat.reduceLT, Int.reduceLT, Int.reduceLE, Int.emod_nonneg, ne_eq, Int.reduceEq, not_false_eq_true, not_true_eq_false, hRun, RunL, hp]
  by_cases e0 : c = 0
  · rw [if_pos e0]
    exact ⟨A, m, rfl, t, fun l H1 nl s1 hl => q _ _ s1 (.inl ⟨e0, l, rfl, hl⟩)⟩
  rw [if_neg e0]
  by_cases e1 : c = 1
  · rw [if_pos e1]
    exact ⟨A, m, N, rfl, t, ok, hN, fun l rs H1 nl s1 hl ar => q _ _ s1 (.inr (.inl ⟨e1, l, rs, rfl, nl, hl, ar⟩))⟩
  rw [if_neg e1]
  by_cases e2 : c = 2
  · rw [if_pos e2]
    exact ⟨A, m, N, rfl, t, ok, hN, fun l rs H1 nl s1 hl ar => q _ _ s1 (.inr (.inr (.inl ⟨e2, l, rs, rfl, nl, hl, ar⟩)))⟩
  rw [if_neg e2]
  by_cases e3 : c = 3
  · rw [if_pos e3]
    exact ⟨A, m, rfl, t, fun l H1 nl s1 hl => q _ _ s1 (.inr (.inr (.inr (.inl ⟨e3, l, rfl, nl, hl⟩))))⟩
  rw [if_neg e3]
  exact ⟨A, m, N, rfl, t, ok, hN, fun H1 s1 => q _ _ s1 (.inr (.inr (.inr (.inr ⟨by omega, rfl⟩))))⟩
abbrev s__law_is_kind : Stmt := top 54
abbrev N__law_is_kind : List Str := ["_law_found", "_law_which", "_law_one"]
theorem sc__law_is_kind : FnScope N__law_is_kind ["_law_found", "_law_which"] (defScope s__law_is_kind) := ⟨rfl, rfl, rfl, by decide +kernel, rfl, by decide +kernel, by decide +kernel⟩
def sp__law_is_kind (K : PySem.W.Frag) : Sp := fun vs H Q _ => ∃ (x : V) (c : Int), vs = [x, .int c] ∧ ((c = 0 ∧ ∃ l i j k, x = .ref l ∧ H l = some (.tup [.int i, .int j, .int k])) ∨ (c = 4 ∧ ∃ b, x = .bl b) ∨ (c ≠ 0 ∧ c ≠ 4 ∧ ∃ l xs, x = .ref l ∧ H l = some (.lst xs))) ∧ ∀ H', Same H H' → Q (.bl true) H'
theorem ok__law_is_kind {P : Program} {w : World} {K : PySem.W.Frag} {mg : Str → Option Value} {base : Heap} (F : FnP K ("_law_is_kind", none) "_law_is_kind" "_law_is_kind" s__law_is_kind) (hm : mg "_law_is_kind" = some (.ref (He.ga K "_law_is_kind"))) (bl : Blt mg) (c__law_whole : Cal P w K mg base 1 "_law_whole" (sp__law_whole K)) : Cal P w K mg base 2 "_law_is_kind" (sp__law_is_kind K) := by
  refine fn_cal F hm sc__law_is_kind (fun vs H Q E => by walk_at "len") (fun _ _ _ _ _ _ us hl => match us, hl with | [_, _], _ => rfl) (fun f cdv A outer s H vs Q E hr h => ?_)
  have hu := hu_of hr
  obtain ⟨x, c, rfl, hx, q⟩ := h
  refine ⟨_, (pss_cons (ps_if (pt_cmpR op_eq (pv 1) pe_int (nomark _))
  (pss_one (ps_ret (pe_and (pe_callB call_isC (by rfl) (bl.isi) (by decide +kernel) (pa_cons (pv 0) (pa_cons (pe_bltn (v := .ty "tuple") (u := .type "tuple") rfl (bl.tuple) (by decide +kernel) rfl) pa_nil))) (pe_one (pe_callB (cr_all rfl) (by rfl) (bl.all) (by decide +kernel) (pa_cons (pe_lc (own := [("_law_one", 2)]) rfl sc__law_is_kind.nd (pi_tup (pv 0)) (blkOk_by (own := [("_law_one", 2)]) (N := N__law_is_kind) (sc := defScope s__law_is_kind) (by decide +kernel)) (fun _ _ _ _ _ =>  by exact (pg_name (i := 2) sc__law_is_kind.nd rfl (Or.inl rfl))) (fun _ _ _ _ _ =>  by exact pts_nil) (fun _ _ _ _ _ =>  by exact (pe_fn c__law_whole (hr.mono (by decide)) tkB (pa_cons (pv 2) pa_nil)))) pa_nil))))))
  pss_nil)
  (pss_cons (ps_if (pt_cmpR op_eq (pv 1) pe_int (nomark _))
  (pss_one (ps_ret (pe_callB call_isC (by rfl) (bl.isi) (by decide +kernel) (pa_cons (pv 0) (pa_cons (pe_bltn (v := .ty "bool") (u := .type "bool") rfl (bl.bool) (by decide +kernel) rfl) pa_nil)))))
  pss_nil)
  (pss_one (ps_ret (pe_callB call_isC (by rfl) (bl.isi) (by decide +kernel) (pa_cons (pv 0) (pa_cons (pe_bltn (v := .ty "list") (u := .type "list") rfl (bl.list) (by decide +kernel) rfl) pa_nil))))))), ?_⟩
  walk_at "st0"
  rcases hx with ⟨rfl, l, i, j, k, rfl, hl⟩ | ⟨rfl, b, rfl⟩ | ⟨c0, c4, l, xs, rfl, hl⟩
  · simp only [RDa, RDb, RDv, RDk, RDx, RDe, RDd, RDp, RDq, List.getElem?_cons_zero, List.getElem?_cons_succ, List.set_cons_zero, List.set_cons_succ, List.cons.injEq, List.cons_ne_nil, reduceCtorEq, exists_eq_left', exists_eq_left, exists_and_left, and_assoc, exists_const, true_and, and_true, if_true, if_false, false_and, and_false, exists_false, false_or, or_false, true_implies, false_implies, implies_true, forall_eq, forall_eq', Bool.false_eq_true, if_neg, decide_eq_true_eq, Bool.not_eq_true', decide_eq_false_iff_not, Bool.not_true, Bool.not_false, List.length_cons, List.length_nil, sizeLine_eq, Nat.reduceAdd, Nat.reduceLeDiff, Nat.reduceLT, Int.reduceLT, Int.reduceLE, Int.emod_nonneg, ne_eq, Int.reduceEq, not_false_eq_true, not_true_eq_false, tyN_tup hl]
    refine tcut (fun a H1 => a = l ∧ H1 = H) (fun _ _ y => y = .bl true) [.int i, .int j, .int k] keeps_pure (fun Z hZ => ?_) ?_ (by show (3 : Nat) ≤ _; decide) ?_ ?_
    · simp only [RDa, RDb, RDv, RDk, RDx, RDe, RDd, RDp, RDq, List.getElem?_cons_zero, List.getElem?_cons_succ, List.set_cons_zero, List.set_cons_succ, List.cons.injEq, List.cons_ne_nil, reduceCtorEq, exists_eq_left', exists_eq_left, exists_and_left, and_assoc, exists_const, true_and, and_true, if_true, if_false, false_and, and_false, exists_false, false_or, or_false, true_implies, false_implies, implies_true, forall_eq, forall_eq', Bool.false_eq_true, if_neg, decide_eq_true_eq, Bool.not_eq_true', decide_eq_false_iff_not, Bool.not_true, Bool.not_false, List.length_cons, List.length_nil, sizeLine_eq, Nat.reduceAdd, Nat.reduceLeDiff, Nat.reduceLT, Int.reduceLT, Int.reduceLE, Int.emod_nonneg, ne_eq, Int.reduceEq, not_false_eq_true, not_true_eq_false]
      exact hZ _ _ ⟨rfl, rfl⟩
    · rintro a H1 ⟨rfl, rfl⟩
      exact hl
    · rintro a H1 H2 n x Z ⟨rfl, rfl⟩ hx s2 hZ
      obtain ⟨y, rfl⟩ : ∃ y, x = .int y := by
        have := List.mem_of_getElem? hx
        simp only [List.mem_cons, List.not_mem_nil, or_false] at this
        rcases this with rfl | rfl | rfl <;> exact ⟨_, rfl⟩
      have kn : Kn H2 (.int y) := rfl
      simp only [RDa, RDb, RDv, RDk, RDx, RDe, RDd, RDp, RDq, List.getElem?_cons_zero, List.getElem?_cons_succ, List.set_cons_zero, List.set_cons_succ, List.cons.injEq, List.cons_ne_nil, reduceCtorEq, exists_eq_left', exists_eq_left, exists_and_left, and_assoc, exists_const, true_and, and_true, if_true, if_false, false_and, and_false, exists_false, false_or, or_false, true_implies, false_implies, implies_true, forall_eq, forall_eq', Bool.false_eq_true, if_neg, decide_eq_true_eq, Bool.not_eq_true', decide_eq_false_iff_not, Bool.not_true, Bool.not_false, List.length_cons, List.length_nil, sizeLine_eq, Nat.reduceAdd, Nat.reduceLeDiff, Nat.reduceLT, Int.reduceLT, Int.reduceLE, Int.emod_nonneg, ne_eq, Int.reduceEq, not_false_eq_true, not_true_eq_false, sp__law_whole, kn, wholeV]
      exact hZ _ _ (Same.refl _) rfl
    · rintro a H1 H3 D rs ⟨rfl, rfl⟩ nD s3 hD ar
      have e := (ar.mono (S := fun x y => y = (fun _ : V => V.bl true) x) fun _ _ e => e).map_eq
      refine ⟨D, rfl, [true, true, true], SqL.of (by rw [hD, e]; rfl), ?_⟩
      exact q _ s3
  · simp only [RDa, RDb, RDv, RDk, RDx, RDe, RDd, RDp, RDq, List.getElem?_cons_zero, List.getElem?_cons_succ, List.set_cons_zero, List.set_cons_succ, List.cons.injEq, List.cons_ne_nil, reduceCtorEq, exists_eq_left', exists_eq_left, exists_and_left, and_assoc, exists_const, true_and, and_true, if_true, if_false, false_and, and_false, exists_false, false_or, or_false, true_implies, false_implies, implies_true, forall_eq, forall_eq', Bool.false_eq_true, if_neg, decide_eq_true_eq, Bool.not_eq_true', decide_eq_false_iff_not, Bool.not_true, Bool.not_false, List.length_cons, List.length_nil, sizeLine_eq, Nat.reduceAdd, Nat.reduceLeDiff, Nat.reduceLT, Int.reduceLT, Int.reduceLE, Int.emod_nonneg, ne_eq, Int.reduceEq, not_false_eq_true, not_true_eq_false]
    exact q _ (Same.refl _)
  · simp only [RDa, RDb, RDv, RDk, RDx, RDe, RDd, RDp, RDq, List.getElem?_cons_zero, List.getElem?_cons_succ, List.set_cons_zero, List.set_cons_succ, List.cons.injEq, List.cons_ne_nil, reduceCtorEq, exists_eq_left', exists_eq_left, exists_and_left, and_assoc, exists_const, true_and, and_true, if_true, if_false, false_and, and_false, exists_false, false_or, or_false, true_implies, false_implies, implies_true, forall_eq, forall_eq', Bool.false_eq_true, if_neg, decide_eq_true_eq, Bool.not_eq_true', decide_eq_false_iff_not, Bool.not_true, Bool.not_false, List.length_cons, List.length_nil, sizeLine_eq, Nat.reduceAdd, Nat.reduceLeDiff, Nat.reduceLT, Int.reduceLT, Int.reduceLE, Int.emod_nonneg, ne_eq, Int.reduceEq, not_false_eq_true, not_true_eq_false, tyN_lst hl, c0, c4]
    exact q _ (Same.refl _)
end RP

namespace RP
open PySem PySem.Spec PyProof.Rows L2 L2H
/-- none of A is a tuple, all are there -/
def NoTup (A : List Addr) (H : Hp) : Prop := ∀ c ∈ A, ∀ xs, H c ≠ some (.tup xs) ∧ H c ≠ none
theorem NoTup.same {A : List Addr} {H H' : Hp} (h : NoTup A H) (s : Same H H') : NoTup A H' := fun c hc xs => by
  cases e : H c with
  | none => exact absurd e (h c hc []).2
  | some o =>
    rw [s _ _ e]
    exact ⟨fun z => (h c hc xs).1 (e.trans z), by simp⟩
theorem NoTup.fr1 {A : List Addr} {H H' : Hp} {p : Addr} {ys : List V} (h : NoTup A H) (f : Fr [p] H H') (hp : H' p = some (.lst ys)) : NoTup A H' := fun c hc xs => by
  by_cases ep : c = p
  · rw [ep, hp]
    simp
  · cases e : H c with
    | none => exact absurd e (h c hc []).2
    | some o =>
      rw [f _ _ (by simpa using ep) e]
      exact ⟨fun z => (h c hc xs).1 (e.trans z), by simp⟩
theorem NoTup.free {A : List Addr} {H : Hp} (h : NoTup A H) {c : Addr} (n : H c = none) : c ∉ A := fun m => (h c m []).2 n
theorem NoTup.tup {A : List Addr} {H : Hp} (h : NoTup A H) {c : Addr} {xs : List V} (e : H c = some (.tup xs)) : c ∉ A := fun m => (h c m xs).1 e
/-- data that are told, off A -/
def LD (A : List Addr) (H : Hp) (xs : List V) : Prop := ∃ ds, mapO (dat (hm A H) 7) xs = some ds ∧ ∀ d ∈ ds, Shp 7 d
theorem LD.fr {A : List Addr} {H H' : Hp} {xs : List V} (h : LD A H xs) (f : Fr A H H') : LD A H' xs := by
  obtain ⟨ds, h1, h2⟩ := h
  exact ⟨ds, mapO_same (dat_same (hm_fr f) 7) _ _ h1, h2⟩
theorem LD.snoc {A : List Addr} {H : Hp} {xs : List V} (h : LD A H xs) {z : Str} (hz : PyData.strOk z = true) : LD A H (xs ++ [.str z]) := by
  obtain ⟨ds, h1, h2⟩ := h
  refine ⟨ds ++ [.str z], mapO_append h1 (dat_strs _ 7 [z]), fun d hd => ?_⟩
  rcases List.mem_append.mp hd with h | h
  · exact h2 d h
  · rw [List.mem_singleton.mp h]
    exact (shp_s 7).2.2.2 z hz
theorem LD.less {A : List Addr} {H : Hp} {l : Addr} {xs : List V} (h : LD (l :: A) H xs) : LD A H xs := by
  obtain ⟨ds, h1, h2⟩ := h
  refine ⟨ds, mapO_same (dat_same (fun c o e => ?_) 7) _ _ h1, h2⟩
  unfold hm at e ⊢
  split at e
  · cases e
  · rename_i n
    rw [if_neg (fun m => n (List.mem_cons_of_mem _ m))]
    exact e
theorem LD.strs {A : List Addr} {H : Hp} {g : List Str} (h : ∀ x ∈ g, TxtOk 40 x) : LD A H (g.map V.str) := ⟨_, dat_strs _ 7 g, fun d hd => by
  obtain ⟨x, hx, rfl⟩ := List.mem_map.mp hd
  exact (shp_s 7).2.2.2 x (h x hx).1⟩
theorem LD.let {A : List Addr} {H : Hp} {m : M} {N : Nat} {idx : List Nat} {rs : List V} (ok : m.Ok N) (nt : NoTup A H) (ar : All2 (LRow m H) idx rs) : LD A H rs := by
  refine ⟨idx.map fun i => .tuple [.int (i : Nat), .int (m.ls.getD i (0, "")).1, .str (m.ls.getD i (0, "")).2], ?_, fun d hd => ?_⟩
  · refine All2.mapO_eq (ar.mono fun i v z => ?_)
    obtain ⟨a, e, h⟩ := z
    have h2 : hm A H a = some (.tup [.int (i : Nat), .int (m.ls.getD i (0, "")).1, .str (m.ls.getD i (0, "")).2]) := by
      rw [hm_in (nt.tup h)]
      exact h
    rw [e, dat_tup h2 6]
    simp only [mapO, (datE (hm A H)).2.2.1, (datE (hm A H)).2.2.2.1, Option.map_some]
  · obtain ⟨i, _, rfl⟩ := List.mem_map.mp hd
    refine shp_tuple (n := 6) fun d h => ?_
    simp only [List.mem_cons, List.not_mem_nil, or_false] at h
    rcases h with rfl | rfl | rfl
    · exact (shp_s 6).2.2.1 _
    · exact (shp_s 6).2.2.1 _
    · exact (shp_s 6).2.2.2 _ (getD_all (p := fun q : Int × Str => TxtOk 40 q.2) (d := ((0 : Int), ("" : Str))) ok.sl (txt_empty 40) i).1
theorem LD.ans {A : List Addr} {H : Hp} {m : M} {idx : List Nat} {rs : List V} (nt : NoTup A H) (ar : All2 (ARow m H) idx rs) : LD A H rs := by
  refine ⟨idx.map fun i => .tuple [.int (i : Nat), .int (m.an.getD i 0)], ?_, fun d hd => ?_⟩
  · refine All2.mapO_eq (ar.mono fun i v z => ?_)
    obtain ⟨a, e, h⟩ := z
    have h2 : hm A H a = some (.tup [.int (i : Nat), .int (m.an.getD i 0)]) := by
      rw [hm_in (nt.tup h)]
      exact h
    rw [e, dat_tup h2 6]
    simp only [mapO, (datE (hm A H)).2.2.1, (datE (hm A H)).2.2.2.1, Option.map_some]
  · obtain ⟨i, _, rfl⟩ := List.mem_map.mp hd
    refine shp_tuple (n := 6) fun d h => ?_
    simp only [List.mem_cons, List.not_mem_nil, or_false] at h
    rcases h with rfl | rfl
    · exact (shp_s 6).2.2.1 _
    · exact (shp_s 6).2.2.1 _
theorem old_fin {A : List Addr} {H : Hp} {os xs : List V} {q l b : Addr} (old : OldOk A H os) (hq : H q = some (.tup [.ref l, .ref b])) (hl : H l = some (.lst xs)) (hb : H b = some (.lst xs)) (qA : q ∉ A) (lA : l ∉ A) (bA : b ∉ A) (ld : LD A H xs) : OldOk A H (os ++ [.ref q]) := by
  obtain ⟨ds, h1, h2⟩ := ld
  have el : hm A H l = some (.lst xs) := by rw [hm_in lA]; exact hl
  have eb : hm A H b = some (.lst xs) := by rw [hm_in bA]; exact hb
  exact old.snoc (by rw [hm_in qA]; exact hq) (by rw [dat_lst el 7, h1]; rfl) (by rw [dat_lst eb 7, h1]; rfl) (shp_list h2)
theorem DueAt.fr {H H1 : Hp} {R : RwA} {m : M} {q c l a : Addr} {ol : Addr} {os : List V} (d : DueAt H R m q c l a) (f : Fr [ol] H H1) (ho : H ol = some (.lst os)) (n1 : q ≠ ol) (n2 : l ≠ ol) (n3 : a ≠ ol) : DueAt H1 R m q c l a := by
  have nt : ∀ x ∈ [ol], ∀ xs, H x ≠ some (.tup xs) := fun x hx xs => by rw [List.mem_singleton.mp hx, ho]; simp
  obtain ⟨h1, h2, ⟨rs, h3, h4⟩, ⟨rs2, h5, h6⟩⟩ := d
  exact ⟨f _ _ (by simpa using n1) h1, f _ _ (fun mm => nt _ mm _ h2) h2, ⟨rs, f _ _ (by simpa using n2) h3, h4.mono fun _ _ h => h.fr f nt⟩, ⟨rs2, f _ _ (by simpa using n3) h5, h6.mono fun _ _ h => h.fr f nt⟩⟩
theorem DueAt.same {H H1 : Hp} {R : RwA} {m : M} {q c l a : Addr} (d : DueAt H R m q c l a) (f : Same H H1) : DueAt H1 R m q c l a := by
  have nt : ∀ x ∈ ([] : List Addr), ∀ xs, H x ≠ some (.tup xs) := fun x hx => by simp at hx
  obtain ⟨h1, h2, ⟨rs, h3, h4⟩, ⟨rs2, h5, h6⟩⟩ := d
  exact ⟨f _ _ h1, f _ _ h2, ⟨rs, f _ _ h3, h4.mono fun _ _ h => h.fr (.of f) nt⟩, ⟨rs2, f _ _ h5, h6.mono fun _ _ h => h.fr (.of f) nt⟩⟩
theorem inV123 (j : Int) : inV (V.int j) [V.int 1, V.int 2, V.int 3] = decide (j = 1 ∨ j = 2 ∨ j = 3) := by
  rw [Bool.eq_iff_iff]
  simp only [inV, List.any_cons, List.any_nil, eqV, Bool.or_false, Bool.or_eq_true, beq_iff_eq, decide_eq_true_eq]
  omega
abbrev s__law_stands : Stmt := top 55
abbrev N__law_stands : List Str := ["_law_run", "_law_m", "_law_olds", "_law_way", "_law_due", "_law_turn", "_law_which", "_law_found"]
theorem sc__law_stands : FnScope N__law_stands ["_law_run", "_law_m", "_law_olds", "_law_way"] (defScope s__law_stands) := ⟨rfl, rfl, rfl, by decide +kernel, rfl, by decide +kernel, by decide +kernel⟩
def sp__law_stands (K : PySem.W.Frag) : Sp := fun vs H Q E => ∃ (AA : List Addr) (A : RA) (R : RwA) (m : M) (N : Nat) (ol : Addr) (os : List V) (way : Int), vs = [.ref A.p, .ref R.m, .ref ol, .int way] ∧ RunC K H A m ∧ RwAt H R m ∧ m.Ok N ∧ N < 90000 ∧ 0 ≤ way ∧ way < 7 ∧
  H ol = some (.lst os) ∧ OldOk AA H os ∧ os.length < 100000 ∧ NoTup AA H ∧ ol ∈ AA ∧ ol ∉ A.al ∧ ol ∉ R.al ∧ ∀ H' os', Fr [ol] H H' → H' ol = some (.lst os') → OldOk AA H' os' → os'.length ≤ os.length + 8 → Q (.bl true) H'
theorem ok__law_stands {P : Program} {w : World} {K : PySem.W.Frag} {mg : Str → Option Value} {base : Heap} (F : FnP K ("_law_stands", none) "_law_stands" "_law_stands" s__law_stands) (hm : mg "_law_stands" = some (.ref (He.ga K "_law_stands"))) (bl : Blt mg) (c__law_asked : Cal P w K mg base 4 "_law_asked" (sp__law_asked K)) (c__law_is_kind : Cal P w K mg base 2 "_law_is_kind" (sp__law_is_kind K)) (c__law_state : Cal P w K mg base 2 "_law_state" (sp__law_state K)) : Cal P w K mg base 5 "_law_stands" (sp__law_stands K) := by
  refine fn_cal F hm sc__law_stands (fun vs H Q E => by walk_at "len") (fun _ _ _ _ _ _ us hl => match us, hl with | [_, _, _, _], _ => rfl) (fun f cdv A outer s H vs Q E hr h => ?_)
  have hu := hu_of hr
  obtain ⟨AA, A, R, m, N, ol, os, way, rfl, run, t, ok, hN, w0, w7, ho, old, hos, nt, olA, olr, olR, q⟩ := h
  refine ⟨_, (pss_cons (ps_set (i := 4) sc__law_stands.nd rfl (Or.inl rfl) (pe_fn c__law_state (hr.mono (by decide)) (L2N.takes_of rfl rfl rfl rfl) (pa_cons (pv 1) pa_nil)))
  (pss_cons (ps_for (passes_of rfl) rfl (pi_range1 rfl (bl.range) (pa_cons (pe_op op_mul pe_int (pe_callTy call_int1 (by rfl) (bl.int) (by decide +kernel) (pa_cons (pe_cmpR op_lt (pv 3) pe_int (nomark _)) pa_nil))) pa_nil)) (pg_name (i := 5) sc__law_stands.nd rfl (Or.inl rfl))
  (pss_cons (ps_set (i := 6) sc__law_stands.nd rfl (Or.inl rfl) (pe_op op_mod (pe_op op_add (pv 3) (pe_op op_mul (pv 5) (pe_op op_add pe_int (pe_op op_mod (pv 3) pe_int)))) pe_int))
  (pss_cons (ps_set (i := 7) sc__law_stands.nd rfl (Or.inl rfl) (pe_fn c__law_asked (hr.mono (by decide)) (L2N.takes_of rfl rfl rfl rfl) (pa_cons (pv 0) (pa_cons (pv 6) pa_nil))))
  (pss_cons (ps_if (PW.pt (pw_or (pt_cmpR (op_neC hr.units) (pv 7) (pe_ix ix_C (pv 4) (pv 6) (fun _ _ => rfl)) (nomark _)) (pw_or1 (pt_not (pt_val (pe_fn c__law_is_kind (hr.mono (by decide)) (L2N.takes_of rfl rfl rfl rfl) (pa_cons (pv 7) (pa_cons (pv 6) pa_nil))))))))
  (pss_one (ps_ret pe_bl))
  pss_nil)
  (pss_cons (ps_if (pt_cmp (pc_inT (pv 6) (pa_cons pe_int (pa_cons pe_int (pa_cons pe_int pa_nil)))) rfl)
  (pss_one (ps_expr (pe_app (pv 2) (pe_tup (pa_cons (pv 7) (pa_cons (pe_callTy call_listC (by rfl) (bl.list) (by decide +kernel) (pa_cons (pv 7) pa_nil)) pa_nil))))))
  pss_nil)
  (pss_one (ps_if (PW.pt (pw_and (pt_cmp (pc_inT (pv 6) (pa_cons pe_int (pa_cons pe_int (pa_cons pe_int pa_nil)))) rfl) (pw_and1 (pt_cmpR op_eq (pe_op op_mod (pv 5) pe_int) pe_int (nomark _)))))
  (pss_cons (ps_expr (pe_app (pv 7) pe_str))
  (pss_one (ps_asg (pe_tup (pa_cons (pv 7) (pa_cons (pe_callTy call_listC (by rfl) (bl.list) (by decide +kernel) (pa_cons (pv 7) pa_nil)) pa_nil))) (pg_sub (pv 2) (pe_un un_neg pe_int) set_list))))
  pss_nil)))))))
  (pss_one (ps_ret pe_bl)))), ?_⟩
  walk_at "st0"
  refine seq_gen fun N_a h_a => ?_
  simp only [RDa, RDb, RDv, RDk, RDx, RDe, RDd, RDp, RDq, List.getElem?_cons_zero, List.getElem?_cons_succ, List.set_cons_zero, List.set_cons_succ, List.cons.injEq, List.cons_ne_nil, reduceCtorEq, exists_eq_left', exists_eq_left, exists_and_left, and_assoc, exists_const, true_and, and_true, if_true, if_false, false_and, and_false, exists_false, false_or, or_false, true_implies, false_implies, implies_true, forall_eq, forall_eq', Bool.false_eq_true, if_neg, decide_eq_true_eq, Bool.not_eq_true', decide_eq_false_iff_not, Bool.not_true, Bool.not_false, List.length_cons, List.length_nil, sizeLine_eq, Nat.reduceAdd, Nat.reduceLeDiff, Nat.reduceLT, Int.reduceLT, Int.reduceLE, Int.emod_nonneg, ne_eq, Int.reduceEq, not_false_eq_true, not_true_eq_false]
  refine ⟨R, m, N, rfl, t, ok, hN, fun due c l a H1 s1 nd nl na dd => h_a _ _ ?_⟩
  clear h_a
  have run1 := run.same s1
  have t1 := t.same s1
  have ho1 := s1 _ _ ho
  have old1 := old.fr (Fr.of s1 : Fr AA H H1)
  have nt1 := nt.same s1
  have n1 : due ≠ ol := fun e => by rw [e, ho] at nd; cases nd
  have n2 : l ≠ ol := fun e => by rw [e, ho] at nl; cases nl
  have n3 : a ≠ ol := fun e => by rw [e, ho] at na; cases na
  refine seq_rel (fun σ1 H2 => ∃ u5 u6 u7, σ1 = [some (.ref A.p), some (.ref R.m), some (.ref ol), some (.int way), some (.ref due), u5, u6, u7] ∧ Fr [ol] H1 H2 ∧ ∃ os', H2 ol = some (.lst os') ∧ OldOk AA H2 os' ∧ os'.length ≤ os.length + 8) (fun N_b h_b => ?_) ?_
  · refine for_rcut 0 (8 * if way < 5 then 1 else 0 : Int).toNat (fun H2 => H2 = H1) (fun Z hZ => ?_) (fun i σ1 H2 => ∃ u5 u6 u7, σ1 = [some (.ref A.p), some (.ref R.m), some (.ref ol), some (.int way), some (.ref due), u5, u6, u7] ∧ Fr [ol] H1 H2 ∧ ∃ os', H2 ol = some (.lst os') ∧ OldOk AA H2 os' ∧ os'.length ≤ os.length + i) ?_ ?_ ?_
    · simp only [RDa, RDb, RDv, RDk, RDx, RDe, RDd, RDp, RDq, List.getElem?_cons_zero, List.getElem?_cons_succ, List.set_cons_zero, List.set_cons_succ, List.cons.injEq, List.cons_ne_nil, reduceCtorEq, exists_eq_left', exists_eq_left, exists_and_left, and_assoc, exists_const, true_and, and_true, if_true, if_false, false_and, and_false, exists_false, false_or, or_false, true_implies, false_implies, implies_true, forall_eq, forall_eq', Bool.false_eq_true, if_neg, decide_eq_true_eq, Bool.not_eq_true', decide_eq_false_iff_not, Bool.not_true, Bool.not_false, List.length_cons, List.length_nil, sizeLine_eq, Nat.reduceAdd, Nat.reduceLeDiff, Nat.reduceLT, Int.reduceLT, Int.reduceLE, Int.emod_nonneg, ne_eq, Int.reduceEq, not_false_eq_true, not_true_eq_false]
      refine ⟨.inr ⟨by split <;> decide, by split <;> decide⟩, by split <;> decide, by split <;> decide, hZ _ rfl⟩
    · rintro H2 rfl
      exact ⟨_, _, _, rfl, .refl _ _, os, ho1, old1, by omega⟩
    · rintro i σ1 H2 hi ⟨u5, u6, u7, rfl, f2, os2, ho2, old2, l2⟩
      have hi8 : i < 8 := by split at hi <;> omega
      have run2 : RunC K H2 A m := run1.fr f2 (fun x hx mm => olr (by rw [← List.mem_singleton.mp mm]; exact hx)) (fun x hx xs => by rw [List.mem_singleton.mp hx, ho1]; simp)
      have t2 : RwAt H2 R m := t1.fr f2 (fun x hx mm => olR (by rw [← List.mem_singleton.mp mm]; exact hx)) (fun x hx xs => by rw [List.mem_singleton.mp hx, ho1]; simp)
      have dd2 := dd.fr f2 ho1 n1 n2 n3
      have nt2 := nt1.fr1 f2 ho2
      refine seq_gen fun N_d h_d => ?_
      simp only [RDa, RDb, RDv, RDk, RDx, RDe, RDd, RDp, RDq, List.getElem?_cons_zero, List.getElem?_cons_succ, List.set_cons_zero, List.set_cons_succ, List.cons.injEq, List.cons_ne_nil, reduceCtorEq, exists_eq_left', exists_eq_left, exists_and_left, and_assoc, exists_const, true_and, and_true, if_true, if_false, false_and, and_false, exists_false, false_or, or_false, true_implies, false_implies, implies_true, forall_eq, forall_eq', Bool.false_eq_true, if_neg, decide_eq_true_eq, Bool.not_eq_true', decide_eq_false_iff_not, Bool.not_true, Bool.not_false, List.length_cons, List.length_nil, sizeLine_eq, Nat.reduceAdd, Nat.reduceLeDiff, Nat.reduceLT, Int.reduceLT, Int.reduceLE, Int.emod_nonneg, ne_eq, Int.reduceEq, not_false_eq_true, not_true_eq_false]
      refine ⟨.inr ⟨by omega, by omega⟩, h_d _ _ ?_⟩
      clear h_d
      have hj := md_rng (way + (0 + (i : Int)) * (1 + way % 4)) (show (0 : Int) < 5 by decide)
      generalize (way + (0 + (i : Int)) * (1 + way % 4)) % 5 = j at hj
      refine seq_gen fun N_e h_e => ?_
      simp only [RDa, RDb, RDv, RDk, RDx, RDe, RDd, RDp, RDq, List.getElem?_cons_zero, List.getElem?_cons_succ, List.set_cons_zero, List.set_cons_succ, List.cons.injEq, List.cons_ne_nil, reduceCtorEq, exists_eq_left', exists_eq_left, exists_and_left, and_assoc, exists_const, true_and, and_true, if_true, if_false, false_and, and_false, exists_false, false_or, or_false, true_implies, false_implies, implies_true, forall_eq, forall_eq', Bool.false_eq_true, if_neg, decide_eq_true_eq, Bool.not_eq_true', decide_eq_false_iff_not, Bool.not_true, Bool.not_false, List.length_cons, List.length_nil, sizeLine_eq, Nat.reduceAdd, Nat.reduceLeDiff, Nat.reduceLT, Int.reduceLT, Int.reduceLE, Int.emod_nonneg, ne_eq, Int.reduceEq, not_false_eq_true, not_true_eq_false]
      refine ⟨A, m, N, j, rfl, run2, ok, hN, hj.1, hj.2, fun x H3 s3 ask => h_e _ _ ?_⟩
      clear h_e
      refine seq_gen fun N_f h_f => ?_
      have t3 := t2.same s3
      have nt3 := nt2.same s3
      obtain ⟨due3, cnt3, ⟨rsl, hl3, arl⟩, ⟨rsa, ha3, ara⟩⟩ := dd2.same s3
      obtain ⟨v, d, hv, hd1, hd2, shd⟩ : ∃ v d, atI [V.ref c, .ref l, .ref a, .ref R.o, .bl m.isWrong] j = some v ∧ dat H3 8 x = some d ∧ dat H3 8 v = some d ∧ Shp 8 d := by
        rcases ask with ⟨rfl, lx, rfl, hx⟩ | ⟨rfl, lx, rs, rfl, nx, hx, ar⟩ | ⟨rfl, lx, rs, rfl, nx, hx, ar⟩ | ⟨rfl, lx, rfl, nx, hx⟩ | ⟨rfl, rfl⟩
        · exact ⟨_, _, rfl, dat_cnt hx 7, dat_cnt cnt3 7, shp_cnt.mono (by decide)⟩
        · exact ⟨_, _, rfl, dat_let hx ar 6, dat_let hl3 arl 6, (shp_let ok).mono (by decide)⟩
        · exact ⟨_, _, rfl, dat_an hx ar 6, dat_an ha3 ara 6, shp_an.mono (by decide)⟩
        · exact ⟨_, _, rfl, dat_out hx 7, dat_out t3.out 7, (shp_out ok).mono (by decide)⟩
        · exact ⟨_, _, rfl, (datE H3).2.1 _ _, (datE H3).2.1 _ _, (shp_s 8).2.1 _⟩
      have kd : ((j = 0 ∧ ∃ l i j k, x = .ref l ∧ H3 l = some (.tup [.int i, .int j, .int k])) ∨ (j = 4 ∧ ∃ b, x = .bl b) ∨ (j ≠ 0 ∧ j ≠ 4 ∧ ∃ l xs, x = .ref l ∧ H3 l = some (.lst xs))) := by
        rcases ask with ⟨rfl, lx, rfl, hx⟩ | ⟨rfl, lx, rs, rfl, nx, hx, ar⟩ | ⟨rfl, lx, rs, rfl, nx, hx, ar⟩ | ⟨rfl, lx, rfl, nx, hx⟩ | ⟨rfl, rfl⟩
        · exact .inl ⟨rfl, _, _, _, _, rfl, hx⟩
        · exact .inr (.inr ⟨by decide, by decide, _, _, rfl, hx⟩)
        · exact .inr (.inr ⟨by decide, by decide, _, _, rfl, hx⟩)
        · exact .inr (.inr ⟨by decide, by decide, _, _, rfl, hx⟩)
        · exact .inr (.inl ⟨rfl, _, rfl⟩)
      have ld : (j = 1 ∨ j = 2 ∨ j = 3) → ∃ lx xs, x = .ref lx ∧ H2 lx = none ∧ H3 lx = some (.lst xs) ∧ LD (lx :: AA) H3 xs ∧ xs.length ≤ 100000 := fun hj3 => by
        have hz := ok.ok
        have hz1 := ok.ls
        have hz2 := ok.an
        rcases ask with ⟨rfl, _⟩ | ⟨rfl, lx, rs, rfl, nx, hx, ar⟩ | ⟨rfl, lx, rs, rfl, nx, hx, ar⟩ | ⟨rfl, lx, rfl, nx, hx⟩ | ⟨rfl, _⟩
        · omega
        · exact ⟨lx, rs, rfl, nx, hx, .let ok (fun c hc ys => by
            rcases List.mem_cons.mp hc with e | h
            · rw [e, hx]; simp
            · exact nt3 c h ys) ar, by have := ar.length; have := thereN_len m.ls.length m.d; omega⟩
        · exact ⟨lx, rs, rfl, nx, hx, .ans (fun c hc ys => by
            rcases List.mem_cons.mp hc with e | h
            · rw [e, hx]; simp
            · exact nt3 c h ys) ar, by have := ar.length; have := thereN_len m.an.length m.b; omega⟩
        · exact ⟨lx, _, rfl, nx, hx, .strs ok.so, by rw [List.length_map]; omega⟩
        · omega
      clear ask
      simp only [RDa, RDb, RDv, RDk, RDx, RDe, RDd, RDp, RDq, List.getElem?_cons_zero, List.getElem?_cons_succ, List.set_cons_zero, List.set_cons_succ, List.cons.injEq, List.cons_ne_nil, reduceCtorEq, exists_eq_left', exists_eq_left, exists_and_left, and_assoc, exists_const, true_and, and_true, if_true, if_false, false_and, and_false, exists_false, false_or, or_false, true_implies, false_implies, implies_true, forall_eq, forall_eq', Bool.false_eq_true, if_neg, decide_eq_true_eq, Bool.not_eq_true', decide_eq_false_iff_not, Bool.not_true, Bool.not_false, List.length_cons, List.length_nil, sizeLine_eq, Nat.reduceAdd, Nat.reduceLeDiff, Nat.reduceLT, Int.reduceLT, Int.reduceLE, Int.emod_nonneg, ne_eq, Int.reduceEq, not_false_eq_true, not_true_eq_false]
      refine ⟨_, seqO_lst due3, v, hv, d, hd1, d, hd2, (shd.mono (by decide)).ok, (shd.mono (by decide)).ok, ?_⟩
      rw [if_neg (by rw [eqv_self shd.lay]; simp)]
      refine ⟨x, j, rfl, kd, fun H4 s4 => ⟨true, rfl, ?_⟩⟩
      rw [if_neg (by decide)]
      refine h_f _ _ ?_
      clear h_f
      have s24 := s3.trans s4
      have ho4 := s24 _ _ ho2
      have nt4 := nt2.same s24
      refine seq_gen fun N_g h_g => ?_
      by_cases c123 : j = 1 ∨ j = 2 ∨ j = 3
      · obtain ⟨lx, xs, rfl, nx, hx, ldx, lxs⟩ := ld c123
        have c1 : decide (j = 1 ∨ j = 2 ∨ j = 3) = true := decide_eq_true c123
        have hx4 := s4 _ _ hx
        simp only [RDa, RDb, RDv, RDk, RDx, RDe, RDd, RDp, RDq, List.getElem?_cons_zero, List.getElem?_cons_succ, List.set_cons_zero, List.set_cons_succ, List.cons.injEq, List.cons_ne_nil, reduceCtorEq, exists_eq_left', exists_eq_left, exists_and_left, and_assoc, exists_const, true_and, and_true, if_true, if_false, false_and, and_false, exists_false, false_or, or_false, true_implies, false_implies, implies_true, forall_eq, forall_eq', Bool.false_eq_true, if_neg, decide_eq_true_eq, Bool.not_eq_true', decide_eq_false_iff_not, Bool.not_true, Bool.not_false, List.length_cons, List.length_nil, sizeLine_eq, Nat.reduceAdd, Nat.reduceLeDiff, Nat.reduceLT, Int.reduceLT, Int.reduceLE, Int.emod_nonneg, ne_eq, Int.reduceEq, not_false_eq_true, not_true_eq_false, inV123, c1, ho4, seqO_lst hx4, flatV]
        refine ⟨rfl, ?_⟩
        intro b n_b
        generalize e_H5 : upd H4 b (.lst xs) = H5
        have a_H5 : H5 b = some (.lst xs) := by rw [← e_H5]; exact upd_same
        have s_H5 : Same H4 H5 := by rw [← e_H5]; exact same_new n_b
        intro qq n_qq
        generalize e_H6 : upd H5 qq (.tup [.ref lx, .ref b]) = H6
        have a_H6 : H6 qq = some (.tup [.ref lx, .ref b]) := by rw [← e_H6]; exact upd_same
        have s_H6 : Same H5 H6 := by rw [← e_H6]; exact same_new n_qq
        have s46 := s_H5.trans s_H6
        have ho6 := s46 _ _ ho4
        refine ⟨os2, ho6, by omega, h_g _ _ ?_⟩
        clear h_g
        have hx6 := s46 _ _ hx4
        have hb6 := s_H6 _ _ a_H5
        have nt6 := nt4.same s46
        have lxA : lx ∉ AA := nt2.free nx
        have bA : b ∉ AA := nt4.free n_b
        have qA : qq ∉ AA := nt6.tup a_H6
        have d1 : lx ≠ ol := fun e => lxA (by rw [e]; exact olA)
        have d2 : b ≠ ol := fun e => bA (by rw [e]; exact olA)
        have d3 : qq ≠ ol := fun e => qA (by rw [e]; exact olA)
        have f7 : Fr [ol] H6 (upd H6 ol (.lst (os2 ++ [.ref qq]))) := (Fr.refl _ _).upd (by simp)
        have ho7 : (upd H6 ol (.lst (os2 ++ [.ref qq]))) ol = some (.lst (os2 ++ [.ref qq])) := upd_same
        generalize upd H6 ol (.lst (os2 ++ [.ref qq])) = H7 at f7 ho7
        have f27 : Fr [ol] H2 H7 := (Fr.of (s24.trans s46)).trans f7
        have f37 : Fr [ol] H3 H7 := (Fr.of (s4.trans s46)).trans f7
        have hx7 := f7 _ _ (by simpa using d1) hx6
        have hb7 := f7 _ _ (by simpa using d2) hb6
        have hq7 := f7 _ _ (by simpa using d3) a_H6
        have olm : ∀ x ∈ [ol], x ∈ AA := fun x hx => by rw [List.mem_singleton.mp hx]; exact olA
        by_cases ct : (0 + (i : Int)) % 2 = 0
        · simp only [RDa, RDb, RDv, RDk, RDx, RDe, RDd, RDp, RDq, List.getElem?_cons_zero, List.getElem?_cons_succ, List.set_cons_zero, List.set_cons_succ, List.cons.injEq, List.cons_ne_nil, reduceCtorEq, exists_eq_left', exists_eq_left, exists_and_left, and_assoc, exists_const, true_and, and_true, if_true, if_false, false_and, and_false, exists_false, false_or, or_false, true_implies, false_implies, implies_true, forall_eq, forall_eq', Bool.false_eq_true, if_neg, decide_eq_true_eq, Bool.not_eq_true', decide_eq_false_iff_not, Bool.not_true, Bool.not_false, List.length_cons, List.length_nil, sizeLine_eq, Nat.reduceAdd, Nat.reduceLeDiff, Nat.reduceLT, Int.reduceLT, Int.reduceLE, Int.emod_nonneg, ne_eq, Int.reduceEq, not_false_eq_true, not_true_eq_false, inV123, c1, flatV, ct, hx7]
          refine ⟨rfl, by omega, ?_⟩
          have f8 : Fr [lx] H7 (upd H7 lx (.lst (xs ++ [.str "more"]))) := (Fr.refl _ _).upd (by simp)
          have hx8 : (upd H7 lx (.lst (xs ++ [.str "more"]))) lx = some (.lst (xs ++ [.str "more"])) := upd_same
          generalize upd H7 lx (.lst (xs ++ [.str "more"])) = H8 at f8 hx8 ⊢
          have nt8 := (nt6.fr1 f7 ho7).fr1 f8 hx8
          have ho8 := f8 _ _ (by simpa using Ne.symm d1) ho7
          refine ⟨_, seqO_lst hx8, ?_⟩
          intro b2 n_b2
          generalize e_H9 : upd H8 b2 (.lst (xs ++ [.str "more"])) = H9
          have a_H9 : H9 b2 = some (.lst (xs ++ [.str "more"])) := by rw [← e_H9]; exact upd_same
          have s_H9 : Same H8 H9 := by rw [← e_H9]; exact same_new n_b2
          intro q2 n_q2
          generalize e_HA : upd H9 q2 (.tup [.ref lx, .ref b2]) = HA
          have a_HA : HA q2 = some (.tup [.ref lx, .ref b2]) := by rw [← e_HA]; exact upd_same
          have s_HA : Same H9 HA := by rw [← e_HA]; exact same_new n_q2
          have s8A := s_H9.trans s_HA
          have hoA := s8A _ _ ho8
          have hxA := s8A _ _ hx8
          have hbA := s_HA _ _ a_H9
          have ntA := nt8.same s8A
          have b2A : b2 ∉ AA := nt8.free n_b2
          have q2A : q2 ∉ AA := ntA.tup a_HA
          have d4 : b2 ≠ ol := fun e => b2A (by rw [e]; exact olA)
          have d5 : q2 ≠ ol := fun e => q2A (by rw [e]; exact olA)
          refine ⟨ol, _, -1, os2.length, rfl, rfl, hoA, ?_, ?_⟩
          · unfold ixN
            rw [List.length_append, List.length_singleton, if_neg (by decide), if_pos (by omega)]
            congr 1
            omega
          rw [show (os2 ++ [V.ref qq]).set os2.length (.ref q2) = os2 ++ [.ref q2] by simp [List.set_append]]
          have fB : Fr [ol] HA (upd HA ol (.lst (os2 ++ [.ref q2]))) := (Fr.refl _ _).upd (by simp)
          have hoB : (upd HA ol (.lst (os2 ++ [.ref q2]))) ol = some (.lst (os2 ++ [.ref q2])) := upd_same
          generalize upd HA ol (.lst (os2 ++ [.ref q2])) = HB at fB hoB ⊢
          have f2B : Fr [ol] H2 HB := fun c o hc e => fB _ _ hc (s8A _ _ (f8 _ _ (by simpa using ne_of_none e nx) (f27 _ _ hc e)))
          have cons : ∀ x ∈ [ol], x ∈ lx :: AA := fun x hx => List.mem_cons_of_mem _ (olm x hx)
          have f3B : Fr (lx :: AA) H3 HB := (((f37.mono cons).trans (f8.mono (by simp))).trans (.of s8A)).trans (fB.mono cons)
          have oldB : OldOk AA HB (os2 ++ [.ref q2]) := old_fin (old2.fr (f2B.mono olm)) (fB _ _ (by simpa using d5) a_HA) (fB _ _ (by simpa using d1) hxA) (fB _ _ (by simpa using d4) hbA) q2A lxA b2A ((ldx.fr f3B).snoc (by decide +kernel)).less
          exact ⟨f2.trans f2B, _, hoB, oldB, by rw [List.length_append, List.length_singleton]; omega⟩
        · simp only [RDa, RDb, RDv, RDk, RDx, RDe, RDd, RDp, RDq, List.getElem?_cons_zero, List.getElem?_cons_succ, List.set_cons_zero, List.set_cons_succ, List.cons.injEq, List.cons_ne_nil, reduceCtorEq, exists_eq_left', exists_eq_left, exists_and_left, and_assoc, exists_const, true_and, and_true, if_true, if_false, false_and, and_false, exists_false, false_or, or_false, true_implies, false_implies, implies_true, forall_eq, forall_eq', Bool.false_eq_true, if_neg, decide_eq_true_eq, Bool.not_eq_true', decide_eq_false_iff_not, Bool.not_true, Bool.not_false, List.length_cons, List.length_nil, sizeLine_eq, Nat.reduceAdd, Nat.reduceLeDiff, Nat.reduceLT, Int.reduceLT, Int.reduceLE, Int.emod_nonneg, ne_eq, Int.reduceEq, not_false_eq_true, not_true_eq_false, inV123, c1, flatV, ct]
          have old7 : OldOk AA H7 (os2 ++ [.ref qq]) := old_fin (old2.fr (f27.mono olm)) hq7 hx7 hb7 qA lxA bA (ldx.fr (f37.mono (fun x hx => List.mem_cons_of_mem _ (olm x hx)))).less
          exact ⟨rfl, f2.trans f27, _, ho7, old7, by rw [List.length_append, List.length_singleton]; omega⟩
      · have c1 : decide (j = 1 ∨ j = 2 ∨ j = 3) = false := decide_eq_false c123
        simp only [RDa, RDb, RDv, RDk, RDx, RDe, RDd, RDp, RDq, List.getElem?_cons_zero, List.getElem?_cons_succ, List.set_cons_zero, List.set_cons_succ, List.cons.injEq, List.cons_ne_nil, reduceCtorEq, exists_eq_left', exists_eq_left, exists_and_left, and_assoc, exists_const, true_and, and_true, if_true, if_false, false_and, and_false, exists_false, false_or, or_false, true_implies, false_implies, implies_true, forall_eq, forall_eq', Bool.false_eq_true, if_neg, decide_eq_true_eq, Bool.not_eq_true', decide_eq_false_iff_not, Bool.not_true, Bool.not_false, List.length_cons, List.length_nil, sizeLine_eq, Nat.reduceAdd, Nat.reduceLeDiff, Nat.reduceLT, Int.reduceLT, Int.reduceLE, Int.emod_nonneg, ne_eq, Int.reduceEq, not_false_eq_true, not_true_eq_false, inV123, c1, flatV]
        refine ⟨rfl, h_g _ _ ?_⟩
        simp only [RDa, RDb, RDv, RDk, RDx, RDe, RDd, RDp, RDq, List.getElem?_cons_zero, List.getElem?_cons_succ, List.set_cons_zero, List.set_cons_succ, List.cons.injEq, List.cons_ne_nil, reduceCtorEq, exists_eq_left', exists_eq_left, exists_and_left, and_assoc, exists_const, true_and, and_true, if_true, if_false, false_and, and_false, exists_false, false_or, or_false, true_implies, false_implies, implies_true, forall_eq, forall_eq', Bool.false_eq_true, if_neg, decide_eq_true_eq, Bool.not_eq_true', decide_eq_false_iff_not, Bool.not_true, Bool.not_false, List.length_cons, List.length_nil, sizeLine_eq, Nat.reduceAdd, Nat.reduceLeDiff, Nat.reduceLT, Int.reduceLT, Int.reduceLE, Int.emod_nonneg, ne_eq, Int.reduceEq, not_false_eq_true, not_true_eq_false, inV123, c1, flatV]
        exact ⟨rfl, f2.trans (.of s24), os2, ho4, old2.fr (.of s24), by omega⟩
    · rintro σ1 H2 ⟨u5, u6, u7, rfl, f2, os2, ho2, old2, l2⟩
      exact h_b _ _ ⟨_, _, _, rfl, f2, os2, ho2, old2, by split at l2 <;> omega⟩
  rintro _ H2 ⟨u5, u6, u7, rfl, f2, os2, ho2, old2, l2⟩
  simp only [RDa, RDb, RDv, RDk, RDx, RDe, RDd, RDp, RDq, List.getElem?_cons_zero, List.getElem?_cons_succ, List.set_cons_zero, List.set_cons_succ, List.cons.injEq, List.cons_ne_nil, reduceCtorEq, exists_eq_left', exists_eq_left, exists_and_left, and_assoc, exists_const, true_and, and_true, if_true, if_false, false_and, and_false, exists_false, false_or, or_false, true_implies, false_implies, implies_true, forall_eq, forall_eq', Bool.false_eq_true, if_neg, decide_eq_true_eq, Bool.not_eq_true', decide_eq_false_iff_not, Bool.not_true, Bool.not_false, List.length_cons, List.length_nil, sizeLine_eq, Nat.reduceAdd, Nat.reduceLeDiff, Nat.reduceLT, Int.reduceLT, Int.reduceLE, Int.emod_nonneg, ne_eq, Int.reduceEq, not_false_eq_true, not_true_eq_false]
  exact q H2 os2 ((Fr.of s1).trans f2) ho2 old2 l2
end RP

namespace RP
open PySem PySem.Spec PyProof.Rows L2 L2H
/-- for x in a tuple -/
theorem for_tcut {K : PySem.W.Frag} {tl : TE} {g : TG} {tb : L2.TS} {D : Ends} {σ : L2.St} {H : Hp} (G : Addr → Hp → Prop) (xs : List V) (h1 : ∀ Z : VK, (∀ a H1, G a H1 → Z (.ref a) H1) → tl σ H Z) (Pv : Addr → Nat → L2.St → Hp → Prop) (h0 : ∀ a H1, G a H1 → SqT K H1 a xs ∧ Pv a 0 σ H1) (hl : ∀ a i σ H, i ≤ xs.length → Pv a i σ H → SqT K H a xs)
    (hs : ∀ a i x σ H, xs[i]? = some x → Pv a i σ H → g x σ H fun σ2 H2 => tb { D with nx := Pv a (i + 1), ct := Pv a (i + 1), bk := D.nx } σ2 H2) (hd : ∀ a σ H, Pv a xs.length σ H → D.nx σ H) : tFor (iTup K tl) g tb D σ H :=
  h1 _ fun a H1 q => ⟨a, rfl, ⟨xs, (h0 a H1 q).1⟩, for_tup (Pv a) (h0 a H1 q).2 (hl a) (hs a) (hd a)⟩
theorem mL2 : (∀ b ring x base top o k l a y, putK (mD b ring x base top o k l a) (Sum.inr "letters" : Key) (.ref y) = mD b ring x base top o k y a) ∧ (∀ b ring x base top o k l a y, putK (mD b ring x base top o k l a) (Sum.inr "answers" : Key) (.ref y) = mD b ring x base top o k l y) ∧
    (∀ b ring x base top o k l a y, putK (mD b ring x base top o k l a) (Sum.inr "out" : Key) (.ref y) = mD b ring x base top y k l a) ∧ (∀ b ring x base top o k l a y, putK (mD b ring x base top o k l a) (Sum.inr "kept" : Key) (.ref y) = mD b ring x base top o y l a) := by
  refine ⟨?_, ?_, ?_, ?_⟩ <;> intros <;> first | rfl | kernel_rfl
abbrev s__law_twin : Stmt := top 56
abbrev N__law_twin : List Str := ["_law_m", "_law_twin_here", "_law_word"]
theorem sc__law_twin : FnScope N__law_twin ["_law_m"] (defScope s__law_twin) := ⟨rfl, rfl, rfl, by decide +kernel, rfl, by decide +kernel, by decide +kernel⟩
def sp__law_twin (K : PySem.W.Frag) : Sp := fun vs H Q E => ∃ (R : RwA) (m : M), vs = [.ref R.m] ∧ RwAt H R m ∧ ∀ R' H', R'.b = R.b → R'.x = R.x → (∀ c ∈ R'.mu, H c = none) → Same H H' → RwAt H' R' m → Q (.ref R'.m) H'
theorem ok__law_twin {P : Program} {w : World} {K : PySem.W.Frag} {mg : Str → Option Value} {base : Heap} (F : FnP K ("_law_twin", none) "_law_twin" "_law_twin" s__law_twin) (hm : mg "_law_twin" = some (.ref (He.ga K "_law_twin"))) (bl : Blt mg) : Cal P w K mg base 1 "_law_twin" (sp__law_twin K) := by
  refine fn_cal F hm sc__law_twin (fun vs H Q E => by walk_at "len") (fun _ _ _ _ _ _ us hl => match us, hl with | [_], _ => rfl) (fun f cdv A outer s H vs Q E hr h => ?_)
  have hu := hu_of hr
  obtain ⟨R, m, rfl, t, q⟩ := h
  obtain ⟨vs, hvs, al⟩ := t.ls
  refine ⟨_, (pss_cons (ps_set (i := 1) sc__law_twin.nd rfl (Or.inl rfl) (pe_callTy call_dictC (by rfl) (bl.dict) (by decide +kernel) (pa_cons (pv 0) pa_nil)))
  (pss_cons (ps_for (passes_of rfl) rfl (pi_tup (pe_tup (pa_cons pe_str (pa_cons pe_str (pa_cons pe_str pa_nil))))) (pg_name (i := 2) sc__law_twin.nd rfl (Or.inl rfl))
  (pss_one (ps_putD (by exact hu) (pv 1) (pv 2) (pe_callTy call_listC (by rfl) (bl.list) (by decide +kernel) (pa_cons (pe_getD (by exact hu) (pv 0) (pv 2) (fun _ _ => rfl)) pa_nil)) rfl)))
  (pss_cons (ps_putD (by exact hu) (pv 1) pe_str (pe_callTy call_dictC (by rfl) (bl.dict) (by decide +kernel) (pa_cons (pe_getD (by exact hu) (pv 0) pe_str (fun _ _ => rfl)) pa_nil)) rfl)
  (pss_one (ps_ret (pv 1)))))), ?_⟩
  walk_at "st0"
  refine seq_gen fun N_a h_a => ?_
  simp only [RDa, RDb, RDv, RDk, RDx, RDe, RDd, RDp, RDq, List.getElem?_cons_zero, List.getElem?_cons_succ, List.set_cons_zero, List.set_cons_succ, List.cons.injEq, List.cons_ne_nil, reduceCtorEq, exists_eq_left', exists_eq_left, exists_and_left, and_assoc, exists_const, true_and, and_true, if_true, if_false, false_and, and_false, exists_false, false_or, or_false, true_implies, false_implies, implies_true, forall_eq, forall_eq', Bool.false_eq_true, if_neg, decide_eq_true_eq, Bool.not_eq_true', decide_eq_false_iff_not, Bool.not_true, Bool.not_false, List.length_cons, List.length_nil, sizeLine_eq, Nat.reduceAdd, Nat.reduceLeDiff, Nat.reduceLT, Int.reduceLT, Int.reduceLE, Int.emod_nonneg, ne_eq, Int.reduceEq, not_false_eq_true, not_true_eq_false, t.dic]
  intro d n_d
  generalize e_H1 : upd H d (.dK (mD R.b m.ring R.x m.base m.top R.o R.k R.l R.a)) = H1
  have a_H1 : H1 d = some (.dK (mD R.b m.ring R.x m.base m.top R.o R.k R.l R.a)) := by rw [← e_H1]; exact upd_same
  have s_H1 : Same H H1 := by rw [← e_H1]; exact same_new n_d
  refine h_a _ _ ?_
  clear h_a
  have t1 := t.same s_H1
  have keep : ∀ H2, Fr [d] H1 H2 → Same H H2 := fun H2 f c o e => f _ _ (by simpa using ne_of_none e n_d) (s_H1 _ _ e)
  have put : ∀ (H2 : Hp) (n : Addr) (o2 : HO) (kv kv2 : List (Key × V)), Fr [d] H1 H2 → H2 d = some (.dK kv) → H2 n = none → (upd H2 n o2) d = some (.dK kv) ∧ Fr [d] H1 (upd (upd H2 n o2) d (.dK kv2)) ∧ (upd (upd H2 n o2) d (.dK kv2)) d = some (.dK kv2) ∧ (upd (upd H2 n o2) d (.dK kv2)) n = some o2 ∧ H1 n = none ∧ ∀ c o, H2 c = some o → H1 c = none → (upd (upd H2 n o2) d (.dK kv2)) c = some o := by
    intro H2 n o2 kv kv2 f hd nn
    have dn : d ≠ n := ne_of_none hd nn
    refine ⟨(upd_ne dn).trans hd, (f.new nn).upd (by simp), upd_same, (upd_ne (Ne.symm dn)).trans upd_same, ?_, fun c o e nc => ?_⟩
    · cases e : H1 n with
      | none => rfl
      | some o => rw [f _ _ (by simpa using Ne.symm dn) e] at nn; cases nn
    · have c1 : c ≠ d := fun e2 => by rw [e2, a_H1] at nc; cases nc
      rw [upd_ne c1, upd_ne (ne_of_none e nn)]
      exact e
  refine seq_rel (fun σ1 H2 => ∃ u l a2 o, σ1 = [some (.ref R.m), some (.ref d), u] ∧ Fr [d] H1 H2 ∧ H2 d = some (.dK (mD R.b m.ring R.x m.base m.top o R.k l a2)) ∧ H1 l = none ∧ H1 a2 = none ∧ H1 o = none ∧ l ≠ a2 ∧ l ≠ o ∧ a2 ≠ o ∧ H2 l = some (.lst vs) ∧ H2 a2 = some (.lst (m.an.map V.int)) ∧ H2 o = some (.lst (m.out.map V.str))) (fun N_b h_b => ?_) ?_
  · obtain ⟨P0, hP0⟩ : ∃ P0 : Addr → L2.St → Hp → Prop, ∀ w σ1 H2, P0 w σ1 H2 ↔ (∃ u, σ1 = [some (.ref R.m), some (.ref d), u] ∧ Fr [d] H1 H2 ∧ H2 d = some (.dK (mD R.b m.ring R.x m.base m.top R.o R.k R.l R.a)) ∧ H1 w = none ∧ H2 w = some (.tup [.str "letters", .str "answers", .str "out"])) := ⟨_, fun _ _ _ => Iff.rfl⟩
    obtain ⟨P1, hP1⟩ : ∃ P1 : Addr → L2.St → Hp → Prop, ∀ w σ1 H2, P1 w σ1 H2 ↔ (∃ u l, σ1 = [some (.ref R.m), some (.ref d), u] ∧ Fr [d] H1 H2 ∧ H2 d = some (.dK (mD R.b m.ring R.x m.base m.top R.o R.k l R.a)) ∧ H1 w = none ∧ H2 w = some (.tup [.str "letters", .str "answers", .str "out"]) ∧ H1 l = none ∧ H2 l = some (.lst vs)) := ⟨_, fun _ _ _ => Iff.rfl⟩
    obtain ⟨P2, hP2⟩ : ∃ P2 : Addr → L2.St → Hp → Prop, ∀ w σ1 H2, P2 w σ1 H2 ↔ (∃ u l a2, σ1 = [some (.ref R.m), some (.ref d), u] ∧ Fr [d] H1 H2 ∧ H2 d = some (.dK (mD R.b m.ring R.x m.base m.top R.o R.k l a2)) ∧ H1 w = none ∧ H2 w = some (.tup [.str "letters", .str "answers", .str "out"]) ∧ H1 l = none ∧ H2 l = some (.lst vs) ∧ H1 a2 = none ∧ H2 a2 = some (.lst (m.an.map V.int)) ∧ l ≠ a2) := ⟨_, fun _ _ _ => Iff.rfl⟩
    obtain ⟨P3, hP3⟩ : ∃ P3 : Addr → L2.St → Hp → Prop, ∀ w σ1 H2, P3 w σ1 H2 ↔ (∃ u l a2 o, σ1 = [some (.ref R.m), some (.ref d), u] ∧ Fr [d] H1 H2 ∧ H2 d = some (.dK (mD R.b m.ring R.x m.base m.top o R.k l a2)) ∧ H1 w = none ∧ H2 w = some (.tup [.str "letters", .str "answers", .str "out"]) ∧ H1 l = none ∧ H2 l = some (.lst vs) ∧ H1 a2 = none ∧ H2 a2 = some (.lst (m.an.map V.int)) ∧ l ≠ a2 ∧ H1 o = none ∧ H2 o = some (.lst (m.out.map V.str)) ∧ l ≠ o ∧ a2 ≠ o) := ⟨_, fun _ _ _ => Iff.rfl⟩
    refine for_tcut (fun w H2 => Same H1 H2 ∧ H1 w = none ∧ H2 w = some (.tup [.str "letters", .str "answers", .str "out"])) [.str "letters", .str "answers", .str "out"] (fun Z hZ => ?_)
      (fun w i σ1 H2 => match i with | 0 => P0 w σ1 H2 | 1 => P1 w σ1 H2 | 2 => P2 w σ1 H2 | _ => P3 w σ1 H2) ?_ ?_ ?_ ?_
    · simp only [RDa, RDb, RDv, RDk, RDx, RDe, RDd, RDp, RDq, List.getElem?_cons_zero, List.getElem?_cons_succ, List.set_cons_zero, List.set_cons_succ, List.cons.injEq, List.cons_ne_nil, reduceCtorEq, exists_eq_left', exists_eq_left, exists_and_left, and_assoc, exists_const, true_and, and_true, if_true, if_false, false_and, and_false, exists_false, false_or, or_false, true_implies, false_implies, implies_true, forall_eq, forall_eq', Bool.false_eq_true, if_neg, decide_eq_true_eq, Bool.not_eq_true', decide_eq_false_iff_not, Bool.not_true, Bool.not_false, List.length_cons, List.length_nil, sizeLine_eq, Nat.reduceAdd, Nat.reduceLeDiff, Nat.reduceLT, Int.reduceLT, Int.reduceLE, Int.emod_nonneg, ne_eq, Int.reduceEq, not_false_eq_true, not_true_eq_false]
      exact fun p np => hZ _ _ ⟨same_new np, np, upd_same⟩
    · rintro w H2 ⟨s2, nw, hw⟩
      exact ⟨SqT.of hw, (hP0 _ _ _).mpr ⟨_, rfl, .of s2, s2 _ _ a_H1, nw, hw⟩⟩
    · rintro w i σ1 H2 _ z
      match i, z with
      | 0, z => exact SqT.of ((hP0 _ _ _).mp z).choose_spec.2.2.2.2
      | 1, z =>
        obtain ⟨_, _, _, _, _, _, hw, _⟩ := (hP1 _ _ _).mp z
        exact SqT.of hw
      | 2, z =>
        obtain ⟨_, _, _, _, _, _, _, hw, _⟩ := (hP2 _ _ _).mp z
        exact SqT.of hw
      | (n + 3), z =>
        obtain ⟨_, _, _, _, _, _, _, _, hw, _⟩ := (hP3 _ _ _).mp z
        exact SqT.of hw
    · rintro w i x σ1 H2 hx z
      match i, hx, z with
      | 0, hx, z =>
        cases hx
        obtain ⟨u, rfl, f2, hd, nw, hw⟩ := (hP0 _ _ _).mp z
        have t2 := t.same (keep _ f2)
        have hv2 := keep _ f2 _ _ hvs
        simp only [RDa, RDb, RDv, RDk, RDx, RDe, RDd, RDp, RDq, List.getElem?_cons_zero, List.getElem?_cons_succ, List.set_cons_zero, List.set_cons_succ, List.cons.injEq, List.cons_ne_nil, reduceCtorEq, exists_eq_left', exists_eq_left, exists_and_left, and_assoc, exists_const, true_and, and_true, if_true, if_false, false_and, and_false, exists_false, false_or, or_false, true_implies, false_implies, implies_true, forall_eq, forall_eq', Bool.false_eq_true, if_neg, decide_eq_true_eq, Bool.not_eq_true', decide_eq_false_iff_not, Bool.not_true, Bool.not_false, List.length_cons, List.length_nil, sizeLine_eq, Nat.reduceAdd, Nat.reduceLeDiff, Nat.reduceLT, Int.reduceLT, Int.reduceLE, Int.emod_nonneg, ne_eq, Int.reduceEq, not_false_eq_true, not_true_eq_false, mL, t2.dic, seqO_lst hv2]
        intro n nn
        obtain ⟨z1, z2, z3, z4, z5, z6⟩ := put H2 n (.lst vs) _ (mD R.b m.ring R.x m.base m.top R.o R.k n R.a) f2 hd nn
        refine ⟨_, z1, (by show (9 : Nat) < 16777216; decide), ?_⟩
        rw [mL2.1]
        exact (hP1 _ _ _).mpr ⟨_, n, rfl, z2, z3, nw, z6 w _ hw nw, z5, z4⟩
      | 1, hx, z =>
        cases hx
        obtain ⟨u, l, rfl, f2, hd, nw, hw, nl, hl⟩ := (hP1 _ _ _).mp z
        have t2 := t.same (keep _ f2)
        simp only [RDa, RDb, RDv, RDk, RDx, RDe, RDd, RDp, RDq, List.getElem?_cons_zero, List.getElem?_cons_succ, List.set_cons_zero, List.set_cons_succ, List.cons.injEq, List.cons_ne_nil, reduceCtorEq, exists_eq_left', exists_eq_left, exists_and_left, and_assoc, exists_const, true_and, and_true, if_true, if_false, false_and, and_false, exists_false, false_or, or_false, true_implies, false_implies, implies_true, forall_eq, forall_eq', Bool.false_eq_true, if_neg, decide_eq_true_eq, Bool.not_eq_true', decide_eq_false_iff_not, Bool.not_true, Bool.not_false, List.length_cons, List.length_nil, sizeLine_eq, Nat.reduceAdd, Nat.reduceLeDiff, Nat.reduceLT, Int.reduceLT, Int.reduceLE, Int.emod_nonneg, ne_eq, Int.reduceEq, not_false_eq_true, not_true_eq_false, mL, t2.dic, seqO_lst t2.an]
        intro n nn
        obtain ⟨z1, z2, z3, z4, z5, z6⟩ := put H2 n (.lst (m.an.map V.int)) _ (mD R.b m.ring R.x m.base m.top R.o R.k l n) f2 hd nn
        refine ⟨_, z1, (by show (9 : Nat) < 16777216; decide), ?_⟩
        rw [mL2.2.1]
        exact (hP2 _ _ _).mpr ⟨_, l, n, rfl, z2, z3, nw, z6 w _ hw nw, nl, z6 l _ hl nl, z5, z4, ne_of_none hl nn⟩
      | 2, hx, z =>
        cases hx
        obtain ⟨u, l, a2, rfl, f2, hd, nw, hw, nl, hl, na, ha, la⟩ := (hP2 _ _ _).mp z
        have t2 := t.same (keep _ f2)
        simp only [RDa, RDb, RDv, RDk, RDx, RDe, RDd, RDp, RDq, List.getElem?_cons_zero, List.getElem?_cons_succ, List.set_cons_zero, List.set_cons_succ, List.cons.injEq, List.cons_ne_nil, reduceCtorEq, exists_eq_left', exists_eq_left, exists_and_left, and_assoc, exists_const, true_and, and_true, if_true, if_false, false_and, and_false, exists_false, false_or, or_false, true_implies, false_implies, implies_true, forall_eq, forall_eq', Bool.false_eq_true, if_neg, decide_eq_true_eq, Bool.not_eq_true', decide_eq_false_iff_not, Bool.not_true, Bool.not_false, List.length_cons, List.length_nil, sizeLine_eq, Nat.reduceAdd, Nat.reduceLeDiff, Nat.reduceLT, Int.reduceLT, Int.reduceLE, Int.emod_nonneg, ne_eq, Int.reduceEq, not_false_eq_true, not_true_eq_false, mL, t2.dic, seqO_lst t2.out]
        intro n nn
        obtain ⟨z1, z2, z3, z4, z5, z6⟩ := put H2 n (.lst (m.out.map V.str)) _ (mD R.b m.ring R.x m.base m.top n R.k l a2) f2 hd nn
        refine ⟨_, z1, (by show (9 : Nat) < 16777216; decide), ?_⟩
        rw [mL2.2.2.1]
        exact (hP3 _ _ _).mpr ⟨_, l, a2, n, rfl, z2, z3, nw, z6 w _ hw nw, nl, z6 l _ hl nl, na, z6 a2 _ ha na, la, z5, z4, ne_of_none hl nn, ne_of_none ha nn⟩
      | (n + 3), hx, z => exact absurd hx (by simp)
    · rintro w σ1 H2 z
      obtain ⟨u, l, a2, o, rfl, f2, hd, nw, hw, nl, hl, na, ha, la, no, ho, lo, ao⟩ := (hP3 _ _ _).mp z
      exact h_b _ _ ⟨u, l, a2, o, rfl, f2, hd, nl, na, no, la, lo, ao, hl, ha, ho⟩
  rintro _ H2 ⟨u, l, a2, o, rfl, f2, hd, nl, na, no, la, lo, ao, hl, ha, ho⟩
  have t2 := t.same (keep _ f2)
  refine seq_gen fun N_c h_c => ?_
  simp only [RDa, RDb, RDv, RDk, RDx, RDe, RDd, RDp, RDq, List.getElem?_cons_zero, List.getElem?_cons_succ, List.set_cons_zero, List.set_cons_succ, List.cons.injEq, List.cons_ne_nil, reduceCtorEq, exists_eq_left', exists_eq_left, exists_and_left, and_assoc, exists_const, true_and, and_true, if_true, if_false, false_and, and_false, exists_false, false_or, or_false, true_implies, false_implies, implies_true, forall_eq, forall_eq', Bool.false_eq_true, if_neg, decide_eq_true_eq, Bool.not_eq_true', decide_eq_false_iff_not, Bool.not_true, Bool.not_false, List.length_cons, List.length_nil, sizeLine_eq, Nat.reduceAdd, Nat.reduceLeDiff, Nat.reduceLT, Int.reduceLT, Int.reduceLE, Int.emod_nonneg, ne_eq, Int.reduceEq, not_false_eq_true, not_true_eq_false, mL, t2.dic, t2.kept]
  intro n nn
  obtain ⟨z1, z2, z3, z4, z5, z6⟩ := put H2 n (.dK (kvs m.kept)) _ (mD R.b m.ring R.x m.base m.top o n l a2) f2 hd nn
  refine ⟨_, z1, (by show (9 : Nat) < 16777216; decide), h_c _ _ ?_⟩
  clear h_c
  rw [mL2.2.2.2]
  have nln := ne_of_none hl nn
  have nan := ne_of_none ha nn
  have non := ne_of_none ho nn
  have hl4 := z6 l _ hl nl
  have ha4 := z6 a2 _ ha na
  have ho4 := z6 o _ ho no
  generalize upd (upd H2 n (.dK (kvs m.kept))) d (.dK (mD R.b m.ring R.x m.base m.top o n l a2)) = H4 at z2 z3 z4 hl4 ha4 ho4 ⊢
  have s4 := keep _ z2
  have nd1 : ∀ c, H1 c = none → c ≠ d := fun c nc e => by rw [e, a_H1] at nc; cases nc
  have nx : ∀ c, H1 c = none → c ≠ R.x := fun c nc e => t1.live R.x (by simp [RwA.al]) (by rw [← e]; exact nc)
  have dx : d ≠ R.x := fun e => t.live R.x (by simp [RwA.al]) (by rw [← e]; exact n_d)
  simp only [RDa, RDb, RDv, RDk, RDx, RDe, RDd, RDp, RDq, List.getElem?_cons_zero, List.getElem?_cons_succ, List.set_cons_zero, List.set_cons_succ, List.cons.injEq, List.cons_ne_nil, reduceCtorEq, exists_eq_left', exists_eq_left, exists_and_left, and_assoc, exists_const, true_and, and_true, if_true, if_false, false_and, and_false, exists_false, false_or, or_false, true_implies, false_implies, implies_true, forall_eq, forall_eq', Bool.false_eq_true, if_neg, decide_eq_true_eq, Bool.not_eq_true', decide_eq_false_iff_not, Bool.not_true, Bool.not_false, List.length_cons, List.length_nil, sizeLine_eq, Nat.reduceAdd, Nat.reduceLeDiff, Nat.reduceLT, Int.reduceLT, Int.reduceLE, Int.emod_nonneg, ne_eq, Int.reduceEq, not_false_eq_true, not_true_eq_false]
  refine q ⟨d, R.b, R.x, o, n, l, a2⟩ H4 rfl rfl (fun c hc => ?_) s4 ⟨z3, s4 _ _ t.bnd, s4 _ _ t.tx, ho4, z4, ⟨vs, hl4, al.mono fun _ _ h => LetAt.fr (Fr.of (A := []) s4) (fun _ h => by simp at h) h⟩, ha4, t.want, ?_⟩
  · simp only [RwA.mu, List.mem_cons, List.not_mem_nil, or_false] at hc
    rcases hc with rfl | rfl | rfl | rfl | rfl
    · exact n_d
    · exact s_H1.free no
    · exact s_H1.free z5
    · exact s_H1.free nl
    · exact s_H1.free na
  · simp only [RwA.al, List.nodup_cons, List.mem_cons, List.not_mem_nil, or_false, not_or, List.nodup_nil, and_true, not_false_eq_true]
    exact ⟨⟨dx, Ne.symm (nd1 _ no), Ne.symm (nd1 _ z5), Ne.symm (nd1 _ nl), Ne.symm (nd1 _ na)⟩, ⟨Ne.symm (nx _ no), Ne.symm (nx _ z5), Ne.symm (nx _ nl), Ne.symm (nx _ na)⟩, ⟨non, Ne.symm lo, Ne.symm ao⟩, ⟨Ne.symm nln, Ne.symm nan⟩, la⟩
end RP

namespace RP
open PySem PySem.Spec PyProof.Rows L2 L2H
theorem NoTup.run {K : PySem.W.Frag} {AA : List Addr} {H H' : Hp} {A : RA} {m : M} {hs : List (Str × Int)} (h : NoTup AA H) (f : Fr A.mu' H H') (r : RunAt K H' A m hs) : NoTup AA H' := fun c hc xs => by
  by_cases e : c ∈ A.mu'
  · exact ⟨r.nt c (mu_al A c e) xs, r.live c (mu_al A c e)⟩
  · cases e4 : H c with
    | none => exact absurd e4 (h c hc []).2
    | some o =>
      rw [f _ _ e e4]
      exact ⟨fun z => (h c hc xs).1 (e4.trans z), by simp⟩
theorem NoTup.rows {AA : List Addr} {H H' : Hp} {R : RwA} {m : M} (h : NoTup AA H) (f : Fr R.mu H H') (r : RwAt H' R m) : NoTup AA H' := fun c hc xs => by
  by_cases e : c ∈ R.mu
  · exact ⟨r.nt c (R.mu_al c e) xs, r.live c (R.mu_al c e)⟩
  · cases e4 : H c with
    | none => exact absurd e4 (h c hc []).2
    | some o =>
      rw [f _ _ e e4]
      exact ⟨fun z => (h c hc xs).1 (e4.trans z), by simp⟩
/-- the last one that is there -/
theorem there_last {len : Nat} {b : Int} (h1 : 0 < len) (hb : 0 ≤ b) : 0 < (thereN len b).length ∧ (thereN len b)[(thereN len b).length - 1]? = some (len - 1) := by
  have h0 := mx2_le.mp (Int.le_refl (mx2 0 ((len : Int) - 1 - b)))
  have h2 : mx2 0 ((len : Int) - 1 - b) ≤ (len : Int) - 1 := mx2_le.mpr ⟨by omega, by omega⟩
  unfold thereN
  generalize mx2 0 ((len : Int) - 1 - b) = lo at h0 h2
  rw [List.length_map, List.length_range]
  refine ⟨by omega, ?_⟩
  rw [List.getElem?_map, List.getElem?_range (by omega)]
  show some (lo.toNat + (len - lo.toNat - 1)) = _
  congr 1
  omega
theorem atI_last {xs : List V} {v : V} (h : xs[xs.length - 1]? = some v) (h0 : 0 < xs.length) : atI xs (-1) = some v := by
  unfold atI ixN
  rw [if_neg (by decide), if_pos (by omega), Option.bind_some, show ((-1 : Int) + (xs.length : Int)).toNat = xs.length - 1 by omega]
  exact h
abbrev s__law_kept_stands : Stmt := top 57
abbrev N__law_kept_stands : List Str := ["_law_run", "_law_m", "_law_olds"]
theorem sc__law_kept_stands : FnScope N__law_kept_stands ["_law_run", "_law_m", "_law_olds"] (defScope s__law_kept_stands) := ⟨rfl, rfl, rfl, by decide +kernel, rfl, by decide +kernel, by decide +kernel⟩
def sp__law_kept_stands (K : PySem.W.Frag) : Sp := fun vs H Q E => ∃ (AA : List Addr) (A : RA) (R : RwA) (m : M) (hs : List (Str × Int)) (N : Nat) (ol : Addr) (os : List V), vs = [.ref A.p, .ref R.m, .ref ol] ∧ RunAt K H A m hs ∧ RwAt H R m ∧ m.Ok N ∧ N < 80000 ∧ hs.length < 80000 ∧ m.base ≤ m.top ∧
  H ol = some (.lst os) ∧ OldOk AA H os ∧ os.length < 90000 ∧ NoTup AA H ∧ ol ∈ AA ∧ (∀ c ∈ A.al, c ∈ AA) ∧ ol ∉ A.al ∧ ol ∉ R.al ∧ (∀ c ∈ R.al, c ∉ A.al) ∧ ∀ H' os', Fr (ol :: A.mu') H H' → H' ol = some (.lst os') → OldOk AA H' os' → os'.length ≤ os.length + 8 → NoTup AA H' → Q (.bl true) H'
theorem ok__law_kept_stands {P : Program} {w : World} {K : PySem.W.Frag} {mg : Str → Option Value} {base : Heap} (F : FnP K ("_law_kept_stands", none) "_law_kept_stands" "_law_kept_stands" s__law_kept_stands) (hm : mg "_law_kept_stands" = some (.ref (He.ga K "_law_kept_stands"))) (bl : Blt mg) (hRun : RunF K) (m_Run_do : MCal P w K mg base 4 (He.ga K "Run") "do" (sp_Run_do K)) (m_Run_letters : MCal P w K mg base 3 (He.ga K "Run") "letters" (sp_Run_letters K)) (c__law_stands : Cal P w K mg base 5 "_law_stands" (sp__law_stands K)) : Cal P w K mg base 6 "_law_kept_stands" (sp__law_kept_stands K) := by
  refine fn_cal F hm sc__law_kept_stands (fun vs H Q E => by walk_at "len") (fun _ _ _ _ _ _ us hl => match us, hl with | [_, _, _], _ => rfl) (fun f cdv A outer s H vs Q E hr h => ?_)
  have hu := hu_of hr
  obtain ⟨AA, A, R, m, hs, N, ol, os, rfl, run, t, ok, hN, hhs, low, ho, old, hos, nt, olA, AlA, olr, olR, RA', q⟩ := h
  refine ⟨_, (pss_cons (ps_if (pt_not (pt_val (pe_fn c__law_stands (hr.mono (by decide)) (L2N.takes_of rfl rfl rfl rfl) (pa_cons (pv 0) (pa_cons (pv 1) (pa_cons (pv 2) (pa_cons pe_int pa_nil)))))))
  (pss_one (ps_ret pe_bl))
  pss_nil)
  (pss_cons (ps_if (pt_cmpR op_lt (pe_getD (by exact hu) (pv 1) pe_str (fun _ _ => rfl)) (pe_callB call_lenC (by rfl) (bl.len) (by decide +kernel) (pa_cons (pe_getD (by exact hu) (pv 1) pe_str (fun _ _ => rfl)) pa_nil)) (nomark _))
  (pss_cons (ps_expr (pe_mth (pv 0) m_Run_do (hr.mono (by decide)) (L2N.takes_of rfl rfl rfl rfl) (pa_cons (pe_tup (pa_cons pe_str (pa_cons (pe_getD (by exact hu) (pv 1) pe_str (fun _ _ => rfl)) pa_nil))) pa_nil)))
  (pss_one (ps_expr (pe_mth (pv 0) m_Run_do (hr.mono (by decide)) (L2N.takes_of rfl rfl rfl rfl) (pa_cons (pe_tup (pa_cons pe_str (pa_cons (pe_ix ix_C (pe_ix ix_C (pe_mth0 (pv 0) m_Run_letters (hr.mono (by decide)) (L2N.takes_of rfl rfl rfl rfl)) (pe_un un_neg pe_int) (fun _ _ => rfl)) pe_int (fun _ _ => rfl)) pa_nil))) pa_nil)))))
  pss_nil)
  (pss_one (ps_ret pe_bl)))), ?_⟩
  walk_at "st0"
  refine seq_gen fun N_a h_a => ?_
  simp only [RDa, RDb, RDv, RDk, RDx, RDe, RDd, RDp, RDq, List.getElem?_cons_zero, List.getElem?_cons_succ, List.set_cons_zero, List.set_cons_succ, List.cons.injEq, List.cons_ne_nil, reduceCtorEq, exists_eq_left', exists_eq_left, exists_and_left, and_assoc, exists_const, true_and, and_true, if_true, if_false, false_and, and_false, exists_false, false_or, or_false, true_implies, false_implies, implies_true, forall_eq, forall_eq', Bool.false_eq_true, if_neg, decide_eq_true_eq, Bool.not_eq_true', decide_eq_false_iff_not, Bool.not_true, Bool.not_false, List.length_cons, List.length_nil, sizeLine_eq, Nat.reduceAdd, Nat.reduceLeDiff, Nat.reduceLT, Int.reduceLT, Int.reduceLE, Int.emod_nonneg, ne_eq, Int.reduceEq, not_false_eq_true, not_true_eq_false]
  refine ⟨AA, A, R, m, N, ol, os, 1, rfl, run.c, t, ok, by omega, by decide, by decide, ho, old, by omega, nt, olA, olr, olR, fun H1 os1 f1 ho1 old1 l1 => ⟨true, rfl, ?_⟩⟩
  rw [if_neg (by decide)]
  refine h_a _ _ ?_
  clear h_a
  have nto : ∀ x ∈ [ol], ∀ xs, H x ≠ some (.tup xs) := fun x hx xs => by rw [List.mem_singleton.mp hx, ho]; simp
  have run1 : RunAt K H1 A m hs := run.fr f1 (fun x hx mm => olr (by rw [← List.mem_singleton.mp mm]; exact hx)) nto
  have t1 : RwAt H1 R m := t.fr f1 (fun x hx mm => olR (by rw [← List.mem_singleton.mp mm]; exact hx)) nto
  have nt1 := nt.fr1 f1 ho1
  have f01 : Fr (ol :: A.mu') H H1 := f1.mono (by simp)
  refine seq_gen fun N_b h_b => ?_
  simp only [RDa, RDb, RDv, RDk, RDx, RDe, RDd, RDp, RDq, List.getElem?_cons_zero, List.getElem?_cons_succ, List.set_cons_zero, List.set_cons_succ, List.cons.injEq, List.cons_ne_nil, reduceCtorEq, exists_eq_left', exists_eq_left, exists_and_left, and_assoc, exists_const, true_and, and_true, if_true, if_false, false_and, and_false, exists_false, false_or, or_false, true_implies, false_implies, implies_true, forall_eq, forall_eq', Bool.false_eq_true, if_neg, decide_eq_true_eq, Bool.not_eq_true', decide_eq_false_iff_not, Bool.not_true, Bool.not_false, List.length_cons, List.length_nil, sizeLine_eq, Nat.reduceAdd, Nat.reduceLeDiff, Nat.reduceLT, Int.reduceLT, Int.reduceLE, Int.emod_nonneg, ne_eq, Int.reduceEq, not_false_eq_true, not_true_eq_false, mL, t1.dic, lenO_lst t1.tx]
  rw [List.length_map]
  have done : ∀ H2 os2, Fr (ol :: A.mu') H H2 → H2 ol = some (.lst os2) → OldOk AA H2 os2 → os2.length ≤ os.length + 8 → NoTup AA H2 → N_b [some (.ref A.p), some (.ref R.m), some (.ref ol)] H2 := fun H2 os2 h1 h2 h3 h4 h5 => by
    refine h_b _ _ ?_
    simp only [RDa, RDb, RDv, RDk, RDx, RDe, RDd, RDp, RDq, List.getElem?_cons_zero, List.getElem?_cons_succ, List.set_cons_zero, List.set_cons_succ, List.cons.injEq, List.cons_ne_nil, reduceCtorEq, exists_eq_left', exists_eq_left, exists_and_left, and_assoc, exists_const, true_and, and_true, if_true, if_false, false_and, and_false, exists_false, false_or, or_false, true_implies, false_implies, implies_true, forall_eq, forall_eq', Bool.false_eq_true, if_neg, decide_eq_true_eq, Bool.not_eq_true', decide_eq_false_iff_not, Bool.not_true, Bool.not_false, List.length_cons, List.length_nil, sizeLine_eq, Nat.reduceAdd, Nat.reduceLeDiff, Nat.reduceLT, Int.reduceLT, Int.reduceLE, Int.emod_nonneg, ne_eq, Int.reduceEq, not_false_eq_true, not_true_eq_false]
    exact q H2 os2 h1 h2 h3 h4 h5
  by_cases cb : m.base < (m.tx.length : Int)
  · rw [if_pos cb]
    obtain ⟨dx1, hp1⟩ := run1.c.ins
    simp only [RDa, RDb, RDv, RDk, RDx, RDe, RDd, RDp, RDq, List.getElem?_cons_zero, List.getElem?_cons_succ, List.set_cons_zero, List.set_cons_succ, List.cons.injEq, List.cons_ne_nil, reduceCtorEq, exists_eq_left', exists_eq_left, exists_and_left, and_assoc, exists_const, true_and, and_true, if_true, if_false, false_and, and_false, exists_false, false_or, or_false, true_implies, false_implies, implies_true, forall_eq, forall_eq', Bool.false_eq_true, if_neg, decide_eq_true_eq, Bool.not_eq_true', decide_eq_false_iff_not, Bool.not_true, Bool.not_false, List.length_cons, List.length_nil, sizeLine_eq, Nat.reduceAdd, Nat.reduceLeDiff, Nat.reduceLT, Int.reduceLT, Int.reduceLE, Int.emod_nonneg, ne_eq, Int.reduceEq, not_false_eq_true, not_true_eq_false, hRun, RunL, hp1]
    intro p n_p
    generalize e_H2 : upd H1 p (.tup [.str "send", .int m.base]) = H2
    have a_H2 : H2 p = some (.tup [.str "send", .int m.base]) := by rw [← e_H2]; exact upd_same
    have s_H2 : Same H1 H2 := by rw [← e_H2]; exact same_new n_p
    have run2 := run1.same s_H2
    have htx := ok.tx
    have hb0 := ok.b0
    have hw1 := ok.w1
    have es : m.step "send" m.base = some ((m.ls.length : Int), sentM m m.base) := by
      have e1 : m.step "send" m.base = m.send m.base := rfl
      have e2 : m.send m.base = if m.base ≤ m.base ∧ m.base ≤ m.last then some ((m.ls.length : Int), sentM m m.base) else none := rfl
      rw [e1, e2, if_pos ⟨Int.le_refl _, last_le.mpr ⟨low, by omega, by omega⟩⟩]
    have ok1 := (ok.step es).1
    have l1s : (sentM m m.base).ls.length = m.ls.length + 1 := by
      unfold sentM
      show (m.ls ++ [_]).length = _
      rw [List.length_append]
      rfl
    generalize sentM m m.base = m1 at es ok1 l1s
    refine do_it (N := N) run2 ok (by omega) (by omega) a_H2 (.inl rfl) hb0 (by omega) es fun H3 f3 r3 => ?_
    obtain ⟨dx3, hp3⟩ := r3.c.ins
    simp only [RDa, RDb, RDv, RDk, RDx, RDe, RDd, RDp, RDq, List.getElem?_cons_zero, List.getElem?_cons_succ, List.set_cons_zero, List.set_cons_succ, List.cons.injEq, List.cons_ne_nil, reduceCtorEq, exists_eq_left', exists_eq_left, exists_and_left, and_assoc, exists_const, true_and, and_true, if_true, if_false, false_and, and_false, exists_false, false_or, or_false, true_implies, false_implies, implies_true, forall_eq, forall_eq', Bool.false_eq_true, if_neg, decide_eq_true_eq, Bool.not_eq_true', decide_eq_false_iff_not, Bool.not_true, Bool.not_false, List.length_cons, List.length_nil, sizeLine_eq, Nat.reduceAdd, Nat.reduceLeDiff, Nat.reduceLT, Int.reduceLT, Int.reduceLE, Int.emod_nonneg, ne_eq, Int.reduceEq, not_false_eq_true, not_true_eq_false, hRun, RunL, hp3]
    refine ⟨A, m1, N + 1, rfl, r3.c, ok1, by omega, fun l rs H4 nl s4 hl ar => ?_⟩
    obtain ⟨t0, tl⟩ := there_last (len := m1.ls.length) (b := m1.d) (by omega) ok1.d1
    have elen := ar.length
    obtain ⟨y, hy, a', rfl, ha'⟩ := ar.getL tl
    rw [elen] at hy t0
    have hat := atI_last hy t0
    simp only [RDa, RDb, RDv, RDk, RDx, RDe, RDd, RDp, RDq, List.getElem?_cons_zero, List.getElem?_cons_succ, List.set_cons_zero, List.set_cons_succ, List.cons.injEq, List.cons_ne_nil, reduceCtorEq, exists_eq_left', exists_eq_left, exists_and_left, and_assoc, exists_const, true_and, and_true, if_true, if_false, false_and, and_false, exists_false, false_or, or_false, true_implies, false_implies, implies_true, forall_eq, forall_eq', Bool.false_eq_true, if_neg, decide_eq_true_eq, Bool.not_eq_true', decide_eq_false_iff_not, Bool.not_true, Bool.not_false, List.length_cons, List.length_nil, sizeLine_eq, Nat.reduceAdd, Nat.reduceLeDiff, Nat.reduceLT, Int.reduceLT, Int.reduceLE, Int.emod_nonneg, ne_eq, Int.reduceEq, not_false_eq_true, not_true_eq_false, seqO_lst hl, hat, seqO_tup ha']
    intro p2 n_p2
    generalize e_H5 : upd H4 p2 (.tup [.str "hand", .int ((m1.ls.length - 1 : Nat) : Int)]) = H5
    have a_H5 : H5 p2 = some (.tup [.str "hand", .int ((m1.ls.length - 1 : Nat) : Int)]) := by rw [← e_H5]; exact upd_same
    have s_H5 : Same H4 H5 := by rw [← e_H5]; exact same_new n_p2
    have r5 := (r3.same s4).same s_H5
    have l1N := ok1.ls
    have hd1 := ok1.d1
    obtain ⟨u2, m2, es2⟩ : ∃ u2 m2, m1.step "hand" ((m1.ls.length - 1 : Nat) : Int) = some (u2, m2) := by
      have e1 : m1.step "hand" ((m1.ls.length - 1 : Nat) : Int) = m1.hand ((m1.ls.length - 1 : Nat) : Int) := rfl
      rw [e1]
      unfold M.hand
      rw [if_pos (isT_iff.mpr ⟨by omega, by omega, by omega⟩)]
      exact ⟨_, _, rfl⟩
    refine do_it (N := N + 1) r5 ok1 (by omega) (by rw [List.length_append, List.length_singleton]; omega) a_H5 (.inr (.inl rfl)) (by omega) (by omega) es2 fun H6 f6 r6 => ?_
    have f16 : Fr A.mu' H1 H6 := (((Fr.of s_H2).trans f3).trans (.of (s4.trans s_H5))).trans f6
    exact done H6 os1 (f01.trans (f16.mono fun x hx => List.mem_cons_of_mem _ hx)) (f16 _ _ (fun mm => olr (mu_al A _ mm)) ho1) (old1.fr (f16.mono fun x hx => AlA x (mu_al A x hx))) l1 (nt1.run f16 r6)
  · rw [if_neg cb]
    exact done H1 os1 f01 ho1 old1 l1 nt1
end RP

namespace RP
open PySem PySem.Spec PyProof.Rows L2 L2H
theorem All2.take {α β : Type} {R : α → β → Prop} : ∀ {xs : List α} {ys : List β} (n : Nat), All2 R xs ys → All2 R (xs.take n) (ys.take n)
  | _, _, 0, _ => by rw [List.take_zero, List.take_zero]; exact .nil
  | _, _, _ + 1, .nil => .nil
  | _, _, n + 1, .cons h t => .cons h (t.take n)
theorem run_rng : ∀ (hs : List (Str × Int)) (m m' : M) (N : Nat), m.Ok N → N + hs.length ≤ 90000 → (∀ q ∈ hs, isWord q.1) → m.run hs = some m' → okSteps hs
  | [], _, _, _, _, _, _, _ => fun q h => by cases h
  | p :: r, m, m', N, ok, hN, hw, e => by
    rw [List.length_cons] at hN
    unfold M.run at e
    cases es : m.step p.1 p.2 with
    | none => rw [es] at e; cases e
    | some c =>
      rw [es] at e
      have h1 := step_rng (m' := c.2) (t := c.1) ok (by omega) (hw p List.mem_cons_self) es
      have h2 := run_rng r c.2 m' (N + 1) (ok.step (t := c.1) (m' := c.2) es).1 (by omega) (fun q hq => hw q (List.mem_cons_of_mem _ hq)) e
      intro q hq
      rcases List.mem_cons.mp hq with rfl | hq
      · exact ⟨hw _ List.mem_cons_self, h1⟩
      · exact h2 q hq
theorem brkS_ok {w r d b N : Int} (c : 1 ≤ w ∧ w ≤ 20 ∧ 1 ≤ r ∧ r ≤ w ∧ 0 ≤ d ∧ d ≤ 20 ∧ 0 ≤ b ∧ b ≤ 20) (hN : 1 ≤ N) (hlt : ¬ w + r + mx2 d b ≤ N) : okSteps (brkS w r d b N) := by
  have hx : mx2 d b ≤ 20 := mx2_le.mpr ⟨by omega, by omega⟩
  have hun : Unlike (lawTexts 0 (N + 1) (N + 1).toNat) := unlike_law (by omega) (by omega)
  have hlen : ((lawTexts 0 (N + 1) (N + 1).toNat).length : Int) = N + 1 := by
    unfold lawTexts
    rw [List.length_map, List.length_range]
    omega
  have htz : ∀ x ∈ lawTexts 0 (N + 1) (N + 1).toNat, TxtOk 40 x := fun x hx => by
    obtain ⟨k, _, rfl⟩ := List.mem_map.mp hx
    exact lawTxt_40 (by omega) (by omega) k
  obtain ⟨⟨me, run, _⟩, wd, len⟩ := brkS_wrong (tx := lawTexts 0 (N + 1) (N + 1).toNat) c.1 c.2.1 c.2.2.1 c.2.2.2.1 c.2.2.2.2.1 c.2.2.2.2.2.2.1 hN (by omega) hlt hlen hun
  exact run_rng _ _ _ 0 (M.begun_ok c hN (by omega) (by omega) htz 0) (by omega) wd run
abbrev s__law_first : Stmt := top 58
abbrev N__law_first : List Str := ["_law_script", "_law_bounds_here", "_law_ring", "_law_texts_here", "_law_way", "_law_window", "_law_room", "_law_delay", "_law_back"]
theorem sc__law_first : FnScope N__law_first ["_law_script", "_law_bounds_here", "_law_ring", "_law_texts_here"] (defScope s__law_first) := ⟨rfl, rfl, rfl, by decide +kernel, rfl, by decide +kernel, by decide +kernel⟩
def sp__law_first (K : PySem.W.Frag) (a : Addr) (ns : List Int) : Sp := fun vs H Q E => ∃ (t tl : Addr) (w r d b g : Int) (tx : List Str), vs = [.ref a, .ref t, .int g, .ref tl] ∧ SqL K H a (ns.map V.int) ∧ H t = some (.tup [.int w, .int r, .int d, .int b]) ∧ (1 ≤ w ∧ w ≤ 20 ∧ 1 ≤ r ∧ r ≤ w ∧ 0 ≤ d ∧ d ≤ 20 ∧ 0 ≤ b ∧ b ≤ 20) ∧ 1 ≤ g ∧ g ≤ 200 ∧ H tl = some (.lst (tx.map V.str)) ∧ tx.length ≤ 400 ∧
  ∀ l H' hs, H l = none → Same H H' → StepsAt H' l hs → okSteps hs → hs.length ≤ 60 → Q (.ref l) H'
theorem ok__law_first {P : Program} {w : World} {K : PySem.W.Frag} {mg : Str → Option Value} {base : Heap} (F : FnP K ("_law_first", none) "_law_first" "_law_first" s__law_first) (hm : mg "_law_first" = some (.ref (He.ga K "_law_first"))) (bl : Blt mg) (c__law_at : ∀ (a : Addr) (ns : List Int), Cal P w K mg base 1 "_law_at" (sp__law_at K a ns)) (c__law_straight : Cal P w K mg base 1 "_law_straight" (sp__law_straight K)) (c_breaking : Cal P w K mg base 5 "breaking" (sp_breaking K)) (a : Addr) (ns : List Int) : Cal P w K mg base 6 "_law_first" (sp__law_first K a ns) := by
  refine fn_cal F hm sc__law_first (fun vs H Q E => by walk_at "len") (fun _ _ _ _ _ _ us hl => match us, hl with | [_, _, _, _], _ => rfl) (fun f cdv A outer s H vs Q E hr h => ?_)
  have hu := hu_of hr
  obtain ⟨t, tl, w', r, d, b, g, tx, rfl, hS, ht, ok, g1, g2, htl, hlen, q⟩ := h
  refine ⟨_, (pss_cons (ps_set (i := 4) sc__law_first.nd rfl (Or.inl rfl) (pe_op op_mod (pe_op op_fdiv (pe_fn (c__law_at a ns) (hr.mono (by decide)) (L2N.takes_of rfl rfl rfl rfl) (pa_cons (pv 0) (pa_cons pe_int pa_nil))) pe_int) pe_int))
  (pss_cons (ps_asg (pv 1) (pg_tupC (n := 4) rfl (pgs_cons (pg_name (i := 5) sc__law_first.nd rfl (Or.inl rfl)) (pgs_cons (pg_name (i := 6) sc__law_first.nd rfl (Or.inl rfl)) (pgs_cons (pg_name (i := 7) sc__law_first.nd rfl (Or.inl rfl)) (pgs_cons (pg_name (i := 8) sc__law_first.nd rfl (Or.inl rfl)) pgs_nil))))))
  (pss_cons (ps_if (PW.pt (pw_and (pt_cmpR op_eq (pv 4) pe_int (nomark _)) (pw_and (pt_cmpR op_lt (pv 2) (pe_op op_add (pe_op op_add (pv 5) (pv 6)) (pe_callB (call_max2 rfl) (by rfl) (bl.max) (by decide +kernel) (pa_cons (pv 7) (pa_cons (pv 8) pa_nil)))) (nomark _)) (pw_and1 (pt_cmpR op_gt (pe_callB call_lenC (by rfl) (bl.len) (by decide +kernel) (pa_cons (pv 3) pa_nil)) pe_int (nomark _))))))
  (pss_one (ps_ret (pe_slice sl_list (pe_fn c_breaking (hr.mono (by decide)) (L2N.takes_of rfl rfl rfl rfl) (pa_cons (pv 1) (pa_cons (pv 2) pa_nil))) po_none (po_some pe_int))))
  pss_nil)
  (pss_cons (ps_if (pt_cmpR op_eq (pv 4) pe_int (nomark _))
  (pss_one (ps_ret (pe_fn c__law_straight (hr.mono (by decide)) (L2N.takes_of rfl rfl rfl rfl) (pa_cons (pv 3) (pa_cons (pe_op op_mod (pe_op op_fdiv (pe_fn (c__law_at a ns) (hr.mono (by decide)) (L2N.takes_of rfl rfl rfl rfl) (pa_cons (pv 0) (pa_cons pe_int pa_nil))) pe_int) pe_int) pa_nil)))))
  pss_nil)
  (pss_one (ps_ret (pe_lst pa_nil))))))), ?_⟩
  walk_at "st0"
  have em : ∀ i j : Int, (if j > i then j else i) = mx2 i j := fun _ _ => rfl
  refine seq_gen fun N_a h_a => ?_
  simp only [RDa, RDb, RDv, RDk, RDx, RDe, RDd, RDp, RDq, List.getElem?_cons_zero, List.getElem?_cons_succ, List.set_cons_zero, List.set_cons_succ, List.cons.injEq, List.cons_ne_nil, reduceCtorEq, exists_eq_left', exists_eq_left, exists_and_left, and_assoc, exists_const, true_and, and_true, if_true, if_false, false_and, and_false, exists_false, false_or, or_false, true_implies, false_implies, implies_true, forall_eq, forall_eq', Bool.false_eq_true, if_neg, decide_eq_true_eq, Bool.not_eq_true', decide_eq_false_iff_not, Bool.not_true, Bool.not_false, List.length_cons, List.length_nil, sizeLine_eq, Nat.reduceAdd, Nat.reduceLeDiff, Nat.reduceLT, Int.reduceLT, Int.reduceLE, Int.emod_nonneg, ne_eq, Int.reduceEq, not_false_eq_true, not_true_eq_false, sp__law_at, hS]
  refine h_a _ _ ?_
  clear h_a
  refine seq_gen fun N_b h_b => ?_
  simp only [RDa, RDb, RDv, RDk, RDx, RDe, RDd, RDp, RDq, List.getElem?_cons_zero, List.getElem?_cons_succ, List.set_cons_zero, List.set_cons_succ, List.cons.injEq, List.cons_ne_nil, reduceCtorEq, exists_eq_left', exists_eq_left, exists_and_left, and_assoc, exists_const, true_and, and_true, if_true, if_false, false_and, and_false, exists_false, false_or, or_false, true_implies, false_implies, implies_true, forall_eq, forall_eq', Bool.false_eq_true, if_neg, decide_eq_true_eq, Bool.not_eq_true', decide_eq_false_iff_not, Bool.not_true, Bool.not_false, List.length_cons, List.length_nil, sizeLine_eq, Nat.reduceAdd, Nat.reduceLeDiff, Nat.reduceLT, Int.reduceLT, Int.reduceLE, Int.emod_nonneg, ne_eq, Int.reduceEq, not_false_eq_true, not_true_eq_false, ht]
  refine h_b _ _ ?_
  clear h_b
  have bk := boundsV_of ht ok
  generalize cell ns 4 / 441 % 4 = way
  refine seq_gen fun N_c h_c => ?_
  simp only [RDa, RDb, RDv, RDk, RDx, RDe, RDd, RDp, RDq, List.getElem?_cons_zero, List.getElem?_cons_succ, List.set_cons_zero, List.set_cons_succ, List.cons.injEq, List.cons_ne_nil, reduceCtorEq, exists_eq_left', exists_eq_left, exists_and_left, and_assoc, exists_const, true_and, and_true, if_true, if_false, false_and, and_false, exists_false, false_or, or_false, true_implies, false_implies, implies_true, forall_eq, forall_eq', Bool.false_eq_true, if_neg, decide_eq_true_eq, Bool.not_eq_true', decide_eq_false_iff_not, Bool.not_true, Bool.not_false, List.length_cons, List.length_nil, sizeLine_eq, Nat.reduceAdd, Nat.reduceLeDiff, Nat.reduceLT, Int.reduceLT, Int.reduceLE, Int.emod_nonneg, ne_eq, Int.reduceEq, not_false_eq_true, not_true_eq_false, em, lenO_lst htl]
  have rest : N_c [some (.ref a), some (.ref t), some (.int g), some (.ref tl), some (.int way), some (.int w'), some (.int r), some (.int d), some (.int b)] H := by
    refine h_c _ _ ?_
    clear h_c
    have hm := md_rng (cell ns 4 / 1764) (show (0 : Int) < 20 by decide)
    simp only [RDa, RDb, RDv, RDk, RDx, RDe, RDd, RDp, RDq, List.getElem?_cons_zero, List.getElem?_cons_succ, List.set_cons_zero, List.set_cons_succ, List.cons.injEq, List.cons_ne_nil, reduceCtorEq, exists_eq_left', exists_eq_left, exists_and_left, and_assoc, exists_const, true_and, and_true, if_true, if_false, false_and, and_false, exists_false, false_or, or_false, true_implies, false_implies, implies_true, forall_eq, forall_eq', Bool.false_eq_true, if_neg, decide_eq_true_eq, Bool.not_eq_true', decide_eq_false_iff_not, Bool.not_true, Bool.not_false, List.length_cons, List.length_nil, sizeLine_eq, Nat.reduceAdd, Nat.reduceLeDiff, Nat.reduceLT, Int.reduceLT, Int.reduceLE, Int.emod_nonneg, ne_eq, Int.reduceEq, not_false_eq_true, not_true_eq_false, sp__law_at, hS]
    by_cases c2 : way = 2
    · rw [if_pos c2]
      refine ⟨tl, tx, _, rfl, htl, hlen, hm.1, by omega, fun l H' nl s st => ?_⟩
      have hmn := mn2_le.mp (Int.le_refl (mn2 (cell ns 4 / 1764 % 20) tx.length))
      obtain ⟨k1, k2⟩ := straightS_ok (mn2 (cell ns 4 / 1764 % 20) tx.length).toNat (by omega)
      exact q l H' _ nl s st k1 (by rw [k2]; omega)
    · rw [if_neg c2]
      exact fun p np => q p _ [] np (same_new np) ⟨[], upd_same, .nil⟩ (fun q h => by cases h) (by simp)
  by_cases c1 : way = 1
  · rw [if_pos c1]
    by_cases c2 : g < w' + r + mx2 d b
    · rw [if_pos c2]
      by_cases c3 : (0 : Int) < ((tx.map V.str).length : Int)
      · rw [if_pos c3]
        have rk : amongV (.int g) 1 200 = true := by
          simp only [amongV, Bool.and_eq_true, decide_eq_true_eq]
          exact ⟨g1, g2⟩
        refine ⟨.ref t, .int g, rfl, KnI_ints ht, rfl, fun hb => (by rw [bk] at hb; cases hb), fun _ hr => (by rw [rk] at hr; cases hr), fun a2 w2 r2 d2 b2 N2 e e2 _ e3 _ _ => ?_⟩
        cases e
        cases e3
        rw [ht] at e2
        cases e2
        refine ⟨fun h => absurd h (by omega), fun _ l H5 nl s5 st5 => ?_⟩
        have st5 : StepsAt H5 l (brkS w' r d b g) := st5
        have okb := brkS_ok ok g1 (show ¬ w' + r + mx2 d b ≤ g by omega)
        generalize brkS w' r d b g = hs at st5 okb
        obtain ⟨sx, h1, h2⟩ := st5
        refine ⟨l, rfl, sx, SqL.of h1, fun p np => ?_⟩
        have e60 : cutV sx none (some 60) = sx.take 60 := cut_take sx 60
        rw [e60]
        have sp : Same H5 (upd H5 p (.lst (sx.take 60))) := same_new np
        exact q p _ (hs.take 60) (s5.free np) (s5.trans sp) ⟨_, upd_same, (h2.take 60).mono fun _ _ ⟨a, e, h⟩ => ⟨a, e, sp _ _ h⟩⟩ (fun x hx => okb x (List.mem_of_mem_take hx)) (by rw [List.length_take]; omega)
      · rw [if_neg c3]
        exact rest
    · rw [if_neg c2]
      exact rest
  · rw [if_neg c1]
    exact rest
end RP

namespace RP
open PySem PySem.Spec PyProof.Rows L2 L2H
theorem RwA.al_or {R : RwA} {x : Addr} (h : x ∈ R.al) : x = R.x ∨ x ∈ R.mu := by
  simp only [RwA.al, RwA.mu, List.mem_cons, List.not_mem_nil, or_false] at h ⊢
  rcases h with h | h | h | h | h | h
  · exact .inr (.inl h)
  · exact .inl h
  · exact .inr (.inr (.inl h))
  · exact .inr (.inr (.inr (.inl h)))
  · exact .inr (.inr (.inr (.inr (.inl h))))
  · exact .inr (.inr (.inr (.inr (.inr h))))
theorem hm_grow {X AA : List Addr} {H : Hp} (h : ∀ c ∈ X, H c = none) : hm (X ++ AA) H = hm AA H := by
  funext c
  unfold hm
  by_cases c1 : c ∈ AA
  · rw [if_pos (List.mem_append_right _ c1), if_pos c1]
  · by_cases c2 : c ∈ X
    · rw [if_pos (List.mem_append_left _ c2), if_neg c1, h c c2]
    · rw [if_neg (fun m => (List.mem_append.mp m).elim c2 c1), if_neg c1]
theorem OldOk.grow {X AA : List Addr} {H : Hp} {os : List V} (o : OldOk AA H os) (h : ∀ c ∈ X, H c = none) : OldOk (X ++ AA) H os := by
  unfold OldOk
  rw [hm_grow h]
  exact o
theorem same_fr {X : List Addr} {H H' : Hp} (s : Same H H') : Fr X H H' := .of s
/-- the law's things but for the kept copy -/
structure WB (K : PySem.W.Frag) (FX H : Hp) (AA : List Addr) (f : Addr → Nat) (A : RA) (R : RwA) (A3 : RA) (ol tl : Addr) (m m3 : M) (hs : List (Str × Int)) (n : Nat) (os : List V) : Prop where
  run : RunAt K H A m hs
  rows : RwAt H R m
  ok : m.Ok n
  len : hs.length ≤ n
  low : m.base ≤ m.top
  rw : m.r ≤ m.w
  run3 : RunAt K H A3 m3 []
  ho : H ol = some (.lst os)
  old : OldOk AA H os
  nt : NoTup AA H
  aA : ∀ c ∈ A.al, c ∈ AA ∧ f c = 1
  aR : ∀ c ∈ R.mu, c ∈ AA ∧ f c = 2
  aA3 : ∀ c ∈ A3.al, c ∈ AA ∧ f c = 5
  aO : ol ∈ AA ∧ f ol = 6
  xR : R.x = tl
  aX : tl ∉ AA
  fx : ∀ c o, FX c = some o → c ∉ AA ∧ H c = some o
/-- all that the law has in hand -/
structure Wrld (K : PySem.W.Frag) (FX H : Hp) (AA : List Addr) (f : Addr → Nat) (A : RA) (R : RwA) (A2 : RA) (R2 : RwA) (A3 : RA) (ol tl kp : Addr) (m m2 m3 : M) (hs hs2 : List (Str × Int)) (n : Nat) (os : List V) : Prop extends WB K FX H AA f A R A3 ol tl m m3 hs n os where
  run2 : RunAt K H A2 m2 hs2
  rows2 : RwAt H R2 m2
  ok2 : m2.Ok n
  len2 : hs2.length ≤ n
  low2 : m2.base ≤ m2.top
  aA2 : ∀ c ∈ A2.al, c ∈ AA ∧ f c = 3
  aR2 : ∀ c ∈ R2.mu, c ∈ AA ∧ f c = 4
  xR2 : R2.x = tl
  hk : H kp = some (.lst [.ref A2.p, .ref R2.m])
  aK : kp ∉ AA
section
variable {K : PySem.W.Frag} {FX H H' : Hp} {AA : List Addr} {f : Addr → Nat} {A : RA} {R : RwA} {A2 : RA} {R2 : RwA} {A3 : RA} {ol tl kp : Addr} {m m2 m3 : M} {hs hs2 : List (Str × Int)} {n : Nat} {os : List V}
theorem WB.same (W : WB K FX H AA f A R A3 ol tl m m3 hs n os) (s : Same H H') : WB K FX H' AA f A R A3 ol tl m m3 hs n os :=
  { W with run := W.run.same s, rows := W.rows.same s, run3 := W.run3.same s, ho := s _ _ W.ho, old := W.old.fr (.of s), nt := W.nt.same s, fx := fun c o e => ⟨(W.fx c o e).1, s _ _ (W.fx c o e).2⟩ }
theorem Wrld.same (W : Wrld K FX H AA f A R A2 R2 A3 ol tl kp m m2 m3 hs hs2 n os) (s : Same H H') : Wrld K FX H' AA f A R A2 R2 A3 ol tl kp m m2 m3 hs hs2 n os :=
  { W with run := W.run.same s, rows := W.rows.same s, run2 := W.run2.same s, rows2 := W.rows2.same s, run3 := W.run3.same s, ho := s _ _ W.ho, old := W.old.fr (.of s), nt := W.nt.same s, hk := s _ _ W.hk, fx := fun c o e => ⟨(W.fx c o e).1, s _ _ (W.fx c o e).2⟩ }
theorem hm_off {AA : List Addr} {H : Hp} (c : Addr) (o : HO) (e : hm AA H c = some o) : c ∉ AA ∧ H c = some o := by
  unfold hm at e
  split at e
  · cases e
  · exact ⟨by assumption, e⟩
theorem Wrld.fix (W : Wrld K FX H AA f A R A2 R2 A3 ol tl kp m m2 m3 hs hs2 n os) : Wrld K (hm AA H) H AA f A R A2 R2 A3 ol tl kp m m2 m3 hs hs2 n os := { W with fx := hm_off }
theorem Wrld.ntB (W : Wrld K FX H AA f A R A2 R2 A3 ol tl kp m m2 m3 hs hs2 n os) {B : List Addr} (hB : ∀ c ∈ B, c ∈ AA) : ∀ x ∈ B, ∀ xs, H x ≠ some (.tup xs) := fun x hx xs => (W.nt x (hB x hx) xs).1
theorem Wrld.offR (W : Wrld K FX H AA f A R A2 R2 A3 ol tl kp m m2 m3 hs hs2 n os) {B : List Addr} (hB : ∀ c ∈ B, c ∈ AA ∧ f c ≠ 2) : ∀ x ∈ R.al, x ∉ B := fun x hx mm => by
  rcases RwA.al_or hx with e | h
  · rw [e, W.xR] at mm
    exact W.aX (hB _ mm).1
  · exact (hB _ mm).2 (W.aR x h).2
theorem Wrld.offR2 (W : Wrld K FX H AA f A R A2 R2 A3 ol tl kp m m2 m3 hs hs2 n os) {B : List Addr} (hB : ∀ c ∈ B, c ∈ AA ∧ f c ≠ 4) : ∀ x ∈ R2.al, x ∉ B := fun x hx mm => by
  rcases RwA.al_or hx with e | h
  · rw [e, W.xR2] at mm
    exact W.aX (hB _ mm).1
  · exact (hB _ mm).2 (W.aR2 x h).2
theorem Wrld.offA (W : Wrld K FX H AA f A R A2 R2 A3 ol tl kp m m2 m3 hs hs2 n os) {B : List Addr} (hB : ∀ c ∈ B, f c ≠ 1) : ∀ x ∈ A.al, x ∉ B := fun x hx mm => hB _ mm (W.aA x hx).2
/-- the run's things, the rows' -/
theorem Wrld.bA (W : Wrld K FX H AA f A R A2 R2 A3 ol tl kp m m2 m3 hs hs2 n os) : ∀ c ∈ A.mu', c ∈ AA ∧ f c = 1 := fun c hc => W.aA c (mu_al A c hc)
theorem Wrld.rowsFr (W : Wrld K FX H AA f A R A2 R2 A3 ol tl kp m m2 m3 hs hs2 n os) (g : Fr A.mu' H H') : RwAt H' R m :=
  W.rows.fr g (W.offR fun c hc => ⟨(W.bA c hc).1, by rw [(W.bA c hc).2]; decide⟩) (W.ntB fun c hc => (W.bA c hc).1)
theorem Wrld.runFr (W : Wrld K FX H AA f A R A2 R2 A3 ol tl kp m m2 m3 hs hs2 n os) (g : Fr R.mu H H') : RunAt K H' A m hs :=
  W.run.fr g (W.offA fun c hc => by rw [(W.aR c hc).2]; decide) (W.ntB fun c hc => (W.aR c hc).1)
theorem Wrld.go {m' : M} {hs' : List (Str × Int)} {n' : Nat} {os' : List V} {B : List Addr} (W : Wrld K FX H AA f A R A2 R2 A3 ol tl kp m m2 m3 hs hs2 n os) (g : Fr B H H') (hB : ∀ c ∈ B, c ∈ AA ∧ (f c = 1 ∨ f c = 2 ∨ f c = 6)) (run' : RunAt K H' A m' hs') (rows' : RwAt H' R m') (ok' : m'.Ok n') (len' : hs'.length ≤ n') (low' : m'.base ≤ m'.top) (rw' : m'.r ≤ m'.w) (hn : n ≤ n')
    (ho' : H' ol = some (.lst os')) (old' : OldOk AA H' os') (nt' : NoTup AA H') : Wrld K FX H' AA f A R A2 R2 A3 ol tl kp m' m2 m3 hs' hs2 n' os' where
  run := run'
  rows := rows'
  ok := ok'
  len := len'
  low := low'
  rw := rw'
  run2 := W.run2.fr g (fun x hx mm => by have := (hB x mm).2; rw [(W.aA2 x hx).2] at this; omega) (W.ntB fun c hc => (hB c hc).1)
  rows2 := W.rows2.fr g (W.offR2 fun c hc => ⟨(hB c hc).1, by have := (hB c hc).2; omega⟩) (W.ntB fun c hc => (hB c hc).1)
  ok2 := W.ok2.mono hn
  len2 := Nat.le_trans W.len2 hn
  low2 := W.low2
  run3 := W.run3.fr g (fun x hx mm => by have := (hB x mm).2; rw [(W.aA3 x hx).2] at this; omega) (W.ntB fun c hc => (hB c hc).1)
  ho := ho'
  old := old'
  nt := nt'
  aA := W.aA
  aR := W.aR
  aA2 := W.aA2
  aR2 := W.aR2
  aA3 := W.aA3
  aO := W.aO
  xR := W.xR
  xR2 := W.xR2
  aX := W.aX
  hk := g _ _ (fun mm => W.aK (hB _ mm).1) W.hk
  aK := W.aK
  fx := fun c o e => ⟨(W.fx c o e).1, g _ _ (fun mm => (W.fx c o e).1 (hB _ mm).1) (W.fx c o e).2⟩
/-- a step on both -/
theorem Wrld.both {m' : M} {hs' : List (Str × Int)} (W : Wrld K FX H AA f A R A2 R2 A3 ol tl kp m m2 m3 hs hs2 n os) (g : Fr (A.mu' ++ R.mu) H H') (run' : RunAt K H' A m' hs') (rows' : RwAt H' R m') (ok' : m'.Ok (n + 1)) (len' : hs'.length ≤ n + 1) (low' : m'.base ≤ m'.top) (rw' : m'.r ≤ m'.w) : Wrld K FX H' AA f A R A2 R2 A3 ol tl kp m' m2 m3 hs' hs2 (n + 1) os := by
  have hB : ∀ c ∈ A.mu' ++ R.mu, c ∈ AA ∧ (f c = 1 ∨ f c = 2 ∨ f c = 6) := fun c hc => by
    rcases List.mem_append.mp hc with h | h
    · exact ⟨(W.bA c h).1, .inl (W.bA c h).2⟩
    · exact ⟨(W.aR c h).1, .inr (.inl (W.aR c h).2)⟩
  refine W.go g hB run' rows' ok' len' low' rw' (Nat.le_succ _) (g _ _ (fun mm => ?_) W.ho) (W.old.fr (g.mono fun x hx => (hB x hx).1)) (fun c hc xs => ?_)
  · rcases List.mem_append.mp mm with h | h
    · have := (W.bA _ h).2
      rw [W.aO.2] at this
      omega
    · have := (W.aR _ h).2
      rw [W.aO.2] at this
      omega
  · by_cases e : c ∈ A.mu'
    · exact ⟨run'.nt c (mu_al A c e) xs, run'.live c (mu_al A c e)⟩
    · by_cases e2 : c ∈ R.mu
      · exact ⟨rows'.nt c (R.mu_al c e2) xs, rows'.live c (R.mu_al c e2)⟩
      · cases e4 : H c with
        | none => exact absurd e4 (W.nt c hc []).2
        | some o =>
          rw [g _ _ (fun mm => (List.mem_append.mp mm).elim e e2) e4]
          exact ⟨fun z => (W.nt c hc xs).1 (e4.trans z), by simp⟩
/-- the olds go on -/
theorem Wrld.stood {os' : List V} (W : Wrld K FX H AA f A R A2 R2 A3 ol tl kp m m2 m3 hs hs2 n os) (g : Fr [ol] H H') (ho' : H' ol = some (.lst os')) (old' : OldOk AA H' os') : Wrld K FX H' AA f A R A2 R2 A3 ol tl kp m m2 m3 hs hs2 n os' := by
  have hB : ∀ c ∈ [ol], c ∈ AA ∧ f c = 6 := fun c hc => by rw [List.mem_singleton.mp hc]; exact W.aO
  exact W.go g (fun c hc => ⟨(hB c hc).1, .inr (.inr (hB c hc).2)⟩) (W.run.fr g (W.offA fun c hc => by rw [(hB c hc).2]; decide) (W.ntB fun c hc => (hB c hc).1)) (W.rows.fr g (W.offR fun c hc => ⟨(hB c hc).1, by rw [(hB c hc).2]; decide⟩) (W.ntB fun c hc => (hB c hc).1))
    W.ok W.len W.low W.rw (Nat.le_refl _) ho' old' (W.nt.fr1 g ho')
theorem WB.stood {os' : List V} (W : WB K FX H AA f A R A3 ol tl m m3 hs n os) (g : Fr [ol] H H') (ho' : H' ol = some (.lst os')) (old' : OldOk AA H' os') : WB K FX H' AA f A R A3 ol tl m m3 hs n os' := by
  have ntB : ∀ x ∈ [ol], ∀ xs, H x ≠ some (.tup xs) := fun x hx xs => by rw [List.mem_singleton.mp hx, W.ho]; simp
  have offA : ∀ x ∈ A.al, x ∉ [ol] := fun x hx mm => by
    rw [List.mem_singleton.mp mm] at hx
    have := (W.aA ol hx).2
    rw [W.aO.2] at this
    omega
  have offA3 : ∀ x ∈ A3.al, x ∉ [ol] := fun x hx mm => by
    rw [List.mem_singleton.mp mm] at hx
    have := (W.aA3 ol hx).2
    rw [W.aO.2] at this
    omega
  have offR : ∀ x ∈ R.al, x ∉ [ol] := fun x hx mm => by
    rw [List.mem_singleton.mp mm] at hx
    rcases RwA.al_or hx with e | h
    · exact W.aX (by rw [← W.xR, ← e]; exact W.aO.1)
    · have := (W.aR ol h).2
      rw [W.aO.2] at this
      omega
  exact { W with run := W.run.fr g offA ntB, rows := W.rows.fr g offR ntB, run3 := W.run3.fr g offA3 ntB, ho := ho', old := old', nt := W.nt.fr1 g ho', fx := fun c o e => ⟨(W.fx c o e).1, g _ _ (fun mm => (W.fx c o e).1 (by rw [List.mem_singleton.mp mm]; exact W.aO.1)) (W.fx c o e).2⟩ }
theorem WB.stands {way : Int} {Q : VK} {E : XK} (W : WB K FX H AA f A R A3 ol tl m m3 hs n os) (w0 : 0 ≤ way) (w7 : way < 7) (hn : n < 90000) (hos : os.length < 100000) (q : ∀ H' os', Fr [ol] H H' → H' ol = some (.lst os') → OldOk AA H' os' → os'.length ≤ os.length + 8 → Q (.bl true) H') : sp__law_stands K [.ref A.p, .ref R.m, .ref ol, .int way] H Q E := by
  refine ⟨AA, A, R, m, n, ol, os, way, rfl, W.run.c, W.rows, W.ok, hn, w0, w7, W.ho, W.old, hos, W.nt, W.aO.1, fun h => ?_, fun h => ?_, q⟩
  · have := (W.aA ol h).2
    rw [W.aO.2] at this
    omega
  · rcases RwA.al_or h with e | h
    · exact W.aX (by rw [← W.xR, ← e]; exact W.aO.1)
    · have := (W.aR ol h).2
      rw [W.aO.2] at this
      omega
/-- the run is left for a copy -/
theorem Wrld.copy {A' : RA} (W : Wrld K FX H AA f A R A2 R2 A3 ol tl kp m m2 m3 hs hs2 n os) (s : Same H H') (fr : ∀ c ∈ A'.al, H c = none) (r : RunAt K H' A' m hs) : Wrld K FX H' (A'.al ++ AA) (fun c => if c ∈ A'.al then 1 else f c) A' R A2 R2 A3 ol tl kp m m2 m3 hs hs2 n os := by
  have old' : ∀ {X : Addr → Prop} {k : Nat}, (∀ c, X c → c ∈ AA ∧ f c = k) → ∀ c, X c → c ∈ A'.al ++ AA ∧ (if c ∈ A'.al then 1 else f c) = k := fun h c hc => by
    have h1 := h c hc
    refine ⟨List.mem_append_right _ h1.1, ?_⟩
    rw [if_neg (fun m => (W.nt c h1.1 []).2 (fr c m))]
    exact h1.2
  have out : ∀ {c o}, H c = some o → c ∉ AA → c ∉ A'.al ++ AA := fun e n m => (List.mem_append.mp m).elim (fun h => by rw [fr _ h] at e; cases e) n
  have W2 := W.same s
  have htl : H tl = some (.lst (m.tx.map V.str)) := by rw [← W.xR]; exact W.rows.tx
  exact { W2 with
    run := r
    old := (W.old.grow fr).fr (.of s)
    nt := fun c hc xs => by
      rcases List.mem_append.mp hc with h | h
      · exact ⟨r.nt c h xs, r.live c h⟩
      · exact W2.nt c h xs
    aA := fun c hc => ⟨List.mem_append_left _ hc, if_pos hc⟩
    aR := old' W.aR
    aA2 := old' W.aA2
    aR2 := old' W.aR2
    aA3 := old' W.aA3
    aO := old' (X := fun c => c = ol) (k := 6) (fun c e => by rw [e]; exact W.aO) ol rfl
    aX := out htl W.aX
    aK := out W.hk W.aK
    fx := fun c o e => ⟨out (W.fx c o e).2 (W.fx c o e).1, (W2.fx c o e).2⟩ }
/-- another copy is kept -/
theorem WB.keep {A' : RA} {R' : RwA} {kp' : Addr} {H1 H2 : Hp} (W : WB K FX H AA f A R A3 ol tl m m3 hs n os) (s1 : Same H H1) (fr1 : ∀ c ∈ A'.al, H c = none) (r : RunAt K H1 A' m hs) (s2 : Same H1 H2) (fr2 : ∀ c ∈ R'.mu, H1 c = none) (ex : R'.x = R.x) (t : RwAt H2 R' m) (nk : H2 kp' = none) (hk : H' = upd H2 kp' (.lst [.ref A'.p, .ref R'.m])) :
    Wrld K FX H' (R'.mu ++ (A'.al ++ AA)) (fun c => if c ∈ R'.mu then 4 else if c ∈ A'.al then 3 else f c) A R A' R' A3 ol tl kp' m m m3 hs hs n os := by
  have s3 : Same H2 H' := by rw [hk]; exact same_new nk
  have s13 := s2.trans s3
  have s := s1.trans s13
  have fr2' : ∀ c ∈ R'.mu, H c = none := fun c hc => s1.free (fr2 c hc)
  have nRA : ∀ c ∈ A'.al, c ∉ R'.mu := fun c hc m => r.live c hc (fr2 c m)
  have old' : ∀ {X : Addr → Prop} {k : Nat}, (∀ c, X c → c ∈ AA ∧ f c = k) → ∀ c, X c → c ∈ R'.mu ++ (A'.al ++ AA) ∧ (if c ∈ R'.mu then 4 else if c ∈ A'.al then 3 else f c) = k := fun h c hc => by
    have h1 := h c hc
    refine ⟨List.mem_append_right _ (List.mem_append_right _ h1.1), ?_⟩
    rw [if_neg (fun m => (W.nt c h1.1 []).2 (fr2' c m)), if_neg (fun m => (W.nt c h1.1 []).2 (fr1 c m))]
    exact h1.2
  have out : ∀ {c o}, H c = some o → c ∉ AA → c ∉ R'.mu ++ (A'.al ++ AA) := fun e n m => (List.mem_append.mp m).elim (fun h => by rw [fr2' _ h] at e; cases e) fun m => (List.mem_append.mp m).elim (fun h => by rw [fr1 _ h] at e; cases e) n
  have W2 := W.same s
  have rr := r.same s13
  have tt := t.same s3
  have htl : H tl = some (.lst (m.tx.map V.str)) := by rw [← W.xR]; exact W.rows.tx
  have nt' : NoTup (R'.mu ++ (A'.al ++ AA)) H' := fun c hc xs => by
    rcases List.mem_append.mp hc with h | h
    · exact ⟨tt.nt c (R'.mu_al c h) xs, tt.live c (R'.mu_al c h)⟩
    · rcases List.mem_append.mp h with h | h
      · exact ⟨rr.nt c h xs, rr.live c h⟩
      · exact W2.nt c h xs
  exact { W2 with
    run2 := rr
    rows2 := tt
    ok2 := W.ok
    len2 := W.len
    low2 := W.low
    old := ((W.old.grow fr1).grow (X := R'.mu) fr2').fr (.of s)
    nt := nt'
    aA := old' W.aA
    aR := old' W.aR
    aA2 := fun c hc => ⟨List.mem_append_right _ (List.mem_append_left _ hc), by rw [if_neg (nRA c hc), if_pos hc]⟩
    aR2 := fun c hc => ⟨List.mem_append_left _ hc, if_pos hc⟩
    aA3 := old' W.aA3
    aO := old' (X := fun c => c = ol) (k := 6) (fun c e => by rw [e]; exact W.aO) ol rfl
    xR2 := ex.trans W.xR
    aX := out htl W.aX
    hk := by rw [hk]; exact upd_same
    aK := fun m => by
      have live2 : ∀ c ∈ R'.mu ++ (A'.al ++ AA), H2 c ≠ none := fun c hc e => by
        rcases List.mem_append.mp hc with h | h
        · exact t.live c (R'.mu_al c h) e
        · rcases List.mem_append.mp h with h | h
          · exact (r.same s2).live c h e
          · exact ((W.nt.same (s1.trans s2)) c h []).2 e
      exact live2 _ m nk
    fx := fun c o e => ⟨out (W.fx c o e).2 (W.fx c o e).1, (W2.fx c o e).2⟩ }
theorem WB.kept {N : Addr → Hp → Prop} {E1 E2 : XK} (W : WB K FX H AA f A R A3 ol tl m m3 hs n os) (hn : n < 80000) (q : ∀ p H' AA' f' A2 R2, Wrld K FX H' AA' f' A R A2 R2 A3 ol tl p m m m3 hs hs n os → Same H H' → H p = none → N p H') :
    sp_Run_copied K [.ref A.p] H (fun x H1 => sp__law_twin K [.ref R.m] H1 (fun y H2 => ∀ p, H2 p = none → N p (upd H2 p (.lst [x, y]))) E2) E1 := by
  refine ⟨A, m, hs, n, rfl, W.run, W.ok, W.rw, by have := W.len; omega, fun A' H1 s1 fr1 r1 => ?_⟩
  refine ⟨R, m, rfl, W.rows.same s1, fun R' H2 eb ex fr2 s2 t2 => ?_⟩
  intro p np
  exact q p _ _ _ A' R' (W.keep s1 fr1 r1 s2 fr2 ex t2 np rfl) ((s1.trans s2).trans (same_new np)) (s1.free (s2.free np))
theorem Wrld.mono {n' : Nat} (W : Wrld K FX H AA f A R A2 R2 A3 ol tl kp m m2 m3 hs hs2 n os) (h : n ≤ n') : Wrld K FX H AA f A R A2 R2 A3 ol tl kp m m2 m3 hs hs2 n' os :=
  { W with ok := W.ok.mono h, len := Nat.le_trans W.len h, ok2 := W.ok2.mono h, len2 := Nat.le_trans W.len2 h }
theorem Wrld.refix {FX' : Hp} (W : Wrld K FX H AA f A R A2 R2 A3 ol tl kp m m2 m3 hs hs2 n os) (h : Same FX' FX) : Wrld K FX' H AA f A R A2 R2 A3 ol tl kp m m2 m3 hs hs2 n os :=
  { W with fx := fun c o e => W.fx c o (h c o e) }
theorem Wrld.base (W : Wrld K FX H AA f A R A2 R2 A3 ol tl kp m m2 m3 hs hs2 n os) : Same FX H := fun c o e => (W.fx c o e).2
theorem Wrld.inHm (W : Wrld K FX H AA f A R A2 R2 A3 ol tl kp m m2 m3 hs hs2 n os) : Same FX (hm AA H) := fun c o e => by
  rw [hm_in (W.fx c o e).1]
  exact (W.fx c o e).2
/-- what is told of a step, by either -/
def Ans (H : Hp) (q : Addr) (d : List V) : Prop := H q = some (.tup d) ∧ ((∃ t : Int, d = [.str "told", .int t]) ∨ d = [.str "refused", .str "now"] ∨ d = [.str "refused", .str "letter"])
theorem Ans.same {q : Addr} {d : List V} (h : Ans H q d) (s : Same H H') : Ans H' q d := ⟨s _ _ h.1, h.2⟩
theorem Ans.dat {q : Addr} {d : List V} (h : Ans H q d) : ∃ e, RP.dat H 8 (.ref q) = some e ∧ SeqAt.shaped e = true ∧ PyData.eqv e e = true ∧ ∀ H' q', Ans H' q' d → RP.dat H' 8 (.ref q') = some e := by
  obtain ⟨h1, h2⟩ := h
  rcases h2 with ⟨t, rfl⟩ | rfl | rfl
  · refine ⟨.tuple [.str "told", .int t], ?_, ?_, ?_, fun H' q' h' => ?_⟩
    · rw [dat_tup h1 7]
      simp only [mapO, (datE H).2.2.1, (datE H).2.2.2.1, Option.map_some]
    · exact ((shp_tuple (n := 0) fun d hd => by
        simp only [List.mem_cons, List.not_mem_nil, or_false] at hd
        rcases hd with rfl | rfl
        · exact (shp_s 0).2.2.2 _ (by decide +kernel)
        · exact (shp_s 0).2.2.1 _ : Shp 1 (.tuple [.str "told", .int t])).mono (by decide)).ok
    · exact eqv_self ((shp_tuple (n := 0) fun d hd => by
        simp only [List.mem_cons, List.not_mem_nil, or_false] at hd
        rcases hd with rfl | rfl
        · exact (shp_s 0).2.2.2 _ (by decide +kernel)
        · exact (shp_s 0).2.2.1 _ : Shp 1 (.tuple [.str "told", .int t])).lay)
    · rw [dat_tup h'.1 7]
      simp only [mapO, (datE H').2.2.1, (datE H').2.2.2.1, Option.map_some]
  · refine ⟨.tuple [.str "refused", .str "now"], ?_, by decide +kernel, eqv_self (by decide +kernel), fun H' q' h' => ?_⟩
    · rw [dat_tup h1 7]
      simp only [mapO, (datE H).2.2.2.1, Option.map_some]
    · rw [dat_tup h'.1 7]
      simp only [mapO, (datE H').2.2.2.1, Option.map_some]
  · refine ⟨.tuple [.str "refused", .str "letter"], ?_, by decide +kernel, eqv_self (by decide +kernel), fun H' q' h' => ?_⟩
    · rw [dat_tup h1 7]
      simp only [mapO, (datE H).2.2.2.1, Option.map_some]
    · rw [dat_tup h'.1 7]
      simp only [mapO, (datE H').2.2.2.1, Option.map_some]
theorem refW_or (z : Str) : refW z = "now" ∨ refW z = "letter" := by
  unfold refW
  split
  · exact .inl rfl
  · exact .inr rfl
end
end RP

namespace RP
open PySem PySem.Spec PyProof.Rows L2 L2H
abbrev s_law : Stmt := top 59
abbrev N_law : List Str := ["_law_script", "_law_bounds_here", "_law_window", "_law_room", "_law_delay", "_law_back", "_law_ring", "_law_texts_here", "_law_m", "_law_handed", "_law_run", "_law_other", "_law_olds", "_law_kept", "_law_step", "_law_cell", "_law_due", "_law_found", "_law_old"]
theorem sc_law : FnScope N_law ["_law_script"] (defScope s_law) := ⟨rfl, rfl, rfl, by decide +kernel, rfl, by decide +kernel, by decide +kernel⟩
def sp_law (K : PySem.W.Frag) : Sp := fun vs H Q E => ∃ (a : Addr) (ns : List Int), vs = [.ref a] ∧ SqL K H a (ns.map V.int) ∧ ∀ H', Q (.bl true) H'
theorem ok_law {P : Program} {w : World} {K : PySem.W.Frag} {mg : Str → Option Value} {base : Heap} {f0 : Addr} {fd : FuncData} (F : FunD K "law" "law" (defArgs s_law) (defBody s_law) (defScope s_law) [] [] f0 fd) (bl : Blt mg) (hRun : RunF K) (m_Run_copied : MCal P w K mg base 6 (He.ga K "Run") "copied" (sp_Run_copied K)) (m_Run_counts : MCal P w K mg base 2 (He.ga K "Run") "counts" (sp_Run_counts K)) (c_Run : KCal P w K mg base 4 "Run" (He.ga K "Run") (sp_Run_init K)) (m_Run_letters : MCal P w K mg base 3 (He.ga K "Run") "letters" (sp_Run_letters K)) (m_Run_out : MCal P w K mg base 2 (He.ga K "Run") "out" (sp_Run_out K)) (c__law_at : ∀ (a : Addr) (ns : List Int), Cal P w K mg base 1 "_law_at" (sp__law_at K a ns)) (c__law_begun : Cal P w K mg base 1 "_law_begun" (sp__law_begun K)) (c__law_bounds : ∀ (a : Addr) (ns : List Int), Cal P w K mg base 2 "_law_bounds" (sp__law_bounds K a ns)) (c__law_drawn : Cal P w K mg base 1 "_law_drawn" (sp__law_drawn K)) (c__law_first : ∀ (a : Addr) (ns : List Int), Cal P w K mg base 6 "_law_first" (sp__law_first K a ns)) (c__law_kept_stands : Cal P w K mg base 6 "_law_kept_stands" (sp__law_kept_stands K)) (c__law_mixed : Cal P w K mg base 1 "_law_mixed" (sp__law_mixed K)) (c__law_moved : Cal P w K mg base 3 "_law_moved" (sp__law_moved K)) (c__law_said : Cal P w K mg base 5 "_law_said" (sp__law_said K)) (c__law_stands : Cal P w K mg base 5 "_law_stands" (sp__law_stands K)) (c__law_texts : Cal P w K mg base 2 "_law_texts" (sp__law_texts K)) (c__law_twin : Cal P w K mg base 1 "_law_twin" (sp__law_twin K)) (c__law_whole : Cal P w K mg base 1 "_law_whole" (sp__law_whole K)) : FnOk P w K mg base (L2N.CX P w) 7 f0 fd ["_law_script"] (sp_law K) := by
  refine fn_law F sc_law (fun vs H Q E => by walk_at "len") (fun f cdv A outer s H vs Q E hr h => ?_)
  have hu := hu_of hr
  obtain ⟨a, ns, rfl, hS, q⟩ := h
  refine ⟨_, (pss_cons (ps_set (i := 1) sc_law.nd rfl (Or.inl rfl) (pe_fn (c__law_bounds a ns) (hr.mono (by decide)) (L2N.takes_of rfl rfl rfl rfl) (pa_cons (pv 0) pa_nil)))
  (pss_cons (ps_asg (pv 1) (pg_tupC (n := 4) rfl (pgs_cons (pg_name (i := 2) sc_law.nd rfl (Or.inl rfl)) (pgs_cons (pg_name (i := 3) sc_law.nd rfl (Or.inl rfl)) (pgs_cons (pg_name (i := 4) sc_law.nd rfl (Or.inl rfl)) (pgs_cons (pg_name (i := 5) sc_law.nd rfl (Or.inl rfl)) pgs_nil))))))
  (pss_cons (ps_set (i := 6) sc_law.nd rfl (Or.inl rfl) (pe_op op_add pe_int (pe_op op_mod (pe_fn c__law_mixed (hr.mono (by decide)) (L2N.takes_of rfl rfl rfl rfl) (pa_cons (pe_fn (c__law_at a ns) (hr.mono (by decide)) (L2N.takes_of rfl rfl rfl rfl) (pa_cons (pv 0) (pa_cons pe_int pa_nil))) (pa_cons pe_int pa_nil))) (pe_op op_add (pe_op op_add (pe_op op_add (pv 2) (pv 3)) (pe_callB (call_max2 rfl) (by rfl) (bl.max) (by decide +kernel) (pa_cons (pv 4) (pa_cons (pv 5) pa_nil)))) pe_int))))
  (pss_cons (ps_set (i := 7) sc_law.nd rfl (Or.inl rfl) (pe_fn c__law_texts (hr.mono (by decide)) (L2N.takes_of rfl rfl rfl rfl) (pa_cons (pe_fn (c__law_at a ns) (hr.mono (by decide)) (L2N.takes_of rfl rfl rfl rfl) (pa_cons (pv 0) (pa_cons pe_int pa_nil))) (pa_cons (pe_op op_mul pe_int (pe_op op_mod (pe_fn (c__law_at a ns) (hr.mono (by decide)) (L2N.takes_of rfl rfl rfl rfl) (pa_cons (pv 0) (pa_cons pe_int pa_nil))) pe_int)) (pa_cons (pe_op op_add pe_int (pe_op op_mod (pe_op op_fdiv (pe_fn (c__law_at a ns) (hr.mono (by decide)) (L2N.takes_of rfl rfl rfl rfl) (pa_cons (pv 0) (pa_cons pe_int pa_nil))) pe_int) pe_int)) pa_nil)))))
  (pss_cons (ps_set (i := 8) sc_law.nd rfl (Or.inl rfl) (pe_fn c__law_begun (hr.mono (by decide)) (L2N.takes_of rfl rfl rfl rfl) (pa_cons (pv 1) (pa_cons (pv 6) (pa_cons (pv 7) pa_nil)))))
  (pss_cons (ps_set (i := 9) sc_law.nd rfl (Or.inl rfl) (pe_callTy call_listC (by rfl) (bl.list) (by decide +kernel) (pa_cons (pv 7) pa_nil)))
  (pss_cons (ps_set (i := 10) sc_law.nd rfl (Or.inl rfl) (pe_mk c_Run (hr.mono (by decide)) (L2N.takes_of rfl rfl rfl rfl) (pa_cons (pv 1) (pa_cons (pv 6) (pa_cons (pv 9) pa_nil)))))
  (pss_cons (ps_expr (pe_bm0 PySem.F.plainAttrs_list PySem.F.slot_list_reverse PySem.F.type_list_reverse mt_reverse (pv 9)))
  (pss_cons (ps_expr (pe_app (pv 9) pe_str))
  (pss_cons (ps_set (i := 11) sc_law.nd rfl (Or.inl rfl) (pe_mk c_Run (hr.mono (by decide)) (L2N.takes_of rfl rfl rfl rfl) (pa_cons (pv 1) (pa_cons (pv 6) (pa_cons (pv 7) pa_nil)))))
  (pss_cons (ps_set (i := 12) sc_law.nd rfl (Or.inl rfl) (pe_lst pa_nil))
  (pss_cons (ps_if (pt_not (pt_val (pe_fn c__law_stands (hr.mono (by decide)) (L2N.takes_of rfl rfl rfl rfl) (pa_cons (pv 10) (pa_cons (pv 8) (pa_cons (pv 12) (pa_cons pe_int pa_nil)))))))
  (pss_one (ps_ret pe_bl))
  pss_nil)
  (pss_cons (ps_set (i := 13) sc_law.nd rfl (Or.inl rfl) (pe_lst (pa_cons (pe_mth0 (pv 10) m_Run_copied (hr.mono (by decide)) (L2N.takes_of rfl rfl rfl rfl)) (pa_cons (pe_fn c__law_twin (hr.mono (by decide)) (L2N.takes_of rfl rfl rfl rfl) (pa_cons (pv 8) pa_nil)) pa_nil))))
  (pss_cons (ps_for (passes_of rfl) rfl (pi_list (pe_fn (c__law_first a ns) (hr.mono (by decide)) (L2N.takes_of rfl rfl rfl rfl) (pa_cons (pv 0) (pa_cons (pv 1) (pa_cons (pv 6) (pa_cons (pv 7) pa_nil)))))) (pg_name (i := 14) sc_law.nd rfl (Or.inl rfl))
  (pss_one (ps_if (PW.pt (pw_or (pt_cmpR (op_neC hr.units) (pe_fn c__law_said (hr.mono (by decide)) (L2N.takes_of rfl rfl rfl rfl) (pa_cons (pv 10) (pa_cons (pv 14) pa_nil))) (pe_fn c__law_moved (hr.mono (by decide)) (L2N.takes_of rfl rfl rfl rfl) (pa_cons (pv 8) (pa_cons (pv 14) pa_nil))) (nomark _)) (pw_or1 (pt_not (pt_val (pe_fn c__law_stands (hr.mono (by decide)) (L2N.takes_of rfl rfl rfl rfl) (pa_cons (pv 10) (pa_cons (pv 8) (pa_cons (pv 12) (pa_cons (pe_op op_mod (pe_ix ix_C (pv 14) pe_int (fun _ _ => rfl)) pe_int) pa_nil))))))))))
  (pss_one (ps_ret pe_bl))
  pss_nil)))
  (pss_cons (ps_for (passes_of rfl) rfl (pi_list (pe_slice sl_list (pv 0) (po_some pe_int) (po_some pe_int))) (pg_name (i := 15) sc_law.nd rfl (Or.inl rfl))
  (pss_cons (ps_if (pt_cmpR op_eq (pe_op op_mod (pe_op op_fdiv (pv 15) pe_int) pe_int) pe_int (nomark _))
  (pss_one (ps_set (i := 10) sc_law.nd rfl (Or.inl rfl) (pe_mth0 (pv 10) m_Run_copied (hr.mono (by decide)) (L2N.takes_of rfl rfl rfl rfl))))
  pss_nil)
  (pss_cons (ps_if (pt_cmpR op_gt (pe_op op_mod (pe_op op_fdiv (pv 15) pe_int) pe_int) pe_int (nomark _))
  (pss_one (ps_set (i := 13) sc_law.nd rfl (Or.inl rfl) (pe_lst (pa_cons (pe_mth0 (pv 10) m_Run_copied (hr.mono (by decide)) (L2N.takes_of rfl rfl rfl rfl)) (pa_cons (pe_fn c__law_twin (hr.mono (by decide)) (L2N.takes_of rfl rfl rfl rfl) (pa_cons (pv 8) pa_nil)) pa_nil)))))
  pss_nil)
  (pss_cons (ps_set (i := 14) sc_law.nd rfl (Or.inl rfl) (pe_fn c__law_drawn (hr.mono (by decide)) (L2N.takes_of rfl rfl rfl rfl) (pa_cons (pv 8) (pa_cons (pv 15) pa_nil))))
  (pss_cons (ps_set (i := 16) sc_law.nd rfl (Or.inl rfl) (pe_fn c__law_moved (hr.mono (by decide)) (L2N.takes_of rfl rfl rfl rfl) (pa_cons (pv 8) (pa_cons (pv 14) pa_nil))))
  (pss_cons (ps_set (i := 17) sc_law.nd rfl (Or.inl rfl) (pe_fn c__law_said (hr.mono (by decide)) (L2N.takes_of rfl rfl rfl rfl) (pa_cons (pv 10) (pa_cons (pv 14) pa_nil))))
  (pss_cons (ps_if (PW.pt (pw_or (pt_cmpR (op_neC hr.units) (pv 17) (pv 16) (nomark _)) (pw_or1 (pt_not (pt_val (pe_fn c__law_stands (hr.mono (by decide)) (L2N.takes_of rfl rfl rfl rfl) (pa_cons (pv 10) (pa_cons (pv 8) (pa_cons (pv 12) (pa_cons (pe_op op_mod (pe_op op_fdiv (pv 15) pe_int) pe_int) pa_nil))))))))))
  (pss_one (ps_ret pe_bl))
  pss_nil)
  (pss_one (ps_if (PW.pt (pw_and (pt_cmpR op_eq (pe_ix ix_C (pv 17) pe_int (fun _ _ => rfl)) pe_str (nomark _)) (pw_and1 (pt_not (pt_val (pe_fn c__law_whole (hr.mono (by decide)) (L2N.takes_of rfl rfl rfl rfl) (pa_cons (pe_ix ix_C (pv 17) pe_int (fun _ _ => rfl)) pa_nil)))))))
  (pss_one (ps_ret pe_bl))
  pss_nil)))))))))
  (pss_cons (ps_if (PW.pt (pw_or (pt_not (pt_val (pe_fn c__law_kept_stands (hr.mono (by decide)) (L2N.takes_of rfl rfl rfl rfl) (pa_cons (pe_ix ix_C (pv 13) pe_int (fun _ _ => rfl)) (pa_cons (pe_ix ix_C (pv 13) pe_int (fun _ _ => rfl)) (pa_cons (pv 12) pa_nil)))))) (pw_or1 (pt_not (pt_val (pe_fn c__law_stands (hr.mono (by decide)) (L2N.takes_of rfl rfl rfl rfl) (pa_cons (pv 10) (pa_cons (pv 8) (pa_cons (pv 12) (pa_cons pe_int pa_nil))))))))))
  (pss_one (ps_ret pe_bl))
  pss_nil)
  (pss_cons (ps_for (passes_of rfl) rfl (pi_list (pv 12)) (pg_tupC (n := 2) rfl (pgs_cons (pg_name (i := 18) sc_law.nd rfl (Or.inl rfl)) (pgs_cons (pg_name (i := 16) sc_law.nd rfl (Or.inl rfl)) pgs_nil)))
  (pss_one (ps_if (pt_cmpR (op_neC hr.units) (pv 18) (pv 16) (nomark _))
  (pss_one (ps_ret pe_bl))
  pss_nil)))
  (pss_one (ps_ret (pe_and (pe_cmp (pc_eqT hr.units (pe_mth0 (pv 11) m_Run_counts (hr.mono (by decide)) (L2N.takes_of rfl rfl rfl rfl)) (pa_cons pe_int (pa_cons pe_int (pa_cons pe_int pa_nil))))) (pe_and (pe_cmpR (op_eqC hr.units) (pe_mth0 (pv 11) m_Run_letters (hr.mono (by decide)) (L2N.takes_of rfl rfl rfl rfl)) (pe_lst pa_nil) (nomark _)) (pe_one (pe_cmpR (op_eqC hr.units) (pe_mth0 (pv 11) m_Run_out (hr.mono (by decide)) (L2N.takes_of rfl rfl rfl rfl)) (pe_lst pa_nil) (nomark _)))))))))))))))))))))))), ?_⟩
  walk_at "st0"
  refine seq_gen fun N_a h_a => ?_
  simp only [RDa, RDb, RDv, RDk, RDx, RDe, RDd, RDp, RDq, List.getElem?_cons_zero, List.getElem?_cons_succ, List.set_cons_zero, List.set_cons_succ, List.cons.injEq, List.cons_ne_nil, reduceCtorEq, exists_eq_left', exists_eq_left, exists_and_left, and_assoc, exists_const, true_and, and_true, if_true, if_false, false_and, and_false, exists_false, false_or, or_false, true_implies, false_implies, implies_true, forall_eq, forall_eq', Bool.false_eq_true, if_neg, decide_eq_true_eq, Bool.not_eq_true', decide_eq_false_iff_not, Bool.not_true, Bool.not_false, List.length_cons, List.length_nil, sizeLine_eq, Nat.reduceAdd, Nat.reduceLeDiff, Nat.reduceLT, Int.reduceLT, Int.reduceLE, Int.emod_nonneg, ne_eq, Int.reduceEq, not_false_eq_true, not_true_eq_false]
  refine ⟨rfl, hS, fun t H1 nt s1 ht => h_a _ _ ?_⟩
  clear h_a
  have ok := lb_ok (one := mixed (cell ns 0) 0) (two := mixed (cell ns 1) 1)
  generalize lbW (mixed (cell ns 0) 0) = w0 at ht ok
  generalize lbR (mixed (cell ns 0) 0) = r0 at ht ok
  generalize lbD (mixed (cell ns 1) 1) = d0 at ht ok
  generalize lbB (mixed (cell ns 1) 1) = b0 at ht ok
  have bk := boundsV_of ht ok
  have hx := (mx2_le (c := mx2 d0 b0)).mp (Int.le_refl _)
  have hx2 : mx2 d0 b0 ≤ 20 := mx2_le.mpr ⟨by omega, by omega⟩
  have em : ∀ i j : Int, (if j > i then j else i) = mx2 i j := fun _ _ => rfl
  refine seq_gen fun N_b h_b => ?_
  simp only [RDa, RDb, RDv, RDk, RDx, RDe, RDd, RDp, RDq, List.getElem?_cons_zero, List.getElem?_cons_succ, List.set_cons_zero, List.set_cons_succ, List.cons.injEq, List.cons_ne_nil, reduceCtorEq, exists_eq_left', exists_eq_left, exists_and_left, and_assoc, exists_const, true_and, and_true, if_true, if_false, false_and, and_false, exists_false, false_or, or_false, true_implies, false_implies, implies_true, forall_eq, forall_eq', Bool.false_eq_true, if_neg, decide_eq_true_eq, Bool.not_eq_true', decide_eq_false_iff_not, Bool.not_true, Bool.not_false, List.length_cons, List.length_nil, sizeLine_eq, Nat.reduceAdd, Nat.reduceLeDiff, Nat.reduceLT, Int.reduceLT, Int.reduceLE, Int.emod_nonneg, ne_eq, Int.reduceEq, not_false_eq_true, not_true_eq_false, ht]
  refine h_b _ _ ?_
  clear h_b
  refine seq_gen fun N_c h_c => ?_
  simp only [RDa, RDb, RDv, RDk, RDx, RDe, RDd, RDp, RDq, List.getElem?_cons_zero, List.getElem?_cons_succ, List.set_cons_zero, List.set_cons_succ, List.cons.injEq, List.cons_ne_nil, reduceCtorEq, exists_eq_left', exists_eq_left, exists_and_left, and_assoc, exists_const, true_and, and_true, if_true, if_false, false_and, and_false, exists_false, false_or, or_false, true_implies, false_implies, implies_true, forall_eq, forall_eq', Bool.false_eq_true, if_neg, decide_eq_true_eq, Bool.not_eq_true', decide_eq_false_iff_not, Bool.not_true, Bool.not_false, List.length_cons, List.length_nil, sizeLine_eq, Nat.reduceAdd, Nat.reduceLeDiff, Nat.reduceLT, Int.reduceLT, Int.reduceLE, Int.emod_nonneg, ne_eq, Int.reduceEq, not_false_eq_true, not_true_eq_false, sp__law_at, sp__law_mixed, s1.seq hS, em]
  have hg := md_rng (mixed (cell ns 2) 2) (show (0 : Int) < w0 + r0 + mx2 d0 b0 + 3 by omega)
  obtain ⟨g, eg⟩ : ∃ g, g = 1 + mixed (cell ns 2) 2 % (w0 + r0 + mx2 d0 b0 + 3) := ⟨_, rfl⟩
  rw [← eg]
  have g1 : 1 ≤ g := by omega
  have g2 : g ≤ 200 := by omega
  clear eg hg
  refine ⟨by omega, h_c _ _ ?_⟩
  clear h_c
  refine seq_gen fun N_d h_d => ?_
  simp only [RDa, RDb, RDv, RDk, RDx, RDe, RDd, RDp, RDq, List.getElem?_cons_zero, List.getElem?_cons_succ, List.set_cons_zero, List.set_cons_succ, List.cons.injEq, List.cons_ne_nil, reduceCtorEq, exists_eq_left', exists_eq_left, exists_and_left, and_assoc, exists_const, true_and, and_true, if_true, if_false, false_and, and_false, exists_false, false_or, or_false, true_implies, false_implies, implies_true, forall_eq, forall_eq', Bool.false_eq_true, if_neg, decide_eq_true_eq, Bool.not_eq_true', decide_eq_false_iff_not, Bool.not_true, Bool.not_false, List.length_cons, List.length_nil, sizeLine_eq, Nat.reduceAdd, Nat.reduceLeDiff, Nat.reduceLT, Int.reduceLT, Int.reduceLE, Int.emod_nonneg, ne_eq, Int.reduceEq, not_false_eq_true, not_true_eq_false, sp__law_at, s1.seq hS]
  have hmany := md_rng (cell ns 4) (show (0 : Int) < 21 by decide)
  have hsort := md_rng (cell ns 4 / 21) (show (0 : Int) < 21 by decide)
  refine ⟨.inl ⟨by decide, by decide⟩, _, _, _, rfl, by omega, by omega, by omega, by omega, fun tl H2 ntl s2 htl => h_d _ _ ?_⟩
  clear h_d
  have hlen : (lawTexts (mixed (cell ns 3) 5) (1 + cell ns 4 / 21 % 21) (2 * (cell ns 4 % 21)).toNat).length ≤ 400 := by
    unfold lawTexts
    rw [List.length_map, List.length_range]
    omega
  have htz : ∀ x ∈ lawTexts (mixed (cell ns 3) 5) (1 + cell ns 4 / 21 % 21) (2 * (cell ns 4 % 21)).toNat, TxtOk 40 x := fun x hx => by
    obtain ⟨k, _, rfl⟩ := List.mem_map.mp hx
    exact lawTxt_40 (by omega) (by omega) k
  generalize lawTexts (mixed (cell ns 3) 5) (1 + cell ns 4 / 21 % 21) (2 * (cell ns 4 % 21)).toNat = tx at htl hlen htz
  have ht2 := s2 _ _ ht
  have s02 := s1.trans s2
  refine seq_gen fun N_e h_e => ?_
  simp only [RDa, RDb, RDv, RDk, RDx, RDe, RDd, RDp, RDq, List.getElem?_cons_zero, List.getElem?_cons_succ, List.set_cons_zero, List.set_cons_succ, List.cons.injEq, List.cons_ne_nil, reduceCtorEq, exists_eq_left', exists_eq_left, exists_and_left, and_assoc, exists_const, true_and, and_true, if_true, if_false, false_and, and_false, exists_false, false_or, or_false, true_implies, false_implies, implies_true, forall_eq, forall_eq', Bool.false_eq_true, if_neg, decide_eq_true_eq, Bool.not_eq_true', decide_eq_false_iff_not, Bool.not_true, Bool.not_false, List.length_cons, List.length_nil, sizeLine_eq, Nat.reduceAdd, Nat.reduceLeDiff, Nat.reduceLT, Int.reduceLT, Int.reduceLE, Int.emod_nonneg, ne_eq, Int.reduceEq, not_false_eq_true, not_true_eq_false]
  refine ⟨t, tl, w0, r0, d0, b0, g, tx, rfl, ht2, htl, fun R H3 eRb eRx frR s3 t3 => h_e _ _ ?_⟩
  clear h_e
  have ok3 := M.begun_ok (ring := g) ok g1 g2 hlen htz 0
  have low3 : (M.begun w0 r0 d0 b0 g tx).base ≤ (M.begun w0 r0 d0 b0 g tx).top := Int.le_refl _
  have rw3 : (M.begun w0 r0 d0 b0 g tx).r ≤ (M.begun w0 r0 d0 b0 g tx).w := ok.2.2.2.1
  have em0 : M.begun w0 r0 d0 b0 g tx = M.begun w0 r0 d0 b0 g tx := rfl
  have rk : amongV (.int g) 1 200 = true := by
    simp only [amongV, Bool.and_eq_true, decide_eq_true_eq]
    exact ⟨g1, g2⟩
  -- a run of those texts
  have mkr : ∀ (H : Hp) (l : Addr) (Q' : VK) (E' : XK), Same H2 H → H l = some (.lst (tx.map V.str)) → (∀ A H', (∀ c ∈ A.al, H c = none) → Same H H' → RunAt K H' A (M.begun w0 r0 d0 b0 g tx) [] → Q' (.ref A.p) H') → ∀ p dx : Addr, H p = none → H dx = none → ¬ dx = p →
      sp_Run_init K [.ref p, .ref t, .int g, .ref l] (upd (upd H dx (.own p)) p (.ins (He.ga K "Run") dx [])) (fun v H2 => v = .non ∧ Q' (.ref p) H2) E' := by
    intro H l Q' E' sH hl hq
    have htH := sH _ _ ht2
    have bkH := boundsV_of htH ok
    have tz := textsV_ok hl hlen htz
    refine mk_Run (KnI_ints htH) rfl (texts_KnI hl) (texts_NoLong hl htz) (fun hb => by rw [bkH] at hb; cases hb) (fun _ hr => by rw [rk] at hr; cases hr) (fun _ _ hz => by rw [tz] at hz; cases hz) (fun ba w' r d b g' tl' tx' A H3 e1 e2 _ e3 _ _ e4 e5 _ eba fr s3 run => ?_)
    cases e1
    cases e3
    cases e4
    rw [htH] at e2
    cases e2
    rw [hl] at e5
    have etx : tx = tx' := map_str_inj (HO.lst.inj (Option.some.inj e5))
    subst etx
    exact hq A H3 fr s3 run
  have htl3 := s3 _ _ htl
  refine seq_gen fun N_f h_f => ?_
  simp only [RDa, RDb, RDv, RDk, RDx, RDe, RDd, RDp, RDq, List.getElem?_cons_zero, List.getElem?_cons_succ, List.set_cons_zero, List.set_cons_succ, List.cons.injEq, List.cons_ne_nil, reduceCtorEq, exists_eq_left', exists_eq_left, exists_and_left, and_assoc, exists_const, true_and, and_true, if_true, if_false, false_and, and_false, exists_false, false_or, or_false, true_implies, false_implies, implies_true, forall_eq, forall_eq', Bool.false_eq_true, if_neg, decide_eq_true_eq, Bool.not_eq_true', decide_eq_false_iff_not, Bool.not_true, Bool.not_false, List.length_cons, List.length_nil, sizeLine_eq, Nat.reduceAdd, Nat.reduceLeDiff, Nat.reduceLT, Int.reduceLT, Int.reduceLE, Int.emod_nonneg, ne_eq, Int.reduceEq, not_false_eq_true, not_true_eq_false, seqO_lst htl3]
  intro hd n_hd
  generalize e_H4 : upd H3 hd (.lst (tx.map V.str)) = H4
  have a_H4 : H4 hd = some (.lst (tx.map V.str)) := by rw [← e_H4]; exact upd_same
  have s_H4 : Same H3 H4 := by rw [← e_H4]; exact same_new n_hd
  refine h_f _ _ ?_
  clear h_f
  refine seq_gen fun N_i h_i => ?_
  simp only [RDa, RDb, RDv, RDk, RDx, RDe, RDd, RDp, RDq, List.getElem?_cons_zero, List.getElem?_cons_succ, List.set_cons_zero, List.set_cons_succ, List.cons.injEq, List.cons_ne_nil, reduceCtorEq, exists_eq_left', exists_eq_left, exists_and_left, and_assoc, exists_const, true_and, and_true, if_true, if_false, false_and, and_false, exists_false, false_or, or_false, true_implies, false_implies, implies_true, forall_eq, forall_eq', Bool.false_eq_true, if_neg, decide_eq_true_eq, Bool.not_eq_true', decide_eq_false_iff_not, Bool.not_true, Bool.not_false, List.length_cons, List.length_nil, sizeLine_eq, Nat.reduceAdd, Nat.reduceLeDiff, Nat.reduceLT, Int.reduceLT, Int.reduceLE, Int.emod_nonneg, ne_eq, Int.reduceEq, not_false_eq_true, not_true_eq_false]
  refine mkr H4 hd (fun v H => N_i [some (.ref a), some (.ref t), some (.int w0), some (.int r0), some (.int d0), some (.int b0), some (.int g), some (.ref tl), some (.ref R.m), some (.ref hd), some v, none, none, none, none, none, none, none, none] H) _ (s3.trans s_H4) a_H4 (fun A H5 frA s5 run => h_i _ _ ?_)
  clear h_i
  have hd5 := s5 _ _ a_H4
  refine seq_gen fun N_j h_j => ?_
  simp only [RDa, RDb, RDv, RDk, RDx, RDe, RDd, RDp, RDq, List.getElem?_cons_zero, List.getElem?_cons_succ, List.set_cons_zero, List.set_cons_succ, List.cons.injEq, List.cons_ne_nil, reduceCtorEq, exists_eq_left', exists_eq_left, exists_and_left, and_assoc, exists_const, true_and, and_true, if_true, if_false, false_and, and_false, exists_false, false_or, or_false, true_implies, false_implies, implies_true, forall_eq, forall_eq', Bool.false_eq_true, if_neg, decide_eq_true_eq, Bool.not_eq_true', decide_eq_false_iff_not, Bool.not_true, Bool.not_false, List.length_cons, List.length_nil, sizeLine_eq, Nat.reduceAdd, Nat.reduceLeDiff, Nat.reduceLT, Int.reduceLT, Int.reduceLE, Int.emod_nonneg, ne_eq, Int.reduceEq, not_false_eq_true, not_true_eq_false, hd5]
  refine ⟨.ref hd, rfl, .inl ⟨rfl, _, SqL.of hd5⟩, hd, _, rfl, rfl, hd5, h_j _ _ ?_⟩
  clear h_j
  have f6 : Fr [hd] H5 (upd H5 hd (.lst (tx.map V.str).reverse)) := (Fr.refl _ _).upd (by simp)
  have hd6 : (upd H5 hd (.lst (tx.map V.str).reverse)) hd = some (.lst (tx.map V.str).reverse) := upd_same
  generalize upd H5 hd (.lst (tx.map V.str).reverse) = H6 at f6 hd6 ⊢
  refine seq_gen fun N_k h_k => ?_
  simp only [RDa, RDb, RDv, RDk, RDx, RDe, RDd, RDp, RDq, List.getElem?_cons_zero, List.getElem?_cons_succ, List.set_cons_zero, List.set_cons_succ, List.cons.injEq, List.cons_ne_nil, reduceCtorEq, exists_eq_left', exists_eq_left, exists_and_left, and_assoc, exists_const, true_and, and_true, if_true, if_false, false_and, and_false, exists_false, false_or, or_false, true_implies, false_implies, implies_true, forall_eq, forall_eq', Bool.false_eq_true, if_neg, decide_eq_true_eq, Bool.not_eq_true', decide_eq_false_iff_not, Bool.not_true, Bool.not_false, List.length_cons, List.length_nil, sizeLine_eq, Nat.reduceAdd, Nat.reduceLeDiff, Nat.reduceLT, Int.reduceLT, Int.reduceLE, Int.emod_nonneg, ne_eq, Int.reduceEq, not_false_eq_true, not_true_eq_false, hd6]
  rw [List.length_reverse, List.length_map]
  refine ⟨by omega, h_k _ _ ?_⟩
  clear h_k
  have f67 : Fr [hd] H6 (upd H6 hd (.lst ((tx.map V.str).reverse ++ [.str "more"]))) := (Fr.refl _ _).upd (by simp)
  generalize upd H6 hd (.lst ((tx.map V.str).reverse ++ [.str "more"])) = H7 at f67 ⊢
  have f57 := f6.trans f67
  clear hd6 f6 f67
  have ntd : ∀ x ∈ [hd], ∀ xs, H5 x ≠ some (.tup xs) := fun x hx xs => by rw [List.mem_singleton.mp hx, hd5]; simp
  have s35 := s_H4.trans s5
  have s37 : Same H3 H7 := fun c o e => f57 _ _ (by simpa using ne_of_none e n_hd) (s35 _ _ e)
  have run7 : RunAt K H7 A (M.begun w0 r0 d0 b0 g tx) [] := run.fr f57 (fun x hx mm => by
    have := frA x hx
    rw [List.mem_singleton.mp mm, a_H4] at this
    cases this) ntd
  have t7 := t3.same s37
  have s27 := s3.trans s37
  have htl7 := s27 _ _ htl
  refine seq_gen fun N_l h_l => ?_
  simp only [RDa, RDb, RDv, RDk, RDx, RDe, RDd, RDp, RDq, List.getElem?_cons_zero, List.getElem?_cons_succ, List.set_cons_zero, List.set_cons_succ, List.cons.injEq, List.cons_ne_nil, reduceCtorEq, exists_eq_left', exists_eq_left, exists_and_left, and_assoc, exists_const, true_and, and_true, if_true, if_false, false_and, and_false, exists_false, false_or, or_false, true_implies, false_implies, implies_true, forall_eq, forall_eq', Bool.false_eq_true, if_neg, decide_eq_true_eq, Bool.not_eq_true', decide_eq_false_iff_not, Bool.not_true, Bool.not_false, List.length_cons, List.length_nil, sizeLine_eq, Nat.reduceAdd, Nat.reduceLeDiff, Nat.reduceLT, Int.reduceLT, Int.reduceLE, Int.emod_nonneg, ne_eq, Int.reduceEq, not_false_eq_true, not_true_eq_false]
  refine mkr H7 tl (fun v H => N_l [some (.ref a), some (.ref t), some (.int w0), some (.int r0), some (.int d0), some (.int b0), some (.int g), some (.ref tl), some (.ref R.m), some (.ref hd), some (.ref A.p), some v, none, none, none, none, none, none, none] H) _ s27 htl7 (fun A3 H8 frA3 s8 run3 => h_l _ _ ?_)
  clear h_l
  refine seq_gen fun N_m h_m => ?_
  simp only [RDa, RDb, RDv, RDk, RDx, RDe, RDd, RDp, RDq, List.getElem?_cons_zero, List.getElem?_cons_succ, List.set_cons_zero, List.set_cons_succ, List.cons.injEq, List.cons_ne_nil, reduceCtorEq, exists_eq_left', exists_eq_left, exists_and_left, and_assoc, exists_const, true_and, and_true, if_true, if_false, false_and, and_false, exists_false, false_or, or_false, true_implies, false_implies, implies_true, forall_eq, forall_eq', Bool.false_eq_true, if_neg, decide_eq_true_eq, Bool.not_eq_true', decide_eq_false_iff_not, Bool.not_true, Bool.not_false, List.length_cons, List.length_nil, sizeLine_eq, Nat.reduceAdd, Nat.reduceLeDiff, Nat.reduceLT, Int.reduceLT, Int.reduceLE, Int.emod_nonneg, ne_eq, Int.reduceEq, not_false_eq_true, not_true_eq_false]
  intro ol n_ol
  generalize e_H9 : upd H8 ol (.lst []) = H9
  have a_H9 : H9 ol = some (.lst []) := by rw [← e_H9]; exact upd_same
  have s_H9 : Same H8 H9 := by rw [← e_H9]; exact same_new n_ol
  refine h_m _ _ ?_
  clear h_m
  have s79 := s8.trans s_H9
  have s29 := s27.trans s79
  have s09 := s02.trans s29
  -- the world
  have liveA7 := run7.live
  have liveR7 := t7.live
  have W9 : WB K H2 H9 (A.al ++ (R.mu ++ (A3.al ++ [ol]))) (fun c => if c ∈ A.al then 1 else if c ∈ R.mu then 2 else if c ∈ A3.al then 5 else 6) A R A3 ol tl (M.begun w0 r0 d0 b0 g tx) (M.begun w0 r0 d0 b0 g tx) [] 0 [] := by
    have live4 : ∀ c ∈ R.mu, H4 c ≠ none := fun c hc => (t3.same s_H4).live c (R.mu_al c hc)
    have d1 : ∀ c ∈ R.mu, c ∉ A.al := fun c hc m => live4 c hc (frA c m)
    have d2 : ∀ c ∈ A3.al, c ∉ A.al := fun c hc m => liveA7 c m (frA3 c hc)
    have d3 : ∀ c ∈ A3.al, c ∉ R.mu := fun c hc m => liveR7 c (R.mu_al c m) (frA3 c hc)
    have o1 : ol ∉ A.al := fun m => (run7.same s8).live ol m n_ol
    have o2 : ol ∉ R.mu := fun m => (t7.same s8).live ol (R.mu_al ol m) n_ol
    have o3 : ol ∉ A3.al := fun m => run3.live ol m n_ol
    have out : ∀ c o, H2 c = some o → c ∉ A.al ++ (R.mu ++ (A3.al ++ [ol])) := fun c o e m => by
      rcases List.mem_append.mp m with h | m
      · have := s_H4 _ _ (s3 _ _ e)
        rw [frA c h] at this
        cases this
      · rcases List.mem_append.mp m with h | m
        · rw [frR c h] at e
          cases e
        · rcases List.mem_append.mp m with h | m
          · have := s27 _ _ e
            rw [frA3 c h] at this
            cases this
          · have := s8 _ _ (s27 _ _ e)
            rw [List.mem_singleton.mp m, n_ol] at this
            cases this
    exact {
      run := run7.same s79
      rows := t7.same s79
      ok := ok3
      len := Nat.le_refl _
      low := low3
      rw := rw3
      run3 := run3.same s_H9
      ho := a_H9
      old := fun o h => by cases h
      nt := fun c hc xs => by
        rcases List.mem_append.mp hc with h | m
        · exact ⟨(run7.same s79).nt c h xs, (run7.same s79).live c h⟩
        · rcases List.mem_append.mp m with h | m
          · exact ⟨(t7.same s79).nt c (R.mu_al c h) xs, (t7.same s79).live c (R.mu_al c h)⟩
          · rcases List.mem_append.mp m with h | m
            · exact ⟨(run3.same s_H9).nt c h xs, (run3.same s_H9).live c h⟩
            · rw [List.mem_singleton.mp m, a_H9]
              simp
      aA := fun c hc => ⟨List.mem_append_left _ hc, if_pos hc⟩
      aR := fun c hc => ⟨List.mem_append_right _ (List.mem_append_left _ hc), by rw [if_neg (d1 c hc), if_pos hc]⟩
      aA3 := fun c hc => ⟨List.mem_append_right _ (List.mem_append_right _ (List.mem_append_left _ hc)), by rw [if_neg (d2 c hc), if_neg (d3 c hc), if_pos hc]⟩
      aO := ⟨List.mem_append_right _ (List.mem_append_right _ (List.mem_append_right _ (by simp))), by rw [if_neg o1, if_neg o2, if_neg o3]⟩
      xR := eRx
      aX := out tl _ htl
      fx := fun c o e => ⟨out c o e, s29 _ _ e⟩ }
  generalize A.al ++ (R.mu ++ (A3.al ++ [ol])) = AA at W9
  generalize (fun c => if c ∈ A.al then 1 else if c ∈ R.mu then 2 else if c ∈ A3.al then 5 else 6 : Addr → Nat) = f9 at W9
  refine seq_gen fun N_n h_n => ?_
  simp only [RDa, RDb, RDv, RDk, RDx, RDe, RDd, RDp, RDq, List.getElem?_cons_zero, List.getElem?_cons_succ, List.set_cons_zero, List.set_cons_succ, List.cons.injEq, List.cons_ne_nil, reduceCtorEq, exists_eq_left', exists_eq_left, exists_and_left, and_assoc, exists_const, true_and, and_true, if_true, if_false, false_and, and_false, exists_false, false_or, or_false, true_implies, false_implies, implies_true, forall_eq, forall_eq', Bool.false_eq_true, if_neg, decide_eq_true_eq, Bool.not_eq_true', decide_eq_false_iff_not, Bool.not_true, Bool.not_false, List.length_cons, List.length_nil, sizeLine_eq, Nat.reduceAdd, Nat.reduceLeDiff, Nat.reduceLT, Int.reduceLT, Int.reduceLE, Int.emod_nonneg, ne_eq, Int.reduceEq, not_false_eq_true, not_true_eq_false]
  refine W9.stands (Int.le_refl _) (by decide) (by decide) (by decide) (fun HA os1 gA hoA oldA lA => ⟨true, rfl, ?_⟩)
  rw [if_neg (by decide)]
  refine h_n _ _ ?_
  clear h_n
  have WA := W9.stood gA hoA oldA
  obtain ⟨dxA, hpA⟩ := WA.run.c.ins
  refine seq_gen fun N_o h_o => ?_
  simp only [RDa, RDb, RDv, RDk, RDx, RDe, RDd, RDp, RDq, List.getElem?_cons_zero, List.getElem?_cons_succ, List.set_cons_zero, List.set_cons_succ, List.cons.injEq, List.cons_ne_nil, reduceCtorEq, exists_eq_left', exists_eq_left, exists_and_left, and_assoc, exists_const, true_and, and_true, if_true, if_false, false_and, and_false, exists_false, false_or, or_false, true_implies, false_implies, implies_true, forall_eq, forall_eq', Bool.false_eq_true, if_neg, decide_eq_true_eq, Bool.not_eq_true', decide_eq_false_iff_not, Bool.not_true, Bool.not_false, List.length_cons, List.length_nil, sizeLine_eq, Nat.reduceAdd, Nat.reduceLeDiff, Nat.reduceLT, Int.reduceLT, Int.reduceLE, Int.emod_nonneg, ne_eq, Int.reduceEq, not_false_eq_true, not_true_eq_false, hRun, RunL, hpA]
  refine WA.kept (N := fun p H => N_o [some (.ref a), some (.ref t), some (.int w0), some (.int r0), some (.int d0), some (.int b0), some (.int g), some (.ref tl), some (.ref R.m), some (.ref hd), some (.ref A.p), some (.ref A3.p), some (.ref ol), some (.ref p), none, none, none, none, none] H) (by decide) (fun kp HB AB fB A2 R2 WB' sAB nkp => h_o _ _ ?_)
  clear h_o
  have s0B : Same H2 HB := WB'.base
  have hm3 : (M.begun w0 r0 d0 b0 g tx).base = 0 ∧ (M.begun w0 r0 d0 b0 g tx).top = 0 ∧ (M.begun w0 r0 d0 b0 g tx).want = 0 ∧ (M.begun w0 r0 d0 b0 g tx).out = [] ∧ (M.begun w0 r0 d0 b0 g tx).ls = [] := ⟨rfl, rfl, rfl, rfl, rfl⟩
  clear W9 WA run run7 run3 t3 t7 liveA7 liveR7 mkr em0
  have ok3' := ok3
  generalize M.begun w0 r0 d0 b0 g tx = m0 at WB' hm3 ok3'
  clear ok3 low3 rw3 frA frA3 frR
  refine seq_rel (fun σ1 H => ∃ u14 m hs n os AA f A A2 R2 kp m2 hs2, σ1 = [some (.ref a), some (.ref t), some (.int w0), some (.int r0), some (.int d0), some (.int b0), some (.int g), some (.ref tl), some (.ref R.m), some (.ref hd), some (.ref A.p), some (.ref A3.p), some (.ref ol), some (.ref kp), u14, none, none, none, none] ∧ Wrld K H2 H AA f A R A2 R2 A3 ol tl kp m m2 m0 hs hs2 n os ∧ n ≤ 60 ∧ os.length ≤ 600) (fun N_r h_r => ?_) ?_
  · refine for_lcutx (fun la sx H4 => ∃ gs, Same HB H4 ∧ HB la = none ∧ H4 la = some (.lst sx) ∧ All2 (StepAt H4) gs sx ∧ okSteps gs ∧ gs.length ≤ 60) (fun Z hZ => ?_) ?_
    · simp only [RDa, RDb, RDv, RDk, RDx, RDe, RDd, RDp, RDq, List.getElem?_cons_zero, List.getElem?_cons_succ, List.set_cons_zero, List.set_cons_succ, List.cons.injEq, List.cons_ne_nil, reduceCtorEq, exists_eq_left', exists_eq_left, exists_and_left, and_assoc, exists_const, true_and, and_true, if_true, if_false, false_and, and_false, exists_false, false_or, or_false, true_implies, false_implies, implies_true, forall_eq, forall_eq', Bool.false_eq_true, if_neg, decide_eq_true_eq, Bool.not_eq_true', decide_eq_false_iff_not, Bool.not_true, Bool.not_false, List.length_cons, List.length_nil, sizeLine_eq, Nat.reduceAdd, Nat.reduceLeDiff, Nat.reduceLT, Int.reduceLT, Int.reduceLE, Int.emod_nonneg, ne_eq, Int.reduceEq, not_false_eq_true, not_true_eq_false]
      refine ⟨t, tl, w0, r0, d0, b0, g, tx, rfl, (s02.trans s0B).seq hS, s0B _ _ ht2, ok, g1, g2, s0B _ _ htl, hlen, fun l H4 gs nl s4 st okg hgl => ?_⟩
      obtain ⟨sx, hx, al⟩ := st
      exact hZ l sx H4 ⟨gs, s4, nl, hx, al, okg, hgl⟩
    · rintro la sx H4 ⟨gs, s4, nla, hla, al, okg, hgl⟩
      have W4 := (WB'.same s4).fix
      have back : Same H2 (hm AB H4) := (WB'.same s4).inHm
      have laA : la ∉ AB := fun m => (WB'.nt la m []).2 nla
      have hl4 : hm AB H4 la = some (.lst sx) := by rw [hm_in laA]; exact hla
      have hgs := al.length
      refine ⟨fun i σ H5 => ∃ u14 m hs os, σ = [some (.ref a), some (.ref t), some (.int w0), some (.int r0), some (.int d0), some (.int b0), some (.int g), some (.ref tl), some (.ref R.m), some (.ref hd), some (.ref A.p), some (.ref A3.p), some (.ref ol), some (.ref kp), u14, none, none, none, none] ∧ Wrld K (hm AB H4) H5 AB fB A R A2 R2 A3 ol tl kp m m0 m0 hs [] i os ∧ os.length ≤ 8 + 8 * i, SqL.of hla, ⟨_, _, _, _, rfl, W4, by have : ([] : List V).length = 0 := rfl; omega⟩, ?_, ?_, ?_⟩
      · rintro i σ H5 _ ⟨_, _, _, _, _, W, _⟩
        exact SqL.of (W.fx la _ hl4).2
      · rintro i x σ H5 hx ⟨u14, m, hs, os, rfl, W, lo⟩
        have hi : i < sx.length := (List.getElem?_eq_some_iff.mp hx).1
        obtain ⟨gq, hq, p, rfl, hpt⟩ := al.get hx
        obtain ⟨hz, k0, k1⟩ := okg gq (List.mem_of_getElem? hq)
        have hp5 : H5 p = some (.tup [.str gq.1, .int gq.2]) := (W.fx p _ (by rw [hm_in (W4.nt.tup hpt)]; exact hpt)).2
        simp only [RDa, RDb, RDv, RDk, RDx, RDe, RDd, RDp, RDq, List.getElem?_cons_zero, List.getElem?_cons_succ, List.set_cons_zero, List.set_cons_succ, List.cons.injEq, List.cons_ne_nil, reduceCtorEq, exists_eq_left', exists_eq_left, exists_and_left, and_assoc, exists_const, true_and, and_true, if_true, if_false, false_and, and_false, exists_false, false_or, or_false, true_implies, false_implies, implies_true, forall_eq, forall_eq', Bool.false_eq_true, if_neg, decide_eq_true_eq, Bool.not_eq_true', decide_eq_false_iff_not, Bool.not_true, Bool.not_false, List.length_cons, List.length_nil, sizeLine_eq, Nat.reduceAdd, Nat.reduceLeDiff, Nat.reduceLT, Int.reduceLT, Int.reduceLE, Int.emod_nonneg, ne_eq, Int.reduceEq, not_false_eq_true, not_true_eq_false]
        refine ⟨A, m, hs, i, p, gq.1, gq.2, rfl, W.run, W.ok, by omega, by have := W.len; omega, hp5, hz, k0, k1, fun tt m' H6 q1 es f1 r1 nq hq => ?_, fun es H6 q1 s1 nq hq => ?_⟩
        · have ec := M.step_const es
          have hp6 : H6 p = some (.tup [.str gq.1, .int gq.2]) := f1 _ _ (fun mm => W.nt.tup hp5 (W.bA _ mm).1) hp5
          have R6 := W.rowsFr f1
          refine ⟨R, m, i, p, gq.1, gq.2, rfl, R6, W.ok, by omega, hp6, hz, k0, fun t2 m2' es2 H7 q2 f2 t7 nq2 hq2 => ?_, fun es2 => (by rw [es] at es2; cases es2)⟩
          rw [es] at es2
          cases es2
          have hq7 : H7 q1 = some (.tup [.str "told", .int tt]) := f2 _ _ (fun mm => R6.ntm _ mm _ hq) hq
          have run7 : RunAt K H7 A m' (hs ++ [(gq.1, gq.2)]) := r1.fr f2 (W.offA fun c hc => by rw [(W.aR c hc).2]; decide) R6.ntm
          have W7 := W.both ((f1.mono fun x hx => List.mem_append_left _ hx).trans (f2.mono fun x hx => List.mem_append_right _ hx)) run7 t7 (W.ok.step es).1 (by have := W.len; rw [List.length_append, List.length_singleton]; omega) (low_step W.low es) (by rw [ec.1, ec.2.1]; exact W.rw)
          have A1 : Ans H7 q1 [.str "told", .int tt] := ⟨hq7, .inl ⟨tt, rfl⟩⟩
          have A2 : Ans H7 q2 [.str "told", .int tt] := ⟨hq2, .inl ⟨tt, rfl⟩⟩
          obtain ⟨e, he, she, eve, alle⟩ := A1.dat
          have he2 := alle _ _ A2
          refine ⟨e, he, e, he2, she, she, ?_⟩
          rw [if_neg (by rw [eve]; simp)]
          have hp7 : H7 p = some (.tup [.str gq.1, .int gq.2]) := (W7.fx p _ (by rw [hm_in (W4.nt.tup hpt)]; exact hpt)).2
          have h7 := md_rng gq.2 (show (0 : Int) < 7 by decide)
          refine ⟨_, seqO_tup hp7, _, rfl, _, rfl, ?_⟩
          refine W7.stands h7.1 h7.2 (by omega) (by omega) (fun H8 os8 g8 ho8 old8 l8 => ⟨true, rfl, ?_⟩)
          rw [if_neg (by decide)]
          exact ⟨m', _, os8, W7.stood g8 ho8 old8, by omega⟩
        · have hp6 := s1 _ _ hp5
          refine ⟨R, m, i, p, gq.1, gq.2, rfl, W.rows.same s1, W.ok, by omega, hp6, hz, k0, fun t2 m2' es2 => (by rw [es] at es2; cases es2), fun es2 H7 q2 s2 nq2 hq2 => ?_⟩
          have W7 := (W.same (s1.trans s2)).mono (Nat.le_succ i)
          have hq7 := s2 _ _ hq
          have ew : (if gq.1 = "send" then ("now" : Str) else "letter") = refW gq.1 := rfl
          rw [ew] at hq7
          obtain ⟨d, A1, A2⟩ : ∃ d, Ans H7 q1 d ∧ Ans H7 q2 d := by
            rcases refW_or gq.1 with e | e
            · rw [e] at hq7 hq2
              exact ⟨_, ⟨hq7, .inr (.inl rfl)⟩, ⟨hq2, .inr (.inl rfl)⟩⟩
            · rw [e] at hq7 hq2
              exact ⟨_, ⟨hq7, .inr (.inr rfl)⟩, ⟨hq2, .inr (.inr rfl)⟩⟩
          obtain ⟨e, he, she, eve, alle⟩ := A1.dat
          have he2 := alle _ _ A2
          refine ⟨e, he, e, he2, she, she, ?_⟩
          rw [if_neg (by rw [eve]; simp)]
          have hp7 : H7 p = some (.tup [.str gq.1, .int gq.2]) := (W7.fx p _ (by rw [hm_in (W4.nt.tup hpt)]; exact hpt)).2
          have h7 := md_rng gq.2 (show (0 : Int) < 7 by decide)
          refine ⟨_, seqO_tup hp7, _, rfl, _, rfl, ?_⟩
          refine W7.stands h7.1 h7.2 (by omega) (by omega) (fun H8 os8 g8 ho8 old8 l8 => ⟨true, rfl, ?_⟩)
          rw [if_neg (by decide)]
          exact ⟨m, _, os8, W7.stood g8 ho8 old8, by omega⟩
      · rintro σ H5 ⟨u14, m, hs, os, rfl, W, lo⟩
        exact h_r _ _ ⟨_, _, _, _, _, _, _, _, _, _, _, _, _, rfl, W.refix back, by omega, by omega⟩
  rintro _ HC ⟨u14, m, hs, n, os, AA, f, A, A2, R2, kp, m2, hs2, rfl, W, hn, hos⟩
  have hclen : (cutV (ns.map V.int) (some 5) (some 45)).length ≤ 40 := by
    have z : ∀ {xs : List V}, (cutV xs (some 5) (some 45)).length ≤ 40 := fun {xs} => by
      have e2 : (5 : Int) = ((5 : Nat) : Int) := rfl
      have e42 : (45 : Int) = ((45 : Nat) : Int) := rfl
      unfold cutV
      rw [List.length_take, List.length_drop, e2, e42, HT.sIx_nat, HT.sIx_nat]
      omega
    exact z
  refine seq_rel (fun σ1 H => ∃ u14 u15 u16 u17 m hs n os AA f A A2 R2 kp m2 hs2, σ1 = [some (.ref a), some (.ref t), some (.int w0), some (.int r0), some (.int d0), some (.int b0), some (.int g), some (.ref tl), some (.ref R.m), some (.ref hd), some (.ref A.p), some (.ref A3.p), some (.ref ol), some (.ref kp), u14, u15, u16, u17, none] ∧ Wrld K H2 H AA f A R A2 R2 A3 ol tl kp m m2 m0 hs hs2 n os ∧ n ≤ 100 ∧ os.length ≤ 1000) (fun N_s h_s => ?_) ?_
  · obtain ⟨Pv, hP⟩ : ∃ Pv : Addr → Nat → L2.St → Hp → Prop, ∀ la i σ H, Pv la i σ H ↔ (∃ HD, Same HC HD ∧ hm AA HD la = some (.lst (cutV (ns.map V.int) (some 5) (some 45))) ∧ ∃ u14 u15 u16 u17 m hs os AA' f A A2 R2 kp m2 hs2, σ = [some (.ref a), some (.ref t), some (.int w0), some (.int r0), some (.int d0), some (.int b0), some (.int g), some (.ref tl), some (.ref R.m), some (.ref hd), some (.ref A.p), some (.ref A3.p), some (.ref ol), some (.ref kp), u14, u15, u16, u17, none] ∧ Wrld K (hm AA HD) H AA' f A R A2 R2 A3 ol tl kp m m2 m0 hs hs2 (n + i) os ∧ os.length ≤ 600 + 8 * i) := ⟨_, fun _ _ _ _ => Iff.rfl⟩
    refine for_lcut (fun la HD => Same HC HD ∧ HC la = none ∧ HD la = some (.lst (cutV (ns.map V.int) (some 5) (some 45)))) (cutV (ns.map V.int) (some 5) (some 45)) (fun Z hZ => ?_) Pv ?_ ?_ ?_ ?_
    · simp only [RDa, RDb, RDv, RDk, RDx, RDe, RDd, RDp, RDq, List.getElem?_cons_zero, List.getElem?_cons_succ, List.set_cons_zero, List.set_cons_succ, List.cons.injEq, List.cons_ne_nil, reduceCtorEq, exists_eq_left', exists_eq_left, exists_and_left, and_assoc, exists_const, true_and, and_true, if_true, if_false, false_and, and_false, exists_false, false_or, or_false, true_implies, false_implies, implies_true, forall_eq, forall_eq', Bool.false_eq_true, if_neg, decide_eq_true_eq, Bool.not_eq_true', decide_eq_false_iff_not, Bool.not_true, Bool.not_false, List.length_cons, List.length_nil, sizeLine_eq, Nat.reduceAdd, Nat.reduceLeDiff, Nat.reduceLT, Int.reduceLT, Int.reduceLE, Int.emod_nonneg, ne_eq, Int.reduceEq, not_false_eq_true, not_true_eq_false]
      exact ⟨_, (s02.trans W.base).seq hS, fun l nl => hZ _ _ ⟨same_new nl, nl, upd_same⟩⟩
    · rintro la HD ⟨sD, nD, hD⟩
      have laA : la ∉ AA := fun m => (W.nt la m []).2 nD
      exact ⟨SqL.of hD, (hP _ _ _ _).mpr ⟨HD, sD, by rw [hm_in laA]; exact hD, _, _, _, _, _, _, _, _, _, _, _, _, _, _, _, rfl, (W.same sD).fix, by omega⟩⟩
    · rintro la i σ HE _ z
      obtain ⟨HD, sD, hlaD, _, _, _, _, _, _, _, _, _, _, _, _, _, _, _, _, W', _⟩ := (hP _ _ _ _).mp z
      exact SqL.of (W'.fx la _ hlaD).2
    · rintro la i x σ HE hx z
      obtain ⟨HD, sD, hlaD, u14, u15, u16, u17, m, hs, os, AE, fE, A, A2, R2, kp, m2, hs2, rfl, W', lo⟩ := (hP _ _ _ _).mp z
      clear z
      have hi : i < 40 := by
        have := (List.getElem?_eq_some_iff.mp hx).1
        omega
      obtain ⟨c, rfl⟩ := cut_int hx
      show tSeq _ _ _ _ _
      refine seq_rel (fun σ1 H => ∃ AA' f A, σ1 = [some (.ref a), some (.ref t), some (.int w0), some (.int r0), some (.int d0), some (.int b0), some (.int g), some (.ref tl), some (.ref R.m), some (.ref hd), some (.ref A.p), some (.ref A3.p), some (.ref ol), some (.ref kp), u14, some (.int c), u16, u17, none] ∧ Wrld K (hm AA HD) H AA' f A R A2 R2 A3 ol tl kp m m2 m0 hs hs2 (n + i) os) (fun N_1 h_1 => ?_) ?_
      · obtain ⟨dxE, hpE⟩ := W'.run.c.ins
        simp only [RDa, RDb, RDv, RDk, RDx, RDe, RDd, RDp, RDq, List.getElem?_cons_zero, List.getElem?_cons_succ, List.set_cons_zero, List.set_cons_succ, List.cons.injEq, List.cons_ne_nil, reduceCtorEq, exists_eq_left', exists_eq_left, exists_and_left, and_assoc, exists_const, true_and, and_true, if_true, if_false, false_and, and_false, exists_false, false_or, or_false, true_implies, false_implies, implies_true, forall_eq, forall_eq', Bool.false_eq_true, if_neg, decide_eq_true_eq, Bool.not_eq_true', decide_eq_false_iff_not, Bool.not_true, Bool.not_false, List.length_cons, List.length_nil, sizeLine_eq, Nat.reduceAdd, Nat.reduceLeDiff, Nat.reduceLT, Int.reduceLT, Int.reduceLE, Int.emod_nonneg, ne_eq, Int.reduceEq, not_false_eq_true, not_true_eq_false, hRun, RunL, hpE]
        split
        · exact ⟨A, m, hs, n + i, rfl, W'.run, W'.ok, W'.rw, by have := W'.len; omega, fun Ac H1 s1 fr1 r1 => h_1 _ _ ⟨_, _, _, rfl, W'.copy s1 fr1 r1⟩⟩
        · exact h_1 _ _ ⟨_, _, _, rfl, W'⟩
      rintro _ HF ⟨AF, fF, A, rfl, W1⟩
      clear W'
      refine seq_rel (fun σ1 H => ∃ AA' f A2 R2 kp m2 hs2, σ1 = [some (.ref a), some (.ref t), some (.int w0), some (.int r0), some (.int d0), some (.int b0), some (.int g), some (.ref tl), some (.ref R.m), some (.ref hd), some (.ref A.p), some (.ref A3.p), some (.ref ol), some (.ref kp), u14, some (.int c), u16, u17, none] ∧ Wrld K (hm AA HD) H AA' f A R A2 R2 A3 ol tl kp m m2 m0 hs hs2 (n + i) os) (fun N_2 h_2 => ?_) ?_
      · obtain ⟨dxF, hpF⟩ := W1.run.c.ins
        simp only [RDa, RDb, RDv, RDk, RDx, RDe, RDd, RDp, RDq, List.getElem?_cons_zero, List.getElem?_cons_succ, List.set_cons_zero, List.set_cons_succ, List.cons.injEq, List.cons_ne_nil, reduceCtorEq, exists_eq_left', exists_eq_left, exists_and_left, and_assoc, exists_const, true_and, and_true, if_true, if_false, false_and, and_false, exists_false, false_or, or_false, true_implies, false_implies, implies_true, forall_eq, forall_eq', Bool.false_eq_true, if_neg, decide_eq_true_eq, Bool.not_eq_true', decide_eq_false_iff_not, Bool.not_true, Bool.not_false, List.length_cons, List.length_nil, sizeLine_eq, Nat.reduceAdd, Nat.reduceLeDiff, Nat.reduceLT, Int.reduceLT, Int.reduceLE, Int.emod_nonneg, ne_eq, Int.reduceEq, not_false_eq_true, not_true_eq_false, hRun, RunL, hpF]
        split
        · exact W1.kept (N := fun p H => N_2 [some (.ref a), some (.ref t), some (.int w0), some (.int r0), some (.int d0), some (.int b0), some (.int g), some (.ref tl), some (.ref R.m), some (.ref hd), some (.ref A.p), some (.ref A3.p), some (.ref ol), some (.ref p), u14, some (.int c), u16, u17, none] H) (by omega) (fun p H' AA2 f2 A2 R2 W2 s2 np => h_2 _ _ ⟨_, _, _, _, _, _, _, rfl, W2⟩)
        · exact h_2 _ _ ⟨_, _, _, _, _, _, _, rfl, W1⟩
      rintro _ HG ⟨AG, fG, A2, R2, kp, m2, hs2, rfl, W2⟩
      clear W1
      refine seq_gen fun N_v h_v => ?_
      simp only [RDa, RDb, RDv, RDk, RDx, RDe, RDd, RDp, RDq, List.getElem?_cons_zero, List.getElem?_cons_succ, List.set_cons_zero, List.set_cons_succ, List.cons.injEq, List.cons_ne_nil, reduceCtorEq, exists_eq_left', exists_eq_left, exists_and_left, and_assoc, exists_const, true_and, and_true, if_true, if_false, false_and, and_false, exists_false, false_or, or_false, true_implies, false_implies, implies_true, forall_eq, forall_eq', Bool.false_eq_true, if_neg, decide_eq_true_eq, Bool.not_eq_true', decide_eq_false_iff_not, Bool.not_true, Bool.not_false, List.length_cons, List.length_nil, sizeLine_eq, Nat.reduceAdd, Nat.reduceLeDiff, Nat.reduceLT, Int.reduceLT, Int.reduceLE, Int.emod_nonneg, ne_eq, Int.reduceEq, not_false_eq_true, not_true_eq_false]
      refine ⟨R, m, n + i, c, rfl, W2.rows, W2.ok, by omega, W2.low, fun qq z k HI sI nq hq hz k0 k1 => h_v _ _ ?_⟩
      clear h_v
      have W3 := W2.same sI
      clear W2
      refine seq_rel (fun σ1 H => ∃ q2 d, σ1 = [some (.ref a), some (.ref t), some (.int w0), some (.int r0), some (.int d0), some (.int b0), some (.int g), some (.ref tl), some (.ref R.m), some (.ref hd), some (.ref A.p), some (.ref A3.p), some (.ref ol), some (.ref kp), some (.ref qq), some (.int c), some (.ref q2), u17, none] ∧ H q2 = some (.tup d) ∧ ((∃ tt m', m.step z k = some (tt, m') ∧ d = [.str "told", .int tt] ∧ RwAt H R m' ∧ Fr R.mu HI H) ∨ (m.step z k = none ∧ d = [.str "refused", .str (refW z)] ∧ Same HI H))) (fun N_w h_w => ?_) ?_
      · simp only [RDa, RDb, RDv, RDk, RDx, RDe, RDd, RDp, RDq, List.getElem?_cons_zero, List.getElem?_cons_succ, List.set_cons_zero, List.set_cons_succ, List.cons.injEq, List.cons_ne_nil, reduceCtorEq, exists_eq_left', exists_eq_left, exists_and_left, and_assoc, exists_const, true_and, and_true, if_true, if_false, false_and, and_false, exists_false, false_or, or_false, true_implies, false_implies, implies_true, forall_eq, forall_eq', Bool.false_eq_true, if_neg, decide_eq_true_eq, Bool.not_eq_true', decide_eq_false_iff_not, Bool.not_true, Bool.not_false, List.length_cons, List.length_nil, sizeLine_eq, Nat.reduceAdd, Nat.reduceLeDiff, Nat.reduceLT, Int.reduceLT, Int.reduceLE, Int.emod_nonneg, ne_eq, Int.reduceEq, not_false_eq_true, not_true_eq_false]
        exact ⟨R, m, n + i, qq, z, k, rfl, W3.rows, W3.ok, by omega, hq, hz, k0, fun tt m' es H1 q2 f1 t1 nq2 hq2 => h_w _ _ ⟨q2, _, rfl, hq2, .inl ⟨tt, m', es, rfl, t1, f1⟩⟩, fun es H1 q2 s1 nq2 hq2 => h_w _ _ ⟨q2, _, rfl, hq2, .inr ⟨es, rfl, s1⟩⟩⟩
      rintro _ HJ ⟨q2, d, rfl, hq2, hc⟩
      refine seq_rel (fun σ1 H => ∃ q1 m' hs', σ1 = [some (.ref a), some (.ref t), some (.int w0), some (.int r0), some (.int d0), some (.int b0), some (.int g), some (.ref tl), some (.ref R.m), some (.ref hd), some (.ref A.p), some (.ref A3.p), some (.ref ol), some (.ref kp), some (.ref qq), some (.int c), some (.ref q2), some (.ref q1), none] ∧ Wrld K (hm AA HD) H AG fG A R A2 R2 A3 ol tl kp m' m2 m0 hs' hs2 (n + i + 1) os ∧ Ans H q1 d ∧ Ans H q2 d) (fun N_x h_x => ?_) ?_
      · simp only [RDa, RDb, RDv, RDk, RDx, RDe, RDd, RDp, RDq, List.getElem?_cons_zero, List.getElem?_cons_succ, List.set_cons_zero, List.set_cons_succ, List.cons.injEq, List.cons_ne_nil, reduceCtorEq, exists_eq_left', exists_eq_left, exists_and_left, and_assoc, exists_const, true_and, and_true, if_true, if_false, false_and, and_false, exists_false, false_or, or_false, true_implies, false_implies, implies_true, forall_eq, forall_eq', Bool.false_eq_true, if_neg, decide_eq_true_eq, Bool.not_eq_true', decide_eq_false_iff_not, Bool.not_true, Bool.not_false, List.length_cons, List.length_nil, sizeLine_eq, Nat.reduceAdd, Nat.reduceLeDiff, Nat.reduceLT, Int.reduceLT, Int.reduceLE, Int.emod_nonneg, ne_eq, Int.reduceEq, not_false_eq_true, not_true_eq_false]
        rcases hc with ⟨tt, m', es, rfl, tJ, fJ⟩ | ⟨es, rfl, sJ⟩
        · have ec := M.step_const es
          have runJ := W3.runFr fJ
          have hqJ : HJ qq = some (.tup [.str z, .int k]) := fJ _ _ (fun mm => W3.rows.ntm _ mm _ hq) hq
          refine ⟨A, m, hs, n + i, qq, z, k, rfl, runJ, W3.ok, by omega, by have := W3.len; omega, hqJ, hz, k0, k1, fun tt2 m2' HK q1 es2 fK rK nq1 hq1 => ?_, fun es2 => (by rw [es] at es2; cases es2)⟩
          rw [es] at es2
          cases es2
          have ntK : ∀ x ∈ A.mu', ∀ xs, HJ x ≠ some (.tup xs) := fun x hx => runJ.nt x (mu_al A x hx)
          have tK : RwAt HK R m' := tJ.fr fK (W3.offR fun c hc => ⟨(W3.bA c hc).1, by rw [(W3.bA c hc).2]; decide⟩) ntK
          have W4 := W3.both ((fJ.mono fun x hx => List.mem_append_right _ hx).trans (fK.mono fun x hx => List.mem_append_left _ hx)) rK tK (W3.ok.step es).1 (by have := W3.len; rw [List.length_append, List.length_singleton]; omega) (low_step W3.low es) (by rw [ec.1, ec.2.1]; exact W3.rw)
          exact h_x _ _ ⟨q1, m', _, rfl, W4, ⟨hq1, .inl ⟨tt, rfl⟩⟩, ⟨fK _ _ (fun mm => ntK _ mm _ hq2) hq2, .inl ⟨tt, rfl⟩⟩⟩
        · refine ⟨A, m, hs, n + i, qq, z, k, rfl, W3.run.same sJ, W3.ok, by omega, by have := W3.len; omega, sJ _ _ hq, hz, k0, k1, fun tt2 m2' HK q1 es2 => (by rw [es] at es2; cases es2), fun _ HK q1 sK nq1 hq1 => ?_⟩
          have ew : (if z = "send" then ("now" : Str) else "letter") = refW z := rfl
          rw [ew] at hq1
          have W4 := (W3.same (sJ.trans sK)).mono (Nat.le_succ (n + i))
          have hd : (∃ t : Int, ([V.str "refused", .str (refW z)] : List V) = [.str "told", .int t]) ∨ ([V.str "refused", .str (refW z)] : List V) = [.str "refused", .str "now"] ∨ ([V.str "refused", .str (refW z)] : List V) = [.str "refused", .str "letter"] := by
            rcases refW_or z with e | e
            · rw [e]; exact .inr (.inl rfl)
            · rw [e]; exact .inr (.inr rfl)
          exact h_x _ _ ⟨q1, m, _, rfl, W4, ⟨hq1, hd⟩, ⟨sK _ _ hq2, hd⟩⟩
      rintro _ HL ⟨q1, m', hs', rfl, W5, A1, A2'⟩
      clear W3 hc
      refine seq_rel (fun σ1 H => σ1 = [some (.ref a), some (.ref t), some (.int w0), some (.int r0), some (.int d0), some (.int b0), some (.int g), some (.ref tl), some (.ref R.m), some (.ref hd), some (.ref A.p), some (.ref A3.p), some (.ref ol), some (.ref kp), some (.ref qq), some (.int c), some (.ref q2), some (.ref q1), none] ∧ ∃ os', Wrld K (hm AA HD) H AG fG A R A2 R2 A3 ol tl kp m' m2 m0 hs' hs2 (n + i + 1) os' ∧ os'.length ≤ 600 + 8 * (i + 1) ∧ Ans H q1 d) (fun N_y h_y => ?_) ?_
      · simp only [RDa, RDb, RDv, RDk, RDx, RDe, RDd, RDp, RDq, List.getElem?_cons_zero, List.getElem?_cons_succ, List.set_cons_zero, List.set_cons_succ, List.cons.injEq, List.cons_ne_nil, reduceCtorEq, exists_eq_left', exists_eq_left, exists_and_left, and_assoc, exists_const, true_and, and_true, if_true, if_false, false_and, and_false, exists_false, false_or, or_false, true_implies, false_implies, implies_true, forall_eq, forall_eq', Bool.false_eq_true, if_neg, decide_eq_true_eq, Bool.not_eq_true', decide_eq_false_iff_not, Bool.not_true, Bool.not_false, List.length_cons, List.length_nil, sizeLine_eq, Nat.reduceAdd, Nat.reduceLeDiff, Nat.reduceLT, Int.reduceLT, Int.reduceLE, Int.emod_nonneg, ne_eq, Int.reduceEq, not_false_eq_true, not_true_eq_false]
        obtain ⟨e, he, she, eve, alle⟩ := A1.dat
        have he2 := alle _ _ A2'
        refine ⟨e, he, e, he2, she, she, ?_⟩
        rw [if_neg (by rw [eve]; simp)]
        have h7 := md_rng (c / 44000) (show (0 : Int) < 7 by decide)
        refine W5.stands h7.1 h7.2 (by omega) (by omega) (fun H8 os8 g8 ho8 old8 l8 => ⟨true, rfl, ?_⟩)
        rw [if_neg (by decide)]
        exact h_y _ _ ⟨rfl, os8, W5.stood g8 ho8 old8, by omega, g8 _ _ (fun mm => W5.ntB (B := [ol]) (fun c hc => by rw [List.mem_singleton.mp hc]; exact W5.aO.1) _ mm _ A1.1) A1.1, A1.2⟩
      rintro _ HM ⟨rfl, os6, W6, lo6, A6⟩
      clear W5 A1 A2'
      have fin : Pv la (i + 1) [some (.ref a), some (.ref t), some (.int w0), some (.int r0), some (.int d0), some (.int b0), some (.int g), some (.ref tl), some (.ref R.m), some (.ref hd), some (.ref A.p), some (.ref A3.p), some (.ref ol), some (.ref kp), some (.ref qq), some (.int c), some (.ref q2), some (.ref q1), none] HM := (hP _ _ _ _).mpr ⟨HD, sD, hlaD, _, _, _, _, _, _, _, _, _, _, _, _, _, _, _, rfl, W6, lo6⟩
      obtain ⟨hqM, hd⟩ := A6
      have n1 : ¬ ("refused" : Str) = "told" := by decide +kernel
      rcases hd with ⟨tt, rfl⟩ | rfl | rfl
      · have kn : Kn HM (.int tt) := rfl
        simp only [RDa, RDb, RDv, RDk, RDx, RDe, RDd, RDp, RDq, List.getElem?_cons_zero, List.getElem?_cons_succ, List.set_cons_zero, List.set_cons_succ, List.cons.injEq, List.cons_ne_nil, reduceCtorEq, exists_eq_left', exists_eq_left, exists_and_left, and_assoc, exists_const, true_and, and_true, if_true, if_false, false_and, and_false, exists_false, false_or, or_false, true_implies, false_implies, implies_true, forall_eq, forall_eq', Bool.false_eq_true, if_neg, decide_eq_true_eq, Bool.not_eq_true', decide_eq_false_iff_not, Bool.not_true, Bool.not_false, List.length_cons, List.length_nil, sizeLine_eq, Nat.reduceAdd, Nat.reduceLeDiff, Nat.reduceLT, Int.reduceLT, Int.reduceLE, Int.emod_nonneg, ne_eq, Int.reduceEq, not_false_eq_true, not_true_eq_false, seqO_tup hqM, sp__law_whole, wholeV, kn]
        exact fin
      · simp only [RDa, RDb, RDv, RDk, RDx, RDe, RDd, RDp, RDq, List.getElem?_cons_zero, List.getElem?_cons_succ, List.set_cons_zero, List.set_cons_succ, List.cons.injEq, List.cons_ne_nil, reduceCtorEq, exists_eq_left', exists_eq_left, exists_and_left, and_assoc, exists_const, true_and, and_true, if_true, if_false, false_and, and_false, exists_false, false_or, or_false, true_implies, false_implies, implies_true, forall_eq, forall_eq', Bool.false_eq_true, if_neg, decide_eq_true_eq, Bool.not_eq_true', decide_eq_false_iff_not, Bool.not_true, Bool.not_false, List.length_cons, List.length_nil, sizeLine_eq, Nat.reduceAdd, Nat.reduceLeDiff, Nat.reduceLT, Int.reduceLT, Int.reduceLE, Int.emod_nonneg, ne_eq, Int.reduceEq, not_false_eq_true, not_true_eq_false, seqO_tup hqM, n1]
        exact fin
      · simp only [RDa, RDb, RDv, RDk, RDx, RDe, RDd, RDp, RDq, List.getElem?_cons_zero, List.getElem?_cons_succ, List.set_cons_zero, List.set_cons_succ, List.cons.injEq, List.cons_ne_nil, reduceCtorEq, exists_eq_left', exists_eq_left, exists_and_left, and_assoc, exists_const, true_and, and_true, if_true, if_false, false_and, and_false, exists_false, false_or, or_false, true_implies, false_implies, implies_true, forall_eq, forall_eq', Bool.false_eq_true, if_neg, decide_eq_true_eq, Bool.not_eq_true', decide_eq_false_iff_not, Bool.not_true, Bool.not_false, List.length_cons, List.length_nil, sizeLine_eq, Nat.reduceAdd, Nat.reduceLeDiff, Nat.reduceLT, Int.reduceLT, Int.reduceLE, Int.emod_nonneg, ne_eq, Int.reduceEq, not_false_eq_true, not_true_eq_false, seqO_tup hqM, n1]
        exact fin
    · rintro la σ HE z
      obtain ⟨HD, sD, hlaD, u14, u15, u16, u17, m, hs, os, AA', f, A, A2, R2, kp, m2, hs2, rfl, W', lo⟩ := (hP _ _ _ _).mp z
      exact h_s _ _ ⟨_, _, _, _, _, _, _, _, _, _, _, _, _, _, _, _, rfl, W'.refix (W.same sD).inHm, by omega, by omega⟩
  rintro _ HE ⟨u14, u15, u16, u17, m, hs, n', os', AE, fE, A, A2, R2, kp, m2, hs2, rfl, W', hn', hos'⟩
  refine seq_rel (fun σ1 H => σ1 = [some (.ref a), some (.ref t), some (.int w0), some (.int r0), some (.int d0), some (.int b0), some (.int g), some (.ref tl), some (.ref R.m), some (.ref hd), some (.ref A.p), some (.ref A3.p), some (.ref ol), some (.ref kp), u14, u15, u16, u17, none] ∧ ∃ os, H ol = some (.lst os) ∧ OldOk AE H os ∧ RunAt K H A3 m0 []) (fun N_t h_t => ?_) ?_
  · simp only [RDa, RDb, RDv, RDk, RDx, RDe, RDd, RDp, RDq, List.getElem?_cons_zero, List.getElem?_cons_succ, List.set_cons_zero, List.set_cons_succ, List.cons.injEq, List.cons_ne_nil, reduceCtorEq, exists_eq_left', exists_eq_left, exists_and_left, and_assoc, exists_const, true_and, and_true, if_true, if_false, false_and, and_false, exists_false, false_or, or_false, true_implies, false_implies, implies_true, forall_eq, forall_eq', Bool.false_eq_true, if_neg, decide_eq_true_eq, Bool.not_eq_true', decide_eq_false_iff_not, Bool.not_true, Bool.not_false, List.length_cons, List.length_nil, sizeLine_eq, Nat.reduceAdd, Nat.reduceLeDiff, Nat.reduceLT, Int.reduceLT, Int.reduceLE, Int.emod_nonneg, ne_eq, Int.reduceEq, not_false_eq_true, not_true_eq_false, seqO_lst W'.hk]
    have o2 : ol ∉ A2.al := fun h => by
      have := (W'.aA2 ol h).2
      rw [W'.aO.2] at this
      omega
    have oR2 : ol ∉ R2.al := fun h => by
      rcases RwA.al_or h with e | h
      · exact W'.aX (by rw [← W'.xR2, ← e]; exact W'.aO.1)
      · have := (W'.aR2 ol h).2
        rw [W'.aO.2] at this
        omega
    have oRA : ∀ c ∈ R2.al, c ∉ A2.al := fun c hc m => by
      rcases RwA.al_or hc with e | h
      · exact W'.aX (by rw [← W'.xR2, ← e]; exact (W'.aA2 c m).1)
      · have h1 := (W'.aR2 c h).2
        have h2 := (W'.aA2 c m).2
        omega
    refine ⟨AE, A2, R2, m2, hs2, n', ol, os', rfl, W'.run2, W'.rows2, W'.ok2, by omega, by have := W'.len2; omega, W'.low2, W'.ho, W'.old, by omega, W'.nt, W'.aO.1, fun c hc => (W'.aA2 c hc).1, o2, oR2, oRA, fun HF osF fF hoF oldF lF ntF => ⟨true, rfl, ?_⟩⟩
    rw [if_neg (by decide)]
    have hB : ∀ c ∈ (ol :: A2.mu'), c ∈ AE ∧ (fE c = 6 ∨ fE c = 3) := fun c hc => by
      rcases List.mem_cons.mp hc with e | h
      · rw [e]; exact ⟨W'.aO.1, .inl W'.aO.2⟩
      · have := W'.aA2 c (mu_al A2 c h)
        exact ⟨this.1, .inr this.2⟩
    have ntB := W'.ntB fun c hc => (hB c hc).1
    have WF : WB K H2 HF AE fE A R A3 ol tl m m0 hs n' osF := { W'.toWB with
      run := W'.run.fr fF (W'.offA fun c hc => by have := (hB c hc).2; omega) ntB
      rows := W'.rows.fr fF (W'.offR fun c hc => ⟨(hB c hc).1, by have := (hB c hc).2; omega⟩) ntB
      run3 := W'.run3.fr fF (fun x hx mm => by
        have h1 := (hB x mm).2
        have h2 := (W'.aA3 x hx).2
        omega) ntB
      ho := hoF
      old := oldF
      nt := ntF
      fx := fun c o e => ⟨(W'.fx c o e).1, fF _ _ (fun mm => (W'.fx c o e).1 (hB _ mm).1) (W'.fx c o e).2⟩ }
    refine WF.stands (by decide) (by decide) (by omega) (by omega) (fun HG osG gG hoG oldG lG => ⟨true, rfl, ?_⟩)
    rw [if_neg (by decide)]
    have WG := WF.stood gG hoG oldG
    exact h_t _ _ ⟨rfl, osG, hoG, oldG, WG.run3⟩
  rintro _ HG ⟨rfl, osG, hoG, oldG, run3⟩
  refine seq_rel (fun σ1 H => H = HG ∧ ∃ u16 u18, σ1 = [some (.ref a), some (.ref t), some (.int w0), some (.int r0), some (.int d0), some (.int b0), some (.int g), some (.ref tl), some (.ref R.m), some (.ref hd), some (.ref A.p), some (.ref A3.p), some (.ref ol), some (.ref kp), u14, u15, u16, u17, u18]) (fun N_u h_u => ?_) ?_
  · refine for_lcut (fun la H => la = ol ∧ H = HG) osG (fun Z hZ => ?_) (fun la i σ1 H => la = ol ∧ H = HG ∧ ∃ u16 u18, σ1 = [some (.ref a), some (.ref t), some (.int w0), some (.int r0), some (.int d0), some (.int b0), some (.int g), some (.ref tl), some (.ref R.m), some (.ref hd), some (.ref A.p), some (.ref A3.p), some (.ref ol), some (.ref kp), u14, u15, u16, u17, u18]) ?_ ?_ ?_ ?_
    · simp only [RDa, RDb, RDv, RDk, RDx, RDe, RDd, RDp, RDq, List.getElem?_cons_zero, List.getElem?_cons_succ, List.set_cons_zero, List.set_cons_succ, List.cons.injEq, List.cons_ne_nil, reduceCtorEq, exists_eq_left', exists_eq_left, exists_and_left, and_assoc, exists_const, true_and, and_true, if_true, if_false, false_and, and_false, exists_false, false_or, or_false, true_implies, false_implies, implies_true, forall_eq, forall_eq', Bool.false_eq_true, if_neg, decide_eq_true_eq, Bool.not_eq_true', decide_eq_false_iff_not, Bool.not_true, Bool.not_false, List.length_cons, List.length_nil, sizeLine_eq, Nat.reduceAdd, Nat.reduceLeDiff, Nat.reduceLT, Int.reduceLT, Int.reduceLE, Int.emod_nonneg, ne_eq, Int.reduceEq, not_false_eq_true, not_true_eq_false]
      exact hZ _ _ ⟨rfl, rfl⟩
    · rintro la H ⟨rfl, rfl⟩
      exact ⟨SqL.of hoG, rfl, rfl, _, _, rfl⟩
    · rintro la i σ H _ ⟨rfl, rfl, _⟩
      exact SqL.of hoG
    · rintro la i x σ H hx ⟨rfl, rfl, v16, v18, rfl⟩
      obtain ⟨qq, p1, p2, d, rfl, h1, h2, h3, h4⟩ := oldG x (List.mem_of_getElem? hx)
      have hq := hm_same _ _ h1
      have e1 := dat_same hm_same _ _ _ h2
      have e2 := dat_same hm_same _ _ _ h3
      have sh := (h4.mono (show 8 ≤ 64 by decide)).ok
      have ev := eqv_self h4.lay
      simp only [RDa, RDb, RDv, RDk, RDx, RDe, RDd, RDp, RDq, List.getElem?_cons_zero, List.getElem?_cons_succ, List.set_cons_zero, List.set_cons_succ, List.cons.injEq, List.cons_ne_nil, reduceCtorEq, exists_eq_left', exists_eq_left, exists_and_left, and_assoc, exists_const, true_and, and_true, if_true, if_false, false_and, and_false, exists_false, false_or, or_false, true_implies, false_implies, implies_true, forall_eq, forall_eq', Bool.false_eq_true, if_neg, decide_eq_true_eq, Bool.not_eq_true', decide_eq_false_iff_not, Bool.not_true, Bool.not_false, List.length_cons, List.length_nil, sizeLine_eq, Nat.reduceAdd, Nat.reduceLeDiff, Nat.reduceLT, Int.reduceLT, Int.reduceLE, Int.emod_nonneg, ne_eq, Int.reduceEq, not_false_eq_true, not_true_eq_false, hq, e1, e2, sh, ev]
      exact ⟨_, rfl⟩
    · rintro la σ H ⟨rfl, rfl, z⟩
      exact h_u _ _ ⟨rfl, z⟩
  rintro _ _ ⟨rfl, v16, v18, rfl⟩
  obtain ⟨dx3, hp3⟩ := run3.c.ins
  simp only [RDa, RDb, RDv, RDk, RDx, RDe, RDd, RDp, RDq, List.getElem?_cons_zero, List.getElem?_cons_succ, List.set_cons_zero, List.set_cons_succ, List.cons.injEq, List.cons_ne_nil, reduceCtorEq, exists_eq_left', exists_eq_left, exists_and_left, and_assoc, exists_const, true_and, and_true, if_true, if_false, false_and, and_false, exists_false, false_or, or_false, true_implies, false_implies, implies_true, forall_eq, forall_eq', Bool.false_eq_true, if_neg, decide_eq_true_eq, Bool.not_eq_true', decide_eq_false_iff_not, Bool.not_true, Bool.not_false, List.length_cons, List.length_nil, sizeLine_eq, Nat.reduceAdd, Nat.reduceLeDiff, Nat.reduceLT, Int.reduceLT, Int.reduceLE, Int.emod_nonneg, ne_eq, Int.reduceEq, not_false_eq_true, not_true_eq_false, hRun, RunL, hp3]
  refine ⟨A3, m0, rfl, run3.c, fun l H3' nl s3' hl => ?_⟩
  have r4 := run3.same s3'
  obtain ⟨dx4, hp4⟩ := r4.c.ins
  have ec : cntD m0 = .tuple [.int 0, .int 0, .int 0] := by
    unfold cntD
    rw [hm3.1, hm3.2.1, hm3.2.2.1]
  have shc := shp_cnt (m := m0)
  rw [ec] at shc
  have shk := (shc.mono (show 2 ≤ 64 by decide)).ok
  refine ⟨_, dat_cnt hl 7, by rw [ec]; exact shk, shk, ?_⟩
  rw [ec, if_pos (eqv_self shc.lay)]
  refine ⟨_, _, hp4, rfl, A3, m0, 0, rfl, r4.c, ok3', by decide, fun l2 rs H4' nl2 s4' hl2 ar2 => ?_⟩
  have e0 : thereN m0.ls.length m0.d = [] := by
    rw [hm3.2.2.2.2]
    unfold thereN
    simp
  rw [e0] at ar2
  have ers : rs = [] := by cases ar2; rfl
  subst ers
  intro p np
  have sp : Same H4' (upd H4' p (.lst [])) := same_new np
  have hp : (upd H4' p (.lst [])) p = some (.lst []) := upd_same
  generalize upd H4' p (.lst []) = H5' at sp hp ⊢
  have ev0 : PyData.eqv (.list []) (.list []) = true := eqv_self (by rfl)
  refine ⟨.list [], by rw [dat_lst (sp _ _ hl2) 7]; rfl, .list [], by rw [dat_lst hp 7]; rfl, rfl, rfl, ?_⟩
  rw [if_pos ev0]
  have r5 := (r4.same s4').same sp
  obtain ⟨dx5, hp5⟩ := r5.c.ins
  refine ⟨_, _, hp5, rfl, A3, m0, rfl, r5.c, fun l3 H6' nl3 s6' hl3 => ?_⟩
  rw [hm3.2.2.2.1] at hl3
  intro p3 np3
  have sp3 : Same H6' (upd H6' p3 (.lst [])) := same_new np3
  have hp3' : (upd H6' p3 (.lst [])) p3 = some (.lst []) := upd_same
  generalize upd H6' p3 (.lst []) = H7' at sp3 hp3' ⊢
  refine ⟨.list [], by rw [dat_lst (sp3 _ _ hl3) 7]; rfl, .list [], by rw [dat_lst hp3' 7]; rfl, rfl, rfl, ?_⟩
  rw [ev0]
  exact q _
end RP

namespace RP
open PySem PySem.Spec PyProof.Rows L2 L2H

/-- tests -/
def excB (K : PySem.W.Frag) (D : Addr) : Bool := decide (PySem.W.findIn K (.ref D) "__getattribute__" = some (some (.builtin "BaseException.__getattribute__"))) && (decide (PySem.W.findIn K (.ref D) "__getattr__" = some none) && (decide (PySem.W.subIn K (.ref D) (.type "BaseException") = some true) && (decide (PySem.W.hasDictIn K D = true) &&
  (decide (PySem.W.findIn K (.ref D) "__class__" = some (some (.builtin "object.__class__"))) && (decide (PySem.W.specialIn K (.builtin "object.__class__") "__get__" = some (some (.builtin "getset_descriptor.__get__"))) && (decide (PySem.W.takesIn K (.builtin "object.__class__") = some true) && decide (PySem.W.mroIn K D (.type "object") = some true)))))))
theorem excB_ok {K : PySem.W.Frag} {D : Addr} (h : excB K D = true) : ExcC K D := by
  unfold excB at h
  simp only [Bool.and_eq_true, decide_eq_true_eq] at h
  obtain ⟨h1, h2, h3, h4, h5, h6, h7, h8⟩ := h
  exact ⟨h1, h2, h3, h4, h5, h6, h7, h8⟩
def kitFB (K : PySem.W.Frag) (D : Str) (l : List (Str × Bool)) : Bool := l.all fun q => decide (PySem.W.kitOne K (.ref (He.ga K D)) (.ref (He.ga K q.1)) = some q.2)
theorem kitFB_ok {K : PySem.W.Frag} {D : Str} {l : List (Str × Bool)} (h : kitFB K D l = true) : ∀ q ∈ l, PySem.W.kitOne K (.ref (He.ga K D)) (.ref (He.ga K q.1)) = some q.2 := fun q hq => of_decide_eq_true (List.all_eq_true.mp h q hq)
def d_is_among : He.DefD := ⟨("is_among", none), "is_among", "is_among", defArgs s_is_among, defBody s_is_among, defScope s_is_among, [], []⟩
def d_is_bounds : He.DefD := ⟨("is_bounds", none), "is_bounds", "is_bounds", defArgs s_is_bounds, defBody s_is_bounds, defScope s_is_bounds, [], []⟩
def d_need_bounds : He.DefD := ⟨("need_bounds", none), "need_bounds", "need_bounds", defArgs s_need_bounds, defBody s_need_bounds, defScope s_need_bounds, [], []⟩
def d_need_ring : He.DefD := ⟨("need_ring", none), "need_ring", "need_ring", defArgs s_need_ring, defBody s_need_ring, defScope s_need_ring, [], []⟩
def d_least_ring : He.DefD := ⟨("least_ring", none), "least_ring", "least_ring", defArgs s_least_ring, defBody s_least_ring, defScope s_least_ring, [], []⟩
def d_is_text : He.DefD := ⟨("is_text", none), "is_text", "is_text", defArgs s_is_text, defBody s_is_text, defScope s_is_text, [], []⟩
def d_need_texts : He.DefD := ⟨("need_texts", none), "need_texts", "need_texts", defArgs s_need_texts, defBody s_need_texts, defScope s_need_texts, [], []⟩
def d__law_at : He.DefD := ⟨("_law_at", none), "_law_at", "_law_at", defArgs s__law_at, defBody s__law_at, defScope s__law_at, [], []⟩
def d__law_mixed : He.DefD := ⟨("_law_mixed", none), "_law_mixed", "_law_mixed", defArgs s__law_mixed, defBody s__law_mixed, defScope s__law_mixed, [], []⟩
def d__law_whole : He.DefD := ⟨("_law_whole", none), "_law_whole", "_law_whole", defArgs s__law_whole, defBody s__law_whole, defScope s__law_whole, [], []⟩
def d__law_texts : He.DefD := ⟨("_law_texts", none), "_law_texts", "_law_texts", defArgs s__law_texts, defBody s__law_texts, defScope s__law_texts, [], []⟩
def d__law_bounds : He.DefD := ⟨("_law_bounds", none), "_law_bounds", "_law_bounds", defArgs s__law_bounds, defBody s__law_bounds, defScope s__law_bounds, [], []⟩
def d_need_step : He.DefD := ⟨("need_step", none), "need_step", "need_step", defArgs s_need_step, defBody s_need_step, defScope s_need_step, [], []⟩
def d_Sender_init : He.DefD := ⟨("Sender", some "__init__"), "__init__", "Sender.__init__", defArgs s_Sender_init, defBody s_Sender_init, defScope s_Sender_init, [], []⟩
def d_Sender_span : He.DefD := ⟨("Sender", some "span"), "span", "Sender.span", defArgs s_Sender_span, defBody s_Sender_span, defScope s_Sender_span, [], []⟩
def d_Sender_sent : He.DefD := ⟨("Sender", some "sent"), "sent", "Sender.sent", defArgs s_Sender_sent, defBody s_Sender_sent, defScope s_Sender_sent, [], []⟩
def d_Sender_heard : He.DefD := ⟨("Sender", some "heard"), "heard", "Sender.heard", defArgs s_Sender_heard, defBody s_Sender_heard, defScope s_Sender_heard, [], []⟩
def d_Taker_init : He.DefD := ⟨("Taker", some "__init__"), "__init__", "Taker.__init__", defArgs s_Taker_init, defBody s_Taker_init, defScope s_Taker_init, [], []⟩
def d_Taker_gone : He.DefD := ⟨("Taker", some "gone"), "gone", "Taker.gone", defArgs s_Taker_gone, defBody s_Taker_gone, defScope s_Taker_gone, [], []⟩
def d_Taker_came : He.DefD := ⟨("Taker", some "came"), "came", "Taker.came", defArgs s_Taker_came, defBody s_Taker_came, defScope s_Taker_came, [], []⟩
def d_Taker_want : He.DefD := ⟨("Taker", some "want"), "want", "Taker.want", defArgs s_Taker_want, defBody s_Taker_want, defScope s_Taker_want, [], []⟩
def d_Post_init : He.DefD := ⟨("Post", some "__init__"), "__init__", "Post.__init__", defArgs s_Post_init, defBody s_Post_init, defScope s_Post_init, [], []⟩
def d_Post_posted : He.DefD := ⟨("Post", some "posted"), "posted", "Post.posted", defArgs s_Post_posted, defBody s_Post_posted, defScope s_Post_posted, [], []⟩
def d_Post_there : He.DefD := ⟨("Post", some "there"), "there", "Post.there", defArgs s_Post_there, defBody s_Post_there, defScope s_Post_there, [], []⟩
def d_Post_taken : He.DefD := ⟨("Post", some "taken"), "taken", "Post.taken", defArgs s_Post_taken, defBody s_Post_taken, defScope s_Post_taken, [], []⟩
def d_Run_done : He.DefD := ⟨("Run", some "done"), "done", "Run.done", defArgs s_Run_done, defBody s_Run_done, defScope s_Run_done, [], []⟩
def d_Run_do : He.DefD := ⟨("Run", some "do"), "do", "Run.do", defArgs s_Run_do, defBody s_Run_do, defScope s_Run_do, [], []⟩
def d_Run_out : He.DefD := ⟨("Run", some "out"), "out", "Run.out", defArgs s_Run_out, defBody s_Run_out, defScope s_Run_out, [], []⟩
def d_Run_counts : He.DefD := ⟨("Run", some "counts"), "counts", "Run.counts", defArgs s_Run_counts, defBody s_Run_counts, defScope s_Run_counts, [], []⟩
def d_Run_init : He.DefD := ⟨("Run", some "__init__"), "__init__", "Run.__init__", defArgs s_Run_init, defBody s_Run_init, defScope s_Run_init, [], []⟩
def d_Run_letters : He.DefD := ⟨("Run", some "letters"), "letters", "Run.letters", defArgs s_Run_letters, defBody s_Run_letters, defScope s_Run_letters, [], []⟩
def d_Run_answers : He.DefD := ⟨("Run", some "answers"), "answers", "Run.answers", defArgs s_Run_answers, defBody s_Run_answers, defScope s_Run_answers, [], []⟩
def d_Run_wrong : He.DefD := ⟨("Run", some "wrong"), "wrong", "Run.wrong", defArgs s_Run_wrong, defBody s_Run_wrong, defScope s_Run_wrong, [], []⟩
def d_Run_copied : He.DefD := ⟨("Run", some "copied"), "copied", "Run.copied", defArgs s_Run_copied, defBody s_Run_copied, defScope s_Run_copied, [], []⟩
def d__law_straight : He.DefD := ⟨("_law_straight", none), "_law_straight", "_law_straight", defArgs s__law_straight, defBody s__law_straight, defScope s__law_straight, [], []⟩
def d_Track_init : He.DefD := ⟨("Track", some "__init__"), "__init__", "Track.__init__", defArgs s_Track_init, defBody s_Track_init, defScope s_Track_init, [], []⟩
def d_Track_send : He.DefD := ⟨("Track", some "send"), "send", "Track.send", defArgs s_Track_send, defBody s_Track_send, defScope s_Track_send, [], []⟩
def d_Track_hand : He.DefD := ⟨("Track", some "hand"), "hand", "Track.hand", defArgs s_Track_hand, defBody s_Track_hand, defScope s_Track_hand, [], []⟩
def d_Track_tell : He.DefD := ⟨("Track", some "tell"), "tell", "Track.tell", defArgs s_Track_tell, defBody s_Track_tell, defScope s_Track_tell, [], []⟩
def d_Track_through : He.DefD := ⟨("Track", some "through"), "through", "Track.through", defArgs s_Track_through, defBody s_Track_through, defScope s_Track_through, [], []⟩
def d_by_a_letter : He.DefD := ⟨("by_a_letter", none), "by_a_letter", "by_a_letter", defArgs s_by_a_letter, defBody s_by_a_letter, defScope s_by_a_letter, [], []⟩
def d_by_an_answer : He.DefD := ⟨("by_an_answer", none), "by_an_answer", "by_an_answer", defArgs s_by_an_answer, defBody s_by_an_answer, defScope s_by_an_answer, [], []⟩
def d_breaking : He.DefD := ⟨("breaking", none), "breaking", "breaking", defArgs s_breaking, defBody s_breaking, defScope s_breaking, [], []⟩
def d__law_begun : He.DefD := ⟨("_law_begun", none), "_law_begun", "_law_begun", defArgs s__law_begun, defBody s__law_begun, defScope s__law_begun, [], []⟩
def d__law_send : He.DefD := ⟨("_law_send", none), "_law_send", "_law_send", defArgs s__law_send, defBody s__law_send, defScope s__law_send, [], []⟩
def d__law_is_there : He.DefD := ⟨("_law_is_there", none), "_law_is_there", "_law_is_there", defArgs s__law_is_there, defBody s__law_is_there, defScope s__law_is_there, [], []⟩
def d__law_hand : He.DefD := ⟨("_law_hand", none), "_law_hand", "_law_hand", defArgs s__law_hand, defBody s__law_hand, defScope s__law_hand, [], []⟩
def d__law_tell : He.DefD := ⟨("_law_tell", none), "_law_tell", "_law_tell", defArgs s__law_tell, defBody s__law_tell, defScope s__law_tell, [], []⟩
def d__law_moved : He.DefD := ⟨("_law_moved", none), "_law_moved", "_law_moved", defArgs s__law_moved, defBody s__law_moved, defScope s__law_moved, [], []⟩
def d__law_drawn : He.DefD := ⟨("_law_drawn", none), "_law_drawn", "_law_drawn", defArgs s__law_drawn, defBody s__law_drawn, defScope s__law_drawn, [], []⟩
def d__law_said : He.DefD := ⟨("_law_said", none), "_law_said", "_law_said", defArgs s__law_said, defBody s__law_said, defScope s__law_said, [], []⟩
def d__law_state : He.DefD := ⟨("_law_state", none), "_law_state", "_law_state", defArgs s__law_state, defBody s__law_state, defScope s__law_state, [], []⟩
def d__law_asked : He.DefD := ⟨("_law_asked", none), "_law_asked", "_law_asked", defArgs s__law_asked, defBody s__law_asked, defScope s__law_asked, [], []⟩
def d__law_is_kind : He.DefD := ⟨("_law_is_kind", none), "_law_is_kind", "_law_is_kind", defArgs s__law_is_kind, defBody s__law_is_kind, defScope s__law_is_kind, [], []⟩
def d__law_stands : He.DefD := ⟨("_law_stands", none), "_law_stands", "_law_stands", defArgs s__law_stands, defBody s__law_stands, defScope s__law_stands, [], []⟩
def d__law_twin : He.DefD := ⟨("_law_twin", none), "_law_twin", "_law_twin", defArgs s__law_twin, defBody s__law_twin, defScope s__law_twin, [], []⟩
def d__law_kept_stands : He.DefD := ⟨("_law_kept_stands", none), "_law_kept_stands", "_law_kept_stands", defArgs s__law_kept_stands, defBody s__law_kept_stands, defScope s__law_kept_stands, [], []⟩
def d__law_first : He.DefD := ⟨("_law_first", none), "_law_first", "_law_first", defArgs s__law_first, defBody s__law_first, defScope s__law_first, [], []⟩
def d_law : He.DefD := ⟨("law", none), "law", "law", defArgs s_law, defBody s_law, defScope s_law, [], []⟩
def fn : List He.DefD := [d_is_among, d_is_bounds, d_need_bounds, d_need_ring, d_least_ring, d_is_text, d_need_texts, d__law_at, d__law_mixed, d__law_whole, d__law_texts, d__law_bounds, d_need_step, d_Sender_init, d_Sender_span, d_Sender_sent, d_Sender_heard, d_Taker_init, d_Taker_gone, d_Taker_came, d_Taker_want, d_Post_init, d_Post_posted, d_Post_there, d_Post_taken, d_Run_done, d_Run_do, d_Run_out, d_Run_counts, d_Run_init, d_Run_letters, d_Run_answers, d_Run_wrong, d_Run_copied, d__law_straight, d_Track_init, d_Track_send, d_Track_hand, d_Track_tell, d_Track_through, d_by_a_letter, d_by_an_answer, d_breaking, d__law_begun, d__law_send, d__law_is_there, d__law_hand, d__law_tell, d__law_moved, d__law_drawn, d__law_said, d__law_state, d__law_asked, d__law_is_kind, d__law_stands, d__law_twin, d__law_kept_stands, d__law_first, d_law]
def fa : List He.Fa := [.free "len", .free "range", .free "min", .free "max", .free "isinstance", .free "int", .free "bool", .free "str", .free "list", .free "tuple", .free "dict", .free "sorted", .free "enumerate", .free "zip", .free "all", .free "ValueError", .glo "is_among", .glo "is_bounds", .int "MOST_DELAY" 20, .int "MOST_WINDOW" 20, .glo "need_bounds", .exc "BadBounds", .glo "BadBounds", .glo "need_ring", .exc "BadRing", .glo "BadRing", .int "MOST_RING" 200, .glo "least_ring", .glo "is_text", .int "MOST_SIGNS" 40, .glo "need_texts", .exc "BadTexts", .glo "BadTexts", .int "MOST_TEXTS" 400, .glo "_law_at", .glo "_law_mixed", .glo "_law_whole", .glo "_law_texts", .glo "_law_bounds", .glo "need_step", .exc "BadStep", .glo "BadStep", .int "MOST_NUMBER" 999999, .glo "WORDS", .glo "Sender", .mkr "Sender", .cls "Sender", .noat "Sender" "window", .noat "Sender" "ring", .noat "Sender" "many", .noat "Sender" "base", .noat "Sender" "top", .meth "Sender" "span", .meth "Sender" "sent", .exc "NotNow", .glo "NotNow", .meth "Sender" "heard", .glo "Taker", .mkr "Taker", .cls "Taker", .noat "Taker" "room", .noat "Taker" "ring", .noat "Taker" "wanted", .noat "Taker" "texts", .noat "Taker" "held", .meth "Taker" "gone", .meth "Taker" "came", .meth "Taker" "want", .glo "Post", .mkr "Post", .cls "Post", .noat "Post" "bound", .noat "Post" "things", .meth "Post" "posted", .meth "Post" "there", .meth "Post" "taken", .exc "NoLetter", .glo "NoLetter", .cls "Run", .meth "Run" "done", .noat "Run" "bounds", .noat "Run" "ring", .noat "Run" "lore", .noat "Run" "one", .noat "Run" "other", .noat "Run" "forth", .noat "Run" "home", .noat "Run" "steps", .meth "Run" "do", .meth "Run" "out", .meth "Run" "counts", .glo "Run", .mkr "Run", .meth "Run" "letters", .meth "Run" "answers", .meth "Run" "wrong", .meth "Run" "copied", .glo "_law_straight", .glo "Track", .mkr "Track", .cls "Track", .noat "Track" "steps", .noat "Track" "posts", .noat "Track" "replies", .meth "Track" "send", .meth "Track" "hand", .meth "Track" "tell", .meth "Track" "through", .glo "by_a_letter", .glo "by_an_answer", .glo "breaking", .exc "Safe", .glo "Safe", .glo "_law_begun", .glo "_law_send", .glo "_law_is_there", .glo "_law_hand", .glo "_law_tell", .glo "_law_moved", .glo "_law_drawn", .glo "_law_said", .exm "NotNow" "NotNow" true, .exm "NoLetter" "NotNow" false, .exm "NoLetter" "NoLetter" true, .glo "_law_state", .glo "_law_asked", .glo "_law_is_kind", .glo "_law_stands", .glo "_law_twin", .glo "_law_kept_stands", .glo "_law_first", .glo "law"]
def exB (K : PySem.W.Frag) : Bool := true && (He.tupB K "WORDS" ([.str "send", .str "hand", .str "tell"] : List He.Dv))
def loose : List Str := [("PostError" : Str), ("BadBounds" : Str), ("BadRing" : Str), ("BadTexts" : Str), ("BadStep" : Str), ("NotNow" : Str), ("NoLetter" : Str), ("Safe" : Str), ("MOST_WINDOW" : Str), ("MOST_DELAY" : Str), ("MOST_RING" : Str), ("MOST_TEXTS" : Str), ("MOST_SIGNS" : Str), ("is_among" : Str), ("is_bounds" : Str), ("is_text" : Str), ("need_bounds" : Str), ("need_ring" : Str), ("need_texts" : Str), ("least_ring" : Str), ("Post" : Str), ("Sender" : Str), ("Taker" : Str), ("WORDS" : Str), ("MOST_NUMBER" : Str), ("need_step" : Str), ("Run" : Str), ("Track" : Str), ("by_a_letter" : Str), ("by_an_answer" : Str), ("breaking" : Str), ("_law_at" : Str), ("_law_mixed" : Str), ("_law_whole" : Str), ("_law_bounds" : Str), ("_law_texts" : Str), ("_law_begun" : Str), ("_law_send" : Str), ("_law_is_there" : Str), ("_law_hand" : Str), ("_law_tell" : Str), ("_law_moved" : Str), ("_law_drawn" : Str), ("_law_straight" : Str), ("_law_said" : Str), ("_law_state" : Str), ("_law_asked" : Str), ("_law_is_kind" : Str), ("_law_stands" : Str), ("_law_twin" : Str), ("_law_kept_stands" : Str), ("_law_first" : Str)]
abbrev PW : Program := (PySem.W.OpenLaw.row PySem.Challenge.rw_ringpost_k06_steps_by_plain_numbers).prog
abbrev R : PySem.W.OpenRow := PySem.W.OpenLaw.row PySem.Challenge.rw_ringpost_k06_steps_by_plain_numbers
abbrev hk : PySem.W.Hook := He.hookX 5 fa fn [] [] exB
def ob (s : PySem.W.SharedT) : He.AlX := He.obsX 5 fa fn [] [] exB (HandSHeadRun.getT s)
theorem ob_eq (s : PySem.W.SharedT) : ob s = hk.obs s.abs := He.obsX_eq (HandSHeadRun.getT_eq s)
theorem run (w : World) : HandSHeadRun.RunEq R (PySem.W.view R.prog [59]) hk ob 12000 loose w := by
  intro os
  kernel_rfl
theorem facts {w : World} {K : PySem.W.Frag} {h : Heap} {mg : Str → Option Value} {f : Addr} (X : K.In h) (G : h.Ns mainGlobals mg) (hfa : mg ("law" : Str) = some (.ref f)) (c : He.SaysX fa fn [] [] exB w h K) :
    ∃ fd : FuncData, (∀ (s : Shared) (v : Value), BindsTo s fd ⟨[v], []⟩ [("_law_script", v)]) ∧ ∀ base : Heap, K.In base → base.Ns mainGlobals mg → FnOk PW w K mg base (L2N.CX PW w) 7 f fd ["_law_script"] (sp_law K) := by
  have cf : ∀ (i : Nat) {f : He.Fa}, fa[i]? = some f → f.ok K = true := fun i f h => c.t.d.fact i h
  have cd : ∀ {d : He.DefD}, d ∈ fn → ∃ fd, FunD K d.name d.qual d.params d.body d.scope (d.dvs K) (d.kws K) (He.fAd K d.at_) fd := fun h => c.t.d.defs h
  have cx := c.more
  unfold exB at cx
  simp only [Bool.true_and, Bool.and_eq_true] at cx
  have z0 := cx
  have ex0 : ∀ H, SqT K H (He.ga K "WORDS") [.str "send", .str "hand", .str "tell"] := fun H => He.tupB_ok z0 H
  have bl : Blt mg := ⟨He.free_ok X G (cf 0 (f := .free "len") rfl), He.free_ok X G (cf 1 (f := .free "range") rfl), He.free_ok X G (cf 2 (f := .free "min") rfl), He.free_ok X G (cf 3 (f := .free "max") rfl), He.free_ok X G (cf 4 (f := .free "isinstance") rfl), He.free_ok X G (cf 5 (f := .free "int") rfl), He.free_ok X G (cf 6 (f := .free "bool") rfl), He.free_ok X G (cf 7 (f := .free "str") rfl), He.free_ok X G (cf 8 (f := .free "list") rfl), He.free_ok X G (cf 9 (f := .free "tuple") rfl), He.free_ok X G (cf 10 (f := .free "dict") rfl), He.free_ok X G (cf 11 (f := .free "sorted") rfl), He.free_ok X G (cf 12 (f := .free "enumerate") rfl), He.free_ok X G (cf 13 (f := .free "zip") rfl), He.free_ok X G (cf 14 (f := .free "all") rfl), He.free_ok X G (cf 15 (f := .free "ValueError") rfl)⟩
  have c_is_among := fun (base : Heap) => ok_is_among (P := PW) (w := w) (base := base) (cd (d := d_is_among) (by simp [fn])) (He.glo_ok X G (cf 16 (f := .glo "is_among") rfl)) bl
  have c_is_bounds := fun (base : Heap) => ok_is_bounds (P := PW) (w := w) (base := base) (cd (d := d_is_bounds) (by simp [fn])) (He.glo_ok X G (cf 17 (f := .glo "is_bounds") rfl)) bl (c_is_among base) (He.int_ok X G (cf 18 (f := .int "MOST_DELAY" 20) rfl)) (He.int_ok X G (cf 19 (f := .int "MOST_WINDOW" 20) rfl))
  have e_BadBounds : ErrC K mg "BadBounds" := by
    have z := He.exc_ok (cf 21 (f := .exc "BadBounds") rfl)
    exact ⟨He.glo_ok X G (cf 22 (f := .glo "BadBounds") rfl), z.1, z.2.1, z.2.2.1, z.2.2.2⟩
  have c_need_bounds := fun (base : Heap) => ok_need_bounds (P := PW) (w := w) (base := base) (cd (d := d_need_bounds) (by simp [fn])) (He.glo_ok X G (cf 20 (f := .glo "need_bounds") rfl)) bl (c_is_bounds base) e_BadBounds
  have e_BadRing : ErrC K mg "BadRing" := by
    have z := He.exc_ok (cf 24 (f := .exc "BadRing") rfl)
    exact ⟨He.glo_ok X G (cf 25 (f := .glo "BadRing") rfl), z.1, z.2.1, z.2.2.1, z.2.2.2⟩
  have c_need_ring := fun (base : Heap) => ok_need_ring (P := PW) (w := w) (base := base) (cd (d := d_need_ring) (by simp [fn])) (He.glo_ok X G (cf 23 (f := .glo "need_ring") rfl)) bl (c_is_among base) e_BadRing (He.int_ok X G (cf 26 (f := .int "MOST_RING" 200) rfl))
  have c_least_ring := fun (base : Heap) => ok_least_ring (P := PW) (w := w) (base := base) (cd (d := d_least_ring) (by simp [fn])) (He.glo_ok X G (cf 27 (f := .glo "least_ring") rfl)) bl (c_need_bounds base)
  have c_is_text := fun (base : Heap) => ok_is_text (P := PW) (w := w) (base := base) (cd (d := d_is_text) (by simp [fn])) (He.glo_ok X G (cf 28 (f := .glo "is_text") rfl)) bl (He.int_ok X G (cf 29 (f := .int "MOST_SIGNS" 40) rfl))
  have e_BadTexts : ErrC K mg "BadTexts" := by
    have z := He.exc_ok (cf 31 (f := .exc "BadTexts") rfl)
    exact ⟨He.glo_ok X G (cf 32 (f := .glo "BadTexts") rfl), z.1, z.2.1, z.2.2.1, z.2.2.2⟩
  have c_need_texts := fun (base : Heap) => ok_need_texts (P := PW) (w := w) (base := base) (cd (d := d_need_texts) (by simp [fn])) (He.glo_ok X G (cf 30 (f := .glo "need_texts") rfl)) bl (c_is_text base) e_BadTexts (He.int_ok X G (cf 33 (f := .int "MOST_TEXTS" 400) rfl))
  have c__law_at := fun (base : Heap) (a : Addr) (ns : List Int) => ok__law_at (P := PW) (w := w) (base := base) (cd (d := d__law_at) (by simp [fn])) (He.glo_ok X G (cf 34 (f := .glo "_law_at") rfl)) bl a ns
  have c__law_mixed := fun (base : Heap) => ok__law_mixed (P := PW) (w := w) (base := base) (cd (d := d__law_mixed) (by simp [fn])) (He.glo_ok X G (cf 35 (f := .glo "_law_mixed") rfl)) bl
  have c__law_whole := fun (base : Heap) => ok__law_whole (P := PW) (w := w) (base := base) (cd (d := d__law_whole) (by simp [fn])) (He.glo_ok X G (cf 36 (f := .glo "_law_whole") rfl)) bl
  have c__law_texts := fun (base : Heap) => ok__law_texts (P := PW) (w := w) (base := base) (cd (d := d__law_texts) (by simp [fn])) (He.glo_ok X G (cf 37 (f := .glo "_law_texts") rfl)) bl (c__law_mixed base)
  have c__law_bounds := fun (base : Heap) (a : Addr) (ns : List Int) => ok__law_bounds (P := PW) (w := w) (base := base) (cd (d := d__law_bounds) (by simp [fn])) (He.glo_ok X G (cf 38 (f := .glo "_law_bounds") rfl)) bl (c__law_at base) (c__law_mixed base) a ns
  have e_BadStep : ErrC K mg "BadStep" := by
    have z := He.exc_ok (cf 40 (f := .exc "BadStep") rfl)
    exact ⟨He.glo_ok X G (cf 41 (f := .glo "BadStep") rfl), z.1, z.2.1, z.2.2.1, z.2.2.2⟩
  have c_need_step := fun (base : Heap) => ok_need_step (P := PW) (w := w) (base := base) (cd (d := d_need_step) (by simp [fn])) (He.glo_ok X G (cf 39 (f := .glo "need_step") rfl)) bl (c_is_among base) e_BadStep (He.int_ok X G (cf 42 (f := .int "MOST_NUMBER" 999999) rfl)) (He.glo_ok X G (cf 43 (f := .glo "WORDS") rfl)) ex0
  have hSender : SenderF K := ⟨He.cls_ok (cf 46 (f := .cls "Sender") rfl), He.noat_ok (cf 47 (f := .noat "Sender" "window") rfl), He.noat_ok (cf 48 (f := .noat "Sender" "ring") rfl), He.noat_ok (cf 49 (f := .noat "Sender" "many") rfl), He.noat_ok (cf 50 (f := .noat "Sender" "base") rfl), He.noat_ok (cf 51 (f := .noat "Sender" "top") rfl)⟩
  have c_Sender := fun (base : Heap) => ok_Sender_init (P := PW) (w := w) (base := base) (cd (d := d_Sender_init) (by simp [fn])) (He.glo_ok X G (cf 44 (f := .glo "Sender") rfl)) (He.mkr_ok (cf 45 (f := .mkr "Sender") rfl)) bl hSender
  have m_Sender_span := fun (base : Heap) => ok_Sender_span (P := PW) (w := w) (base := base) (cd (d := d_Sender_span) (by simp [fn])) (He.cls_ok (cf 46 (f := .cls "Sender") rfl)) (He.meth_ok (cf 52 (f := .meth "Sender" "span") rfl)) bl hSender
  have e_NotNow : ErrC K mg "NotNow" := by
    have z := He.exc_ok (cf 54 (f := .exc "NotNow") rfl)
    exact ⟨He.glo_ok X G (cf 55 (f := .glo "NotNow") rfl), z.1, z.2.1, z.2.2.1, z.2.2.2⟩
  have m_Sender_sent := fun (base : Heap) => ok_Sender_sent (P := PW) (w := w) (base := base) (cd (d := d_Sender_sent) (by simp [fn])) (He.cls_ok (cf 46 (f := .cls "Sender") rfl)) (He.meth_ok (cf 53 (f := .meth "Sender" "sent") rfl)) bl hSender (c_is_among base) e_NotNow
  have m_Sender_heard := fun (base : Heap) => ok_Sender_heard (P := PW) (w := w) (base := base) (cd (d := d_Sender_heard) (by simp [fn])) (He.cls_ok (cf 46 (f := .cls "Sender") rfl)) (He.meth_ok (cf 56 (f := .meth "Sender" "heard") rfl)) bl hSender
  have hTaker : TakerF K := ⟨He.cls_ok (cf 59 (f := .cls "Taker") rfl), He.noat_ok (cf 60 (f := .noat "Taker" "room") rfl), He.noat_ok (cf 61 (f := .noat "Taker" "ring") rfl), He.noat_ok (cf 62 (f := .noat "Taker" "wanted") rfl), He.noat_ok (cf 63 (f := .noat "Taker" "texts") rfl), He.noat_ok (cf 64 (f := .noat "Taker" "held") rfl)⟩
  have c_Taker := fun (base : Heap) => ok_Taker_init (P := PW) (w := w) (base := base) (cd (d := d_Taker_init) (by simp [fn])) (He.glo_ok X G (cf 57 (f := .glo "Taker") rfl)) (He.mkr_ok (cf 58 (f := .mkr "Taker") rfl)) bl hTaker
  have m_Taker_gone := fun (base : Heap) => ok_Taker_gone (P := PW) (w := w) (base := base) (cd (d := d_Taker_gone) (by simp [fn])) (He.cls_ok (cf 59 (f := .cls "Taker") rfl)) (He.meth_ok (cf 65 (f := .meth "Taker" "gone") rfl)) bl hTaker
  have m_Taker_came := fun (base : Heap) => ok_Taker_came (P := PW) (w := w) (base := base) (cd (d := d_Taker_came) (by simp [fn])) (He.cls_ok (cf 59 (f := .cls "Taker") rfl)) (He.meth_ok (cf 66 (f := .meth "Taker" "came") rfl)) bl hTaker
  have m_Taker_want := fun (base : Heap) => ok_Taker_want (P := PW) (w := w) (base := base) (cd (d := d_Taker_want) (by simp [fn])) (He.cls_ok (cf 59 (f := .cls "Taker") rfl)) (He.meth_ok (cf 67 (f := .meth "Taker" "want") rfl)) bl hTaker
  have hPost : PostF K := ⟨He.cls_ok (cf 70 (f := .cls "Post") rfl), He.noat_ok (cf 71 (f := .noat "Post" "bound") rfl), He.noat_ok (cf 72 (f := .noat "Post" "things") rfl)⟩
  have c_Post := fun (base : Heap) => ok_Post_init (P := PW) (w := w) (base := base) (cd (d := d_Post_init) (by simp [fn])) (He.glo_ok X G (cf 68 (f := .glo "Post") rfl)) (He.mkr_ok (cf 69 (f := .mkr "Post") rfl)) bl hPost
  have m_Post_posted := fun (base : Heap) => ok_Post_posted (P := PW) (w := w) (base := base) (cd (d := d_Post_posted) (by simp [fn])) (He.cls_ok (cf 70 (f := .cls "Post") rfl)) (He.meth_ok (cf 73 (f := .meth "Post" "posted") rfl)) bl hPost
  have m_Post_there := fun (base : Heap) => ok_Post_there (P := PW) (w := w) (base := base) (cd (d := d_Post_there) (by simp [fn])) (He.cls_ok (cf 70 (f := .cls "Post") rfl)) (He.meth_ok (cf 74 (f := .meth "Post" "there") rfl)) bl hPost
  have e_NoLetter : ErrC K mg "NoLetter" := by
    have z := He.exc_ok (cf 76 (f := .exc "NoLetter") rfl)
    exact ⟨He.glo_ok X G (cf 77 (f := .glo "NoLetter") rfl), z.1, z.2.1, z.2.2.1, z.2.2.2⟩
  have m_Post_taken := fun (base : Heap) => ok_Post_taken (P := PW) (w := w) (base := base) (cd (d := d_Post_taken) (by simp [fn])) (He.cls_ok (cf 70 (f := .cls "Post") rfl)) (He.meth_ok (cf 75 (f := .meth "Post" "taken") rfl)) bl hPost (m_Post_there base) (c_is_among base) e_NoLetter
  have hRun : RunF K := ⟨He.cls_ok (cf 78 (f := .cls "Run") rfl), He.noat_ok (cf 80 (f := .noat "Run" "bounds") rfl), He.noat_ok (cf 81 (f := .noat "Run" "ring") rfl), He.noat_ok (cf 82 (f := .noat "Run" "lore") rfl), He.noat_ok (cf 83 (f := .noat "Run" "one") rfl), He.noat_ok (cf 84 (f := .noat "Run" "other") rfl), He.noat_ok (cf 85 (f := .noat "Run" "forth") rfl), He.noat_ok (cf 86 (f := .noat "Run" "home") rfl), He.noat_ok (cf 87 (f := .noat "Run" "steps") rfl)⟩
  have m_Run_done := fun (base : Heap) => ok_Run_done (P := PW) (w := w) (base := base) (cd (d := d_Run_done) (by simp [fn])) (He.cls_ok (cf 78 (f := .cls "Run") rfl)) (He.meth_ok (cf 79 (f := .meth "Run" "done") rfl)) bl hRun hPost hSender hTaker (m_Post_posted base) (m_Post_taken base) (m_Sender_heard base) (m_Sender_sent base) (m_Sender_span base) (m_Taker_came base)
  have m_Run_do := fun (base : Heap) => ok_Run_do (P := PW) (w := w) (base := base) (cd (d := d_Run_do) (by simp [fn])) (He.cls_ok (cf 78 (f := .cls "Run") rfl)) (He.meth_ok (cf 88 (f := .meth "Run" "do") rfl)) bl hRun (m_Run_done base) (c_need_step base)
  have m_Run_out := fun (base : Heap) => ok_Run_out (P := PW) (w := w) (base := base) (cd (d := d_Run_out) (by simp [fn])) (He.cls_ok (cf 78 (f := .cls "Run") rfl)) (He.meth_ok (cf 89 (f := .meth "Run" "out") rfl)) bl hRun hTaker (m_Taker_gone base)
  have m_Run_counts := fun (base : Heap) => ok_Run_counts (P := PW) (w := w) (base := base) (cd (d := d_Run_counts) (by simp [fn])) (He.cls_ok (cf 78 (f := .cls "Run") rfl)) (He.meth_ok (cf 90 (f := .meth "Run" "counts") rfl)) bl hRun hSender hTaker (m_Sender_span base) (m_Taker_want base)
  have c_Run := fun (base : Heap) => ok_Run_init (P := PW) (w := w) (base := base) (cd (d := d_Run_init) (by simp [fn])) (He.glo_ok X G (cf 91 (f := .glo "Run") rfl)) (He.mkr_ok (cf 92 (f := .mkr "Run") rfl)) bl hRun (c_Post base) (c_Sender base) (c_Taker base) (c_need_bounds base) (c_need_ring base) (c_need_texts base)
  have m_Run_letters := fun (base : Heap) => ok_Run_letters (P := PW) (w := w) (base := base) (cd (d := d_Run_letters) (by simp [fn])) (He.cls_ok (cf 78 (f := .cls "Run") rfl)) (He.meth_ok (cf 93 (f := .meth "Run" "letters") rfl)) bl hRun hPost (m_Post_taken base) (m_Post_there base)
  have m_Run_answers := fun (base : Heap) => ok_Run_answers (P := PW) (w := w) (base := base) (cd (d := d_Run_answers) (by simp [fn])) (He.cls_ok (cf 78 (f := .cls "Run") rfl)) (He.meth_ok (cf 94 (f := .meth "Run" "answers") rfl)) bl hRun hPost (m_Post_taken base) (m_Post_there base)
  have m_Run_wrong := fun (base : Heap) => ok_Run_wrong (P := PW) (w := w) (base := base) (cd (d := d_Run_wrong) (by simp [fn])) (He.cls_ok (cf 78 (f := .cls "Run") rfl)) (He.meth_ok (cf 95 (f := .meth "Run" "wrong") rfl)) bl hRun (m_Run_counts base) (m_Run_out base)
  have m_Run_copied := fun (base : Heap) => ok_Run_copied (P := PW) (w := w) (base := base) (cd (d := d_Run_copied) (by simp [fn])) (He.cls_ok (cf 78 (f := .cls "Run") rfl)) (He.meth_ok (cf 96 (f := .meth "Run" "copied") rfl)) bl hRun (m_Run_do base) (c_Run base)
  have c__law_straight := fun (base : Heap) => ok__law_straight (P := PW) (w := w) (base := base) (cd (d := d__law_straight) (by simp [fn])) (He.glo_ok X G (cf 97 (f := .glo "_law_straight") rfl)) bl
  have hTrack : TrackF K := ⟨He.cls_ok (cf 100 (f := .cls "Track") rfl), He.noat_ok (cf 101 (f := .noat "Track" "steps") rfl), He.noat_ok (cf 102 (f := .noat "Track" "posts") rfl), He.noat_ok (cf 103 (f := .noat "Track" "replies") rfl)⟩
  have c_Track := fun (base : Heap) => ok_Track_init (P := PW) (w := w) (base := base) (cd (d := d_Track_init) (by simp [fn])) (He.glo_ok X G (cf 98 (f := .glo "Track") rfl)) (He.mkr_ok (cf 99 (f := .mkr "Track") rfl)) bl hTrack
  have m_Track_send := fun (base : Heap) => ok_Track_send (P := PW) (w := w) (base := base) (cd (d := d_Track_send) (by simp [fn])) (He.cls_ok (cf 100 (f := .cls "Track") rfl)) (He.meth_ok (cf 104 (f := .meth "Track" "send") rfl)) bl hTrack
  have m_Track_hand := fun (base : Heap) => ok_Track_hand (P := PW) (w := w) (base := base) (cd (d := d_Track_hand) (by simp [fn])) (He.cls_ok (cf 100 (f := .cls "Track") rfl)) (He.meth_ok (cf 105 (f := .meth "Track" "hand") rfl)) bl hTrack
  have m_Track_tell := fun (base : Heap) => ok_Track_tell (P := PW) (w := w) (base := base) (cd (d := d_Track_tell) (by simp [fn])) (He.cls_ok (cf 100 (f := .cls "Track") rfl)) (He.meth_ok (cf 106 (f := .meth "Track" "tell") rfl)) bl hTrack
  have m_Track_through := fun (base : Heap) => ok_Track_through (P := PW) (w := w) (base := base) (cd (d := d_Track_through) (by simp [fn])) (He.cls_ok (cf 100 (f := .cls "Track") rfl)) (He.meth_ok (cf 107 (f := .meth "Track" "through") rfl)) bl hTrack (m_Track_hand base) (m_Track_send base)
  have c_by_a_letter := fun (base : Heap) => ok_by_a_letter (P := PW) (w := w) (base := base) (cd (d := d_by_a_letter) (by simp [fn])) (He.glo_ok X G (cf 108 (f := .glo "by_a_letter") rfl)) bl hTrack (m_Track_hand base) (c_Track base) (m_Track_send base) (m_Track_tell base) (m_Track_through base)
  have c_by_an_answer := fun (base : Heap) => ok_by_an_answer (P := PW) (w := w) (base := base) (cd (d := d_by_an_answer) (by simp [fn])) (He.glo_ok X G (cf 109 (f := .glo "by_an_answer") rfl)) bl hTrack (c_Track base) (m_Track_send base) (m_Track_tell base) (m_Track_through base)
  have e_Safe : ErrC K mg "Safe" := by
    have z := He.exc_ok (cf 111 (f := .exc "Safe") rfl)
    exact ⟨He.glo_ok X G (cf 112 (f := .glo "Safe") rfl), z.1, z.2.1, z.2.2.1, z.2.2.2⟩
  have c_breaking := fun (base : Heap) => ok_breaking (P := PW) (w := w) (base := base) (cd (d := d_breaking) (by simp [fn])) (He.glo_ok X G (cf 110 (f := .glo "breaking") rfl)) bl (c_by_a_letter base) (c_by_an_answer base) (c_least_ring base) (c_need_bounds base) (c_need_ring base) e_Safe
  have c__law_begun := fun (base : Heap) => ok__law_begun (P := PW) (w := w) (base := base) (cd (d := d__law_begun) (by simp [fn])) (He.glo_ok X G (cf 113 (f := .glo "_law_begun") rfl)) bl
  have c__law_send := fun (base : Heap) => ok__law_send (P := PW) (w := w) (base := base) (cd (d := d__law_send) (by simp [fn])) (He.glo_ok X G (cf 114 (f := .glo "_law_send") rfl)) bl
  have c__law_is_there := fun (base : Heap) => ok__law_is_there (P := PW) (w := w) (base := base) (cd (d := d__law_is_there) (by simp [fn])) (He.glo_ok X G (cf 115 (f := .glo "_law_is_there") rfl)) bl
  have c__law_hand := fun (base : Heap) => ok__law_hand (P := PW) (w := w) (base := base) (cd (d := d__law_hand) (by simp [fn])) (He.glo_ok X G (cf 116 (f := .glo "_law_hand") rfl)) bl (c__law_is_there base)
  have c__law_tell := fun (base : Heap) => ok__law_tell (P := PW) (w := w) (base := base) (cd (d := d__law_tell) (by simp [fn])) (He.glo_ok X G (cf 117 (f := .glo "_law_tell") rfl)) bl (c__law_is_there base)
  have c__law_moved := fun (base : Heap) => ok__law_moved (P := PW) (w := w) (base := base) (cd (d := d__law_moved) (by simp [fn])) (He.glo_ok X G (cf 118 (f := .glo "_law_moved") rfl)) bl (c__law_hand base) (c__law_send base) (c__law_tell base)
  have c__law_drawn := fun (base : Heap) => ok__law_drawn (P := PW) (w := w) (base := base) (cd (d := d__law_drawn) (by simp [fn])) (He.glo_ok X G (cf 119 (f := .glo "_law_drawn") rfl)) bl
  have c__law_said := fun (base : Heap) => ok__law_said (P := PW) (w := w) (base := base) (cd (d := d__law_said) (by simp [fn])) (He.glo_ok X G (cf 120 (f := .glo "_law_said") rfl)) bl hRun (m_Run_do base) e_NoLetter e_NotNow (He.exm_ok (cf 121 (f := .exm "NotNow" "NotNow" true) rfl)) (He.exm_ok (cf 122 (f := .exm "NoLetter" "NotNow" false) rfl)) (He.exm_ok (cf 123 (f := .exm "NoLetter" "NoLetter" true) rfl))
  have c__law_state := fun (base : Heap) => ok__law_state (P := PW) (w := w) (base := base) (cd (d := d__law_state) (by simp [fn])) (He.glo_ok X G (cf 124 (f := .glo "_law_state") rfl)) bl (c__law_is_there base)
  have c__law_asked := fun (base : Heap) => ok__law_asked (P := PW) (w := w) (base := base) (cd (d := d__law_asked) (by simp [fn])) (He.glo_ok X G (cf 125 (f := .glo "_law_asked") rfl)) bl hRun (m_Run_answers base) (m_Run_counts base) (m_Run_letters base) (m_Run_out base) (m_Run_wrong base)
  have c__law_is_kind := fun (base : Heap) => ok__law_is_kind (P := PW) (w := w) (base := base) (cd (d := d__law_is_kind) (by simp [fn])) (He.glo_ok X G (cf 126 (f := .glo "_law_is_kind") rfl)) bl (c__law_whole base)
  have c__law_stands := fun (base : Heap) => ok__law_stands (P := PW) (w := w) (base := base) (cd (d := d__law_stands) (by simp [fn])) (He.glo_ok X G (cf 127 (f := .glo "_law_stands") rfl)) bl (c__law_asked base) (c__law_is_kind base) (c__law_state base)
  have c__law_twin := fun (base : Heap) => ok__law_twin (P := PW) (w := w) (base := base) (cd (d := d__law_twin) (by simp [fn])) (He.glo_ok X G (cf 128 (f := .glo "_law_twin") rfl)) bl
  have c__law_kept_stands := fun (base : Heap) => ok__law_kept_stands (P := PW) (w := w) (base := base) (cd (d := d__law_kept_stands) (by simp [fn])) (He.glo_ok X G (cf 129 (f := .glo "_law_kept_stands") rfl)) bl hRun (m_Run_do base) (m_Run_letters base) (c__law_stands base)
  have c__law_first := fun (base : Heap) (a : Addr) (ns : List Int) => ok__law_first (P := PW) (w := w) (base := base) (cd (d := d__law_first) (by simp [fn])) (He.glo_ok X G (cf 130 (f := .glo "_law_first") rfl)) bl (c__law_at base) (c__law_straight base) (c_breaking base) a ns
  obtain ⟨fd, FL⟩ := cd (d := d_law) (by simp [fn])
  have e := hfa.symm.trans (He.glo_ok X G (cf 131 (f := .glo "law") rfl))
  have e2 : f = He.fAd K ("law", none) := Value.ref.inj (Option.some.inj e)
  subst e2
  have b := FunD.bindsA (ps := ["_law_script"]) FL fun _ _ _ _ _ _ us hl => match us, hl with | [_], _ => rfl
  exact ⟨fd, fun s v => b s [v] rfl, fun base _ _ => ok_law FL bl hRun (m_Run_copied base) (m_Run_counts base) (c_Run base) (m_Run_letters base) (m_Run_out base) (c__law_at base) (c__law_begun base) (c__law_bounds base) (c__law_drawn base) (c__law_first base) (c__law_kept_stands base) (c__law_mixed base) (c__law_moved base) (c__law_said base) (c__law_stands base) (c__law_texts base) (c__law_twin base) (c__law_whole base)⟩
end RP
open PySem PySem.W PySem.Calls PyProof.Rows
theorem PySem.Challenge.cw_ringpost_k06_steps_by_plain_numbers_holds : PySem.Challenge.rw_ringpost_k06_steps_by_plain_numbers.Holds := by
  w_on; o_law
  refine HandSHeadRun.head_any (r := OpenLaw.row PySem.Challenge.rw_ringpost_k06_steps_by_plain_numbers) (q := view (OpenLaw.row PySem.Challenge.rw_ringpost_k06_steps_by_plain_numbers).prog [59]) (H := RP.hk) (ob := RP.ob) (M := 12000) (loose := RP.loose) (d := HandSHeadRun.topDef (OpenLaw.row PySem.Challenge.rw_ringpost_k06_steps_by_plain_numbers).prog 59) (kwd := []) RP.ob_eq
    (by kernel_rfl) (fun s => by kernel_rfl) RP.run (by kernel_rfl) (by kernel_rfl) (by kernel_rfl) (by rfl) (by first | assumption | decide +kernel) (by decide +kernel) ⟨rfl, rfl, rfl, rfl, rfl, by decide +kernel⟩ ?hw ?hc
  case hw => w_witness2
  case hc =>
    refine RP.walk_W (l := PySem.Challenge.rw_ringpost_k06_steps_by_plain_numbers) (n := 63) (k := 7) (x := "_law_script") (CX := fun w => L2N.CX RP.PW w) rfl (by decide) (by kernel_rfl) ⟨rfl, by decide, by decide⟩ ?F (fun _ _ _ _ _ z => by
      obtain ⟨_, _, _, _, _, _, _, _, _, _, _, _, q⟩ := z
      exact q)
    intro w mg fa h Y G hmg0
    obtain ⟨K, KX, c⟩ := Y
    have hmg : mg ("law" : PySem.Str) = some (.ref fa) := by
      have e : (HandSHeadRun.topDef (OpenLaw.row PySem.Challenge.rw_ringpost_k06_steps_by_plain_numbers).prog 59).name = ("law" : PySem.Str) := by kernel_rfl
      rw [← e]
      exact hmg0
    obtain ⟨fd, hb, hF⟩ := RP.facts (w := w) KX G hmg c
    exact ⟨K, fd, RP.sp_law K, KX, hb, fun H a ns hl hO hS => ⟨a, ns, rfl, hS, fun _ => rfl⟩, hF⟩

