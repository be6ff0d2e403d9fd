import PyProof.Rows.All
import Wide.All
import OpenK.AllK
import Wide.FinOn
import HandS.ForMost
import HandS.ForExc
import HandS.TryMany
import HandS.IsInst
import HandS.ExcIs
import HandS.Conv
import HandS.More
import HandS.Zip
import HandS.TupAny
import HandS.TupLen
import HandS.HotCalls
import HandS.HeadHook4
import HandS.HeadEnd
import HandS.Head2
import PySem.Challenge.RW_ringpost_k12_steps_as_lines
set_option Elab.async false
set_option linter.all false
set_option maxRecDepth 100000
set_option maxHeartbeats 4000000
open PySem PySem.Spec PyProof.Rows L2
local macro_rules | `(tactic| walk_at "st0") => `(tactic| simp only [L2.start, List.map_cons, List.map_nil, List.length_cons, List.length_nil, List.replicate, List.append_nil, List.cons_append, List.nil_append, Nat.zero_add, Nat.reduceAdd, Nat.reduceSub, Nat.sub_self])
local macro_rules | `(tactic| walk_at "len") => `(tactic| (intro h; first | (obtain ⟨e, _⟩ := h; rw [e]; rfl) | (obtain ⟨_, e, _⟩ := h; rw [e]; rfl) | (obtain ⟨_, _, e, _⟩ := h; rw [e]; rfl) | (obtain ⟨_, _, _, e, _⟩ := h; rw [e]; rfl) | (obtain ⟨_, _, _, _, e, _⟩ := h; rw [e]; rfl) | (obtain ⟨_, _, _, _, _, e, _⟩ := h; rw [e]; rfl) | (obtain ⟨_, _, _, _, _, _, e, _⟩ := h; rw [e]; rfl) | (obtain ⟨_, _, _, _, _, _, _, e, _⟩ := h; rw [e]; rfl) | (obtain ⟨_, _, _, _, _, _, _, _, e, _⟩ := h; rw [e]; rfl) | (obtain ⟨_, _, _, _, _, _, _, _, _, e, _⟩ := h; rw [e]; rfl) | (obtain ⟨_, _, _, _, _, _, _, _, _, _, e, _⟩ := h; rw [e]; rfl) | (obtain ⟨_, _, _, _, _, _, _, _, _, _, _, e, _⟩ := h; rw [e]; rfl) | (obtain ⟨_, _, _, _, _, _, _, _, _, _, _, _, e, _⟩ := h; rw [e]; rfl) | (obtain ⟨_, _, _, _, _, _, _, _, _, _, _, _, _, e, _⟩ := h; rw [e]; rfl) | (obtain ⟨_, _, _, _, _, _, _, _, _, _, _, _, _, _, e, _⟩ := h; rw [e]; rfl) | (obtain ⟨_, _, _, _, _, _, _, _, _, _, _, _, _, _, _, e, _⟩ := h; rw [e]; rfl) | (obtain ⟨_, _, _, _, _, _, _, _, _, _, _, _, _, _, _, _, e, _⟩ := h; rw [e]; rfl) | (obtain ⟨_, _, _, _, _, _, _, _, _, _, _, _, _, _, _, _, _, e, _⟩ := h; rw [e]; rfl) | (obtain ⟨_, _, _, _, _, _, _, _, _, _, _, _, _, _, _, _, _, _, e, _⟩ := h; rw [e]; rfl) | (obtain ⟨_, _, _, _, _, _, _, _, _, _, _, _, _, _, _, _, _, _, _, e, _⟩ := h; rw [e]; rfl) | (obtain ⟨_, _, _, _, _, _, _, _, _, _, _, _, _, _, _, _, _, _, _, _, e, _⟩ := h; rw [e]; rfl) | (obtain ⟨_, _, _, _, _, _, _, _, _, _, _, _, _, _, _, _, _, _, _, _, _, e, _⟩ := h; rw [e]; rfl) | (obtain ⟨_, _, _, _, _, _, _, _, _, _, _, _, _, _, _, _, _, _, _, _, _, _, e, _⟩ := h; rw [e]; rfl) | (obtain ⟨_, _, _, _, _, _, _, _, _, _, _, _, _, _, _, _, _, _, _, _, _, _, _, e, _⟩ := h; rw [e]; rfl) | (obtain ⟨_, _, _, _, _, _, _, _, _, _, _, _, _, _, _, _, _, _, _, _, _, _, _, _, e, _⟩ := h; rw [e]; rfl) | (obtain ⟨_, _, _, _, _, _, _, _, _, _, _, _, _, _, _, _, _, _, _, _, _, _, _, _, _, e, _⟩ := h; rw [e]; rfl)))

namespace RP
open PySem PySem.Spec PyProof.Rows L2

/-! ### a def, a method, a class as callers use them -/
section
variable (P : Program) (w : World) (K : PySem.W.Frag) (mg : Str → Option Value) (base : Heap)
def Cal (k : Nat) (x : Str) (sp : Sp) : Prop :=
  ∃ (f : Addr) (fd : FuncData) (ps : List Str), FnOk P w K mg base (L2N.CX P w) k f fd ps sp ∧ mg x = some (.ref f) ∧ PySem.W.keepIn K (.ref f) = true ∧ Binds K fd ps []
def MCal (k : Nat) (C : Addr) (m : Str) (sp : Sp) : Prop :=
  Cls K C ∧ ∃ (f : Addr) (fd : FuncData) (ps : List Str), FnOk P w K mg base (L2N.CX P w) k f fd ps sp ∧ Meth K C m f ∧ Binds K fd ps []
def KCal (k : Nat) (x : Str) (C : Addr) (sp : Sp) : Prop :=
  ∃ (f : Addr) (fd : FuncData) (ps : List Str), Mk K C f ∧ FnOk P w K mg base (L2N.CX P w) k f fd ps sp ∧ mg x = some (.ref C) ∧ Binds K fd ps []
end
section
variable {X : Cx} {k : Nat} {C : Addr} {sp : Sp} {W : WX} {x m : Str} {p pos apos : Pos} {e o : Expr} {es : List Expr} {ta : TE} {t : TA}
theorem pe_fn (c : Cal X.prog X.w X.K X.mg X.base k x sp) (hr : Room k X.A) (tk : L2N.Takes X W) (ha : PA X (e :: es) t) (hg : Gl X x := by rfl) (hdb : (x == ("__debug__" : Str)) = false := by decide)
    (he : starEach (e :: es) X.env = (false, eval e X.env) :: starEach es X.env := by rfl) (hpl : (backTo pos (starEach es X.env)).any (·.1) = false := by rfl) :
    PE X (.Call (.Name x p) (e :: es) [] pos) (tCallS sp (WE W) t) := by
  obtain ⟨f, fd, ps, F, hm, hk, hb⟩ := c
  exact pe_callS F hr hg hm hk hb (fun σ => L2N.passAt tk σ) ha hdb he hpl
def tMethS (C : Addr) (m : Str) (sp : Sp) (E : L2.St → XK) (ta : TE) (t : TA) : TE := fun σ H Q => ta σ H fun x H1 => ∃ a dx fs, x = .ref a ∧ H1 a = some (.ins C dx fs) ∧ fs.lookup m = none ∧ t σ H1 fun vs H2 => sp (x :: vs) H2 Q (E σ)
theorem pe_mth {pl : Sem Bool} (he : PE X o ta) (c : MCal X.prog X.w X.K X.mg X.base k C m sp) (hr : Room k X.A) (tk : L2N.Takes X W) (ha : PA X (e :: es) t)
    (hst : starEach (e :: es) X.env = (false, eval e X.env) :: starEach es X.env := by rfl) (hpl : (backTo pos (starEach es X.env)).any (·.1) = false := by rfl)
    (ht : eval (.Call (.Attribute o m apos) (e :: es) [] pos) X.env = (do
      let ov ← eval o X.env
      standAt apos.atName
      let (f, first) ← holding [ov] (getMethod ov m pl)
      callWith pos f first (backTo pos (starEach (e :: es) X.env)) (backToKw pos (keywordEach [] X.env))) := by rfl) :
    PE X (.Call (.Attribute o m apos) (e :: es) [] pos) (tMethS C m sp (WE W) ta t) := by
  obtain ⟨cl, f, fd, ps, F, hm, hb⟩ := c
  refine ⟨fun pins s σ H Q I h => ?_⟩
  refine PySem.W.methodCall_KW (pl := pl) (thn (he.run pins s σ H _ I h) fun u s1 ⟨x, H1, I1, rx, a, dx, fs, ex, ea, l, q⟩ => ?_) ht
  subst ex
  obtain rfl : u = Value.ref a := rx
  refine getmeth_ok I1 ea cl hm l ?_
  refine PySem.W.callWith_K (first := [.ref a]) (h₀ := X.base) I.ok.mod.kin hm.kp (thn (ha.run pos pins s1 σ H1 _ I1 q) fun us s2 ⟨vs, H2, I2, r, q2⟩ => ⟨I2.kIn, ?_⟩) hst hpl
  exact run_fnS (us := .ref a :: us) (vs := .ref a :: vs) F hr hb (L2N.passAt tk σ) I2 (.cons rfl r) q2
theorem pe_mth0 {pl : Sem Bool} (he : PE X o ta) (c : MCal X.prog X.w X.K X.mg X.base k C m sp) (hr : Room k X.A) (tk : L2N.Takes X W)
    (ht : eval (.Call (.Attribute o m apos) [] [] pos) X.env = (do
      let ov ← eval o X.env
      standAt apos.atName
      let (f, first) ← holding [ov] (getMethod ov m pl)
      callWith pos f first (backTo pos (starEach [] X.env)) (backToKw pos (keywordEach [] X.env))) := by rfl) :
    PE X (.Call (.Attribute o m apos) [] [] pos) (tMethS C m sp (WE W) ta tNil) := by
  obtain ⟨cl, f, fd, ps, F, hm, hb⟩ := c
  refine ⟨fun pins s σ H Q I h => ?_⟩
  refine PySem.W.methodCall_KW (pl := pl) (thn (he.run pins s σ H _ I h) fun u s1 ⟨x, H1, I1, rx, a, dx, fs, ex, ea, l, q⟩ => ?_) ht
  subst ex
  obtain rfl : u = Value.ref a := rx
  refine getmeth_ok I1 ea cl hm l ?_
  exact PySem.W.callWith_K0 (first := [.ref a]) I1.kIn hm.kp (run_fnS (us := [.ref a]) (vs := [.ref a]) F hr hb (L2N.passAt tk σ) I1 (.cons rfl .nil) q)
def tMakeS (C : Addr) (sp : Sp) (E : L2.St → XK) (t : TA) : TE := fun σ H Q => t σ H fun vs H1 => ∀ x dx, H1 x = none → H1 dx = none → dx ≠ x →
  sp (.ref x :: vs) (upd (upd H1 dx (.own x)) x (.ins C dx [])) (fun v H2 => v = .non ∧ Q (.ref x) H2) (E σ)
theorem run_mkS {pins : List (Addr × Obj)} {σ : L2.St} {H : Hp} {s : Shared} {Q : VK} {us : List Value} {vs : List V} {f : Addr} {fd : FuncData} {ps : List Str} (M : Mk X.K C f) (F : FnOk X.prog X.w X.K X.mg X.base (L2N.CX X.prog X.w) k f fd ps sp) (hr : Room (k + 1) X.A) (hb : Binds X.K fd ps [])
    (tk : L2N.Takes X W) (I : Inv X pins σ H s) (r : Vals vs us)
    (h : ∀ x dx, H x = none → H dx = none → dx ≠ x → sp (.ref x :: vs) (upd (upd H dx (.own x)) x (.ins C dx [])) (fun v H2 => v = .non ∧ Q (.ref x) H2) (WE W σ)) :
    wpAny (model X.prog X.w) X.A (call (.ref C) us) (EP X pins σ Q) X.xe s := by
  have hq := h (s.heap.objs.size + 1) s.heap.objs.size (I.hok.fresh (Nat.le_succ _)) (I.hok.fresh (Nat.le_refl _)) (Nat.ne_of_lt (Nat.lt_succ_self _))
  have I2 := Inv.made (C := C) I
  have r2 : Vals (V.ref (s.heap.objs.size + 1) :: vs) (Value.ref (s.heap.objs.size + 1) :: us) := .cons rfl r
  have hl : (Value.ref (s.heap.objs.size + 1) :: us ++ []).length = ps.length := by
    have e := r2.length
    rw [F.len _ _ _ _ hq] at e
    rw [List.append_nil]
    exact e.symm
  have bb := hb _ (Value.ref (s.heap.objs.size + 1) :: us) I2.kIn hl
  rw [List.append_nil] at bb
  refine wpAny_call (make_map (f := f) I.kIn M.makes M.init (beq_iff_eq.mp M.fn) (codeAny_mono (F.run _ X.stack _ _ ⟨Value.ref (s.heap.objs.size + 1) :: us, []⟩ (Value.ref (s.heap.objs.size + 1) :: us) _ _ (WE W σ) (hr.make C us [])
    (I2.env0.make C us []) bb r2 hq) fun r s' hq' => ?_))
  cases r with
  | error e => exact tk e s' (L2N.XE.of_call I2 (fun _ _ _ h => h) hq')
  | ok fl =>
    cases fl with
    | ret u =>
      obtain ⟨v, H', I3, rv, ev, q3⟩ := I2.after hq'
      subst ev
      exact ⟨rv, ⟨V.ref (s.heap.objs.size + 1), H', I3, rfl, q3⟩⟩
    | next => exact False.elim hq'
    | brk => exact False.elim hq'
    | cont => exact False.elim hq'
theorem pe_mk (c : KCal X.prog X.w X.K X.mg X.base k x C sp) (hr : Room (k + 1) X.A) (tk : L2N.Takes X W) (ha : PA X (e :: es) t) (hg : Gl X x := by rfl) (hdb : (x == ("__debug__" : Str)) = false := by decide)
    (he : starEach (e :: es) X.env = (false, eval e X.env) :: starEach es X.env := by rfl) (hpl : (backTo pos (starEach es X.env)).any (·.1) = false := by rfl) :
    PE X (.Call (.Name x p) (e :: es) [] pos) (tMakeS C sp (WE W) t) := by
  obtain ⟨f, fd, ps, M, F, hm, hb⟩ := c
  refine ⟨fun pins s σ H Q I h => ?_⟩
  refine wpAny_Call_Name_kw (ld_glob I hg hm ?_ hdb)
  refine PySem.W.callWith_K (h₀ := X.base) I.ok.mod.kin M.kp (thn (ha.run pos pins s σ H _ I h) fun us s1 ⟨vs, H1, I1, r, q⟩ => ⟨I1.kIn, ?_⟩) he hpl
  exact run_mkS M F hr hb tk I1 r q
theorem pe_mk0 (c : KCal X.prog X.w X.K X.mg X.base k x C sp) (hr : Room (k + 1) X.A) (tk : L2N.Takes X W) (hg : Gl X x := by rfl) (hdb : (x == ("__debug__" : Str)) = false := by decide) :
    PE X (.Call (.Name x p) [] [] pos) (tMakeS C sp (WE W) tNil) := by
  obtain ⟨f, fd, ps, M, F, hm, hb⟩ := c
  refine ⟨fun pins s σ H Q I h => ?_⟩
  refine wpAny_Call_Name_kw (ld_glob I hg hm ?_ hdb)
  exact PySem.W.callWith_K0 I.kIn M.kp (run_mkS (us := []) M F hr hb tk I .nil h)
end
/-! ### a def by its body -/
/-- the facts of a def of the module | of a method -/
abbrev FnP (K : PySem.W.Frag) (at_ : Str × Option Str) (x qual : Str) (st : Stmt) : Prop := ∃ fd, FunD K x qual (defArgs st) (defBody st) (defScope st) [] [] (He.fAd K at_) fd
section
variable {P : Program} {w : World} {K : PySem.W.Frag} {mg : Str → Option Value} {base : Heap}
theorem fn_cal {x : Str} {st : Stmt} {N ps : List Str} {k : Nat} {sp : Sp} (F : FnP K (x, none) x x st) (hm : mg x = some (.ref (He.ga K x))) (S : FnScope N ps (defScope st)) (len : ∀ vs H Q E, sp vs H Q E → vs.length = ps.length)
    (hbd : ∀ (kV doc pm : Value) (an : Option Addr) (cdv ct : Value) (us : List Value), us.length = ps.length → bindArgs (PySem.W.fnOf x x (defArgs st) (defBody st) (defScope st) .none kV doc pm an cdv ct) ⟨us, []⟩ = pure (ps.zip us))
    (hbody : ∀ (f : Addr) (cdv : Value) (A : Around) (outer : List Env) (s : Shared) (H : Hp) (vs : List V) (Q : VK) (E : XK), Room k (A.deeper (envOfC x (defScope st) s.heap.objs.size f cdv)) → sp vs H Q E →
      ∃ t, PSs (cxOf (L2N.CX P w) P w K mg base N x (defScope st) f cdv A outer s H E) (defBody st) t ∧ t { nx := fun _ H' => Q .non H', rt := Q } (start N vs) H) : Cal P w K mg base (k + 1) x sp := by
  obtain ⟨fd, F⟩ := F
  exact ⟨_, fd, ps, F.ok S len fun cdv A outer s H vs Q E hr h => hbody _ cdv A outer s H vs Q E hr h, hm, F.kp, F.bindsN hbd⟩
theorem fn_mcal {c m qual : Str} {st : Stmt} {N ps : List Str} {k : Nat} {sp : Sp} (F : FnP K (c, some m) m qual st) (hc : Cls K (He.ga K c)) (hm : Meth K (He.ga K c) m (He.ma K (He.ga K c) m)) (S : FnScope N ps (defScope st)) (len : ∀ vs H Q E, sp vs H Q E → vs.length = ps.length)
    (hbd : ∀ (kV doc pm : Value) (an : Option Addr) (cdv ct : Value) (us : List Value), us.length = ps.length → bindArgs (PySem.W.fnOf m qual (defArgs st) (defBody st) (defScope st) .none kV doc pm an cdv ct) ⟨us, []⟩ = pure (ps.zip us))
    (hbody : ∀ (f : Addr) (cdv : Value) (A : Around) (outer : List Env) (s : Shared) (H : Hp) (vs : List V) (Q : VK) (E : XK), Room k (A.deeper (envOfC qual (defScope st) s.heap.objs.size f cdv)) → sp vs H Q E →
      ∃ t, PSs (cxOf (L2N.CX P w) P w K mg base N qual (defScope st) f cdv A outer s H E) (defBody st) t ∧ t { nx := fun _ H' => Q .non H', rt := Q } (start N vs) H) : MCal P w K mg base (k + 1) (He.ga K c) m sp := by
  obtain ⟨fd, F⟩ := F
  exact ⟨hc, _, fd, ps, F.ok S len fun cdv A outer s H vs Q E hr h => hbody _ cdv A outer s H vs Q E hr h, hm, F.bindsN hbd⟩
theorem fn_kcal {c qual : Str} {st : Stmt} {N ps : List Str} {k : Nat} {sp : Sp} (F : FnP K (c, some "__init__") "__init__" qual st) (hm : mg c = some (.ref (He.ga K c))) (M : Mk K (He.ga K c) (He.ma K (He.ga K c) "__init__")) (S : FnScope N ps (defScope st)) (len : ∀ vs H Q E, sp vs H Q E → vs.length = ps.length)
    (hbd : ∀ (kV doc pm : Value) (an : Option Addr) (cdv ct : Value) (us : List Value), us.length = ps.length → bindArgs (PySem.W.fnOf "__init__" qual (defArgs st) (defBody st) (defScope st) .none kV doc pm an cdv ct) ⟨us, []⟩ = pure (ps.zip us))
    (hbody : ∀ (f : Addr) (cdv : Value) (A : Around) (outer : List Env) (s : Shared) (H : Hp) (vs : List V) (Q : VK) (E : XK), Room k (A.deeper (envOfC qual (defScope st) s.heap.objs.size f cdv)) → sp vs H Q E →
      ∃ t, PSs (cxOf (L2N.CX P w) P w K mg base N qual (defScope st) f cdv A outer s H E) (defBody st) t ∧ t { nx := fun _ H' => Q .non H', rt := Q } (start N vs) H) : KCal P w K mg base (k + 1) c (He.ga K c) sp := by
  obtain ⟨fd, F⟩ := F
  exact ⟨_, fd, ps, M, F.ok S len fun cdv A outer s H vs Q E hr h => hbody _ cdv A outer s H vs Q E hr h, hm, F.bindsN hbd⟩
end
/-! ### the built-in names -/
structure Blt (mg : Str → Option Value) : Prop where
  len : mg "len" = none
  range : mg "range" = none
  min : mg "min" = none
  max : mg "max" = none
  isi : mg "isinstance" = none
  int : mg "int" = none
  bool : mg "bool" = none
  str : mg "str" = none
  list : mg "list" = none
  tuple : mg "tuple" = none
  dict : mg "dict" = none
  sorted : mg "sorted" = none
  enumerate : mg "enumerate" = none
  zip : mg "zip" = none
  all : mg "all" = none
  ValueError : mg "ValueError" = none
end RP

/-! ### in an except suite: a def that is handed the caught error -/
namespace RP
open PySem PySem.Spec PyProof.Rows L2 L2H HotX
section
variable {prog : Program} {w : World} {A : Around} {E : Value → Shared → Prop} {s : Shared}
theorem list_end_hot {it l x1 : Addr} {i : Nat} {items} {Q : Option Value → Shared → Prop} (hot : HotAt A x1 s.heap)
    (hit : s.heap.IsListIter it l i) (hl : s.heap.IsList l items) (hx : items[i]? = none) (hne : x1 ≠ it)
    (hQ : ∀ h', (∀ b o, b ≠ it → s.heap.get? b = some o → h'.get? b = some o) → Q none { s with heap := h' }) : wpAny (model prog w) A (pyNext (.ref it)) Q E s := by
  obtain ⟨o, ho, hc, hd⟩ := id hit
  obtain ⟨ol, hol, _, nl, hdl⟩ := hl
  obtain ⟨hh, o1, vs1, h1, d1, c1⟩ := hot
  unfold pyNext
  refine wpAny_bind (wpAny_attempt (wpAny_callSpecial?_slot (name := Str.ofString "__next__") hit.typeIs slot_listiter_next
    (wpAny_call_entry slot_listiter_next hit.typeIs entry_listiter_next ?_ (args_listiter_next _))))
  show wpAny _ _ (field (.ref it) 0 >>= _) _ _ s
  refine wpAny_bind (wpAny_field ho hd (x := .ref l) rfl ?_)
  show wpAny _ _ (if (Value.ref l == Value.none) = true then _ else _) _ _ s
  rw [if_neg (show ¬ ((Value.ref l == Value.none) = true) from Bool.false_ne_true)]
  show wpAny _ _ (field (.ref it) 1 >>= _) _ _ s
  refine wpAny_bind (wpAny_field ho hd (x := .int i 0) rfl ?_)
  show wpAny _ _ (seqItems? (.ref l) >>= _) _ _ s
  refine wpAny_bind (wpAny_seqItems hol hdl ?_)
  simp only [Int.toNat_natCast, hx]
  refine wpAny_bind (wpAny_rule (wpAny_bind (wpAny_setField ho hd (by simp) ?_)))
  show wpAny _ _ (newExc (.type "StopIteration") [] >>= _) _ _ _
  refine wpAny_bind ?_
  simp only [newExc, newTuple]
  refine wpAny_bind (wpAny_newObj_type ?_ (by size_fits))
  refine wpAny_bind (m := firstArgMember _ _) (wpAny_of_eq (a := Value.none) (by first | rfl | (simp only [firstArgMember]; rfl)) ?_)
  refine wpAny_newObj_type ?_ (by size_fits)
  have h1' := (Heap.get?_update_other s.heap (Obj.mapFields (·.setIfInBounds 0 .none)) hne.symm).trans h1
  refine raiseNew_hot ⟨hh, o1, vs1, Heap.get?_push_of_some _ (Heap.get?_push_of_some _ h1'), d1, c1⟩ (Nat.ne_of_lt (Heap.lt_size (Heap.get?_push_of_some _ h1'))) (Heap.get?_push_size _ rfl) rfl (by first | (simp; done) | (simp; omega) | (simp only [Array.size_append]; simp; omega)) ?_
  refine wpAny_bind (wpAny_isInstance (T := "StopIteration") (b := true) ⟨_, Heap.get?_update_self _ (Heap.get?_push_size _ rfl) rfl, rfl⟩ isSubtype_stop ?_)
  refine wpAny_pure (hQ _ fun b o hb e => ?_)
  have e' := (Heap.get?_update_other s.heap (Obj.mapFields (·.setIfInBounds 0 .none)) (Ne.symm hb)).trans e
  rw [Heap.get?_update_other _ _ (Nat.ne_of_gt (Heap.lt_size (Heap.get?_push_of_some _ e')))]
  exact Heap.get?_push_of_some _ (Heap.get?_push_of_some _ e')
end

theorem turn_listH {P : Program} {w : World} {K : PySem.W.Frag} {tg : Expr} (a it : Addr) : TurnH P w K tg (Itl K a) [it] it (fun i h => h.IsListIter it a i) where
  mem := by simp
  obj := fun i h st b hb => by
    have e : b = it := by simpa using hb
    subst e
    obtain ⟨o, e, c, d⟩ := st
    exact ⟨o, e, fun v z => by rw [d] at z; cases z⟩
  keep := fun i h h' st k => st.at fun o e => k it (by simp) o e
  item := by
    intro X hP hw hK hc i pins s σ H E I hf st hg
    subst hP hw hK
    obtain ⟨xs, x, hq, hx⟩ := hg
    obtain ⟨its, rv, p, hz⟩ := I.list hq
    obtain ⟨u, hu, ru⟩ := rv.get hx
    obtain ⟨f0, f1, f2, f3, f4, f5⟩ := hf it (by simp)
    refine wpAny_pyNext_list_item st p.isList (x := u) (by simpa using hu) fun h' st' sb => ?_
    have I1 : Inv X pins σ H { s with heap := h' } := I.turned (t' := s.toks) (fun b o hb e => (sb.2 b hb).trans e) f0 f1 f3 f4 f5
    obtain ⟨o, e, c, d⟩ := id st'
    exact ⟨u, rfl, go_of (s := { s with heap := h' }) e c d (by decide) ⟨x, H, I1, ru, ⟨rfl, fun ys hy => by rw [I.list_inj hy hq]; exact hx⟩, st', fun b hb => (hf b hb).1⟩⟩
  done := by
    intro X hP hw hK hc i pins s σ H E I hf st hg
    subst hP hw hK
    obtain ⟨xs, hq, hx⟩ := hg
    obtain ⟨its, rv, p, hz⟩ := I.list hq
    obtain ⟨f0, f1, f2, f3, f4, f5⟩ := hf it (by simp)
    have hl := rv.length
    obtain ⟨q, ⟨hh, v1, e1, c1⟩, hq1⟩ := hc
    have P1 := I.pin q (List.mem_append_left _ hq1)
    have hne : q.1 ≠ it := f5 q (List.mem_append_left _ hq1)
    refine list_end_hot ⟨hh, q.2, v1, P1.1, e1, c1⟩ st p.isList (by simp; omega) hne fun h' eb => ⟨rfl, I.turned (t' := s.toks) eb f0 f1 f3 f4 f5⟩
  self := fun _ _ _ _ _ st h => wpAny_pyIter_listiter st h

section
variable {X : Cx} {tg : Expr}
theorem pi_listH {l : Expr} {tl : TE} (hl : PE X l tl) : PIH X tg l (iList X.K tl) := by
  refine ⟨fun pins s σ H R I h => thn (hl.run pins s σ H _ I h) fun v s1 ⟨x, H1, I1, r1, a, ex, ⟨xs, hq⟩, q⟩ => ?_⟩
  subst ex
  cases r1
  obtain ⟨its, rv, p, hz⟩ := I1.list hq
  refine wpAny_pyIter_list p.isList ?_
  refine ⟨s1.heap.objs.size, [s1.heap.objs.size], _, _, H1, rfl, I1.kept (t' := s1.toks) fun b o e => Heap.get?_push_of_some _ e, turn_listH a _, ⟨_, Heap.get?_push_size _ rfl, rfl, rfl⟩, fun b hb => ?_, q⟩
  have e : b = s1.heap.objs.size := by simpa using hb
  subst e
  exact I1.fpOk (Nat.le_refl _) (I1.hok.fresh (Nat.le_refl _))
end
/-- what a def promises that is called within a suite: p is the handled exception -/
structure FnE (P : Program) (w : World) (K : PySem.W.Frag) (mg : Str → Option Value) (base : Heap) (k : Nat) (f : Addr) (fd : FuncData) (ps : List Str) (sp : Addr → Value → Option Addr → Sp) : Prop where
  len : ∀ a c d vs H Q E, sp a c d vs H Q E → vs.length = ps.length
  run : ∀ (A : Around) (outer : List Env) (s : Shared) (H : Hp) (args : Args) (us : List Value) (vs : List V) (Q : VK) (E : XK) (p : Addr × Obj) (c : Value) (d : Option Addr), RoomH k A → Hot1 A p → L2N.Zn c d p.2 → PinOk outer H s p → Env0 P w K mg base A outer s H → BindsTo s fd args (ps.zip us) → Vals vs us → sp p.1 c d vs H Q E →
    codeAny (model P w) A (.call (.ref f) args) (CR (L2N.CX P w) outer P w H s Q E) s
theorem fn_ofE {P : Program} {w : World} {K : PySem.W.Frag} {mg : Str → Option Value} {base : Heap} {k : Nat} {f : Addr} {name qual : Str} {params : Arguments} {body : List Stmt} {scope : Scope} {dV kV doc pm cdv ct oc : Value} {an od : Option Addr}
    {osl : Array (Option Value)} {N ps : List Str} {sp : Addr → Value → Option Addr → Sp} (lk : K.lookup f = some ⟨oc, od, .func (PySem.W.fnOf name qual params body scope dV kV doc pm an cdv ct), osl⟩) (hcd : PySem.W.codeIn K cdv qual = true) (S : FnScope N ps scope)
    (len : ∀ a c d vs H Q E, sp a c d vs H Q E → vs.length = ps.length)
    (hbody : ∀ (A : Around) (outer : List Env) (s : Shared) (H : Hp) (vs : List V) (Q : VK) (E : XK) (p : Addr × Obj) (c : Value) (d : Option Addr), Hot1 A p → L2N.Zn c d p.2 → RoomH k (A.deeper (envOfC qual scope s.heap.objs.size f cdv)) → sp p.1 c d vs H Q E →
      ∃ t, PSs (cxH (L2N.CX P w) P w K mg base N qual scope f cdv A outer s H E p) body t ∧ t { nx := fun _ H' => Q .non H', rt := Q } (L2.start N vs) H) :
    FnE P w K mg base (k + 1) f (PySem.W.fnOf name qual params body scope dV kV doc pm an cdv ct) ps sp := by
  constructor
  · exact len
  intro A outer s H args us vs Q E p c d hr hot hz hpin e0 hb r hsp
  have hin : ∀ b o, base.get? b = some o → s.heap.get? b = some o := fun b o e => (e0.bs b o e).1
  have hK : K.In s.heap := PySem.W.Frag.In.keeps e0.mod.kin hin
  have hpar : ∀ y ∈ ps.zip us, scope.names.lookup y.1 = some .local ∨ (scope.names.lookup y.1 = some .cell ∧ ((cellsFrom (s.heap.objs.size + 1) scope.names []).lookup y.1).isSome = true) := by
    rintro ⟨n, v⟩ hy
    have q := S.par n (List.of_mem_zip hy).1
    cases q with
    | inl q => exact Or.inl q
    | inr q => exact Or.inr ⟨q, PySem.W.cellsFrom_some _ _ _ (Or.inl q)⟩
  refine codeAny_call_function hr.depth (hK _ _ lk) rfl S.co S.gen rfl (PySem.W.codeRec_of hK hcd) (hb _ _ _ _ (wpAny_newFunctionEnv_cells S.kind hpar ?_))
  intro env he s1 x
  subst he
  refine ⟨(e0.mod.nolimit.keeps hin).keeps x.toInCall.keep, codeAny_func ?_⟩
  obtain ⟨t, ht, hq⟩ := hbody A outer s H vs Q E p c d hot hz (hr.deeper _) hsp
  have I := inv_startH (CX := L2N.CX P w) (K := K) (mg := mg) (base := base) (N := N) (qual := qual) (f := f) (cd := cdv) (E := E) S hpin e0 (len _ _ _ _ _ _ _ hsp) r x
  refine wpAny_mono (ht.run [] s1 _ H _ I hq) ?_ fun _ _ z => z
  intro fl s' hs
  cases fl with
  | ret u => exact match hs with | ⟨v, _, H', J, rv, q⟩ => ⟨v, H', J.os, J.bare, J.base, J.hok, rv, q⟩
  | next => exact match hs with | ⟨_, H', J, q⟩ => ⟨V.non, H', J.os, J.bare, J.base, J.hok, rfl, q⟩
  | brk => exact match hs with | ⟨_, _, _, q⟩ => q.elim
  | cont => exact match hs with | ⟨_, _, _, q⟩ => q.elim
section
variable {X : Cx} {k : Nat} {sp : Addr → Value → Option Addr → Sp} {cls : Value} {dd : Option Addr} {W : WX} {x m : Str} {pos q : Pos} {e o : Expr} {es : List Expr} {ta : TE} {t : TA} {p : Addr × Obj}
/-- a def of the module, as a suite's call uses it -/
def CalE (P : Program) (w : World) (K : PySem.W.Frag) (mg : Str → Option Value) (base : Heap) (k : Nat) (x : Str) (sp : Addr → Value → Option Addr → Sp) : Prop :=
  ∃ (f : Addr) (fd : FuncData) (ps : List Str), FnE P w K mg base k f fd ps sp ∧ mg x = some (.ref f) ∧ PySem.W.keepIn K (.ref f) = true ∧ L2.Binds K fd ps []
theorem pe_fnE (c : CalE X.prog X.w X.K X.mg X.base k x sp) (hr : RoomH k X.A) {a : Addr} {oe : Obj} (hot : Hot1 X.A (a, oe)) (hz : L2N.Zn cls dd oe) (hp : (a, oe) ∈ X.pn) (tk : L2N.Takes X W) (ha : PA X (e :: es) t) (hg : Gl X x := by rfl) (hdb : (x == ("__debug__" : Str)) = false := by decide)
    (he : starEach (e :: es) X.env = (false, eval e X.env) :: starEach es X.env := by rfl) (hpl : (backTo pos (starEach es X.env)).any (·.1) = false := by rfl) :
    PE X (.Call (.Name x q) (e :: es) [] pos) (tCallS (sp a cls dd) (WE W) t) := by
  obtain ⟨f, fd, ps, F, hm, hk, hb⟩ := c
  constructor
  intro pins s σ H Q I h
  refine wpAny_Call_Name_kw (ld_glob I hg hm ?_ hdb)
  refine PySem.W.callWith_K (h₀ := X.base) I.ok.mod.kin hk (thn (ha.run pos pins s σ H _ I h) ?_) he hpl
  rintro us s1 ⟨vs, H1, I1, r, hsp⟩
  refine ⟨I1.kIn, ?_⟩
  have b := hb s1 us I1.kIn (by rw [List.append_nil, ← r.length]; exact F.len _ _ _ _ _ _ _ hsp)
  rw [List.append_nil] at b
  have P1 := I1.pin (a, oe) (List.mem_append_left _ hp)
  have hpin : PinOk X.stack H1 s1 (a, oe) := ⟨P1.1, P1.2.1, fun hm => (List.mem_cons.mp (I1.stkSub a hm)).elim P1.2.2.1 P1.2.2.2.1, P1.2.2.2.2⟩
  refine wpAny_call (codeAny_mono (F.run X.A X.stack s1 H1 ⟨us, []⟩ us vs Q (WE W σ) (a, oe) cls dd hr hot hz hpin I1.env0 b r hsp) fun rs s' hq => ?_)
  cases rs with
  | error e => exact L2N.passAt tk σ pins H1 s1 e s' I1 hq
  | ok fl => cases fl with
    | ret u => exact I1.after hq
    | next => exact hq.elim
    | brk => exact hq.elim
    | cont => exact hq.elim
def clsOf : V → Option Value
  | .ref a => some (.ref a)
  | .ty n => some (.type n)
  | _ => none
/-- isinstance(e, c), e the handled exception -/
def rIsEC (K : PySem.W.Frag) (a : Addr) (cls : Value) : List V → Hp → VK → Prop := fun xs H Q => ∃ (c : V) (cv : Value) (b : Bool), xs = [.ref a, c] ∧ clsOf c = some cv ∧ PySem.W.kitOne K cls cv = some b ∧ Q (.bl b) H
theorem isE {D a : Addr} {oe : Obj} (C : ExcC X.K D) (hp : (a, oe) ∈ X.pn) (hz : L2N.Zn cls dd oe) (hc : cls = .ref D) (hd : dd = none) (hf : ∃ vs, oe.data = .fields vs) : CallR X (.builtin "isinstance") (rIsEC X.K a cls) := by
  subst hc hd
  rintro pins s σ H xs us Q I r ⟨c, cv, b, rfl, hcv, e, q⟩
  obtain ⟨u1, u2, rfl, r1, r2⟩ := vals2 r
  cases r1
  have ec : u2 = cv := by
    cases c <;> simp only [clsOf, Option.some.injEq, reduceCtorEq] at hcv
    · rw [← hcv]; exact r2
    · rw [← hcv]; exact r2
  subst ec
  have hget := (I.pin (a, oe) (List.mem_append_left _ hp)).1
  have J : PySem.W.InstAt s.heap a oe D none := by
    obtain ⟨oc, od, oda, osl⟩ := oe
    obtain ⟨z1, z2, _⟩ := hz
    obtain ⟨vs, hv⟩ := hf
    dsimp only at z1 z2 hv
    subst z1 z2 hv
    exact ⟨hget, rfl, rfl, trivial⟩
  exact PySem.W.kia_one (PySem.W.handS_kitx_exc C.hg C.hk C.hs C.hd C.ha C.hn C.ht C.hm) I.kIn J e (fun z => nomatch z) fun tk => ⟨.bl b, H, I.kept (t' := tk) fun _ _ z => z, rfl, q⟩
theorem tkN {a' : Addr} {pn' : List (Addr × Obj)} : L2N.Takes (X.suite a' pn') (fun _ _ _ _ => False) := fun _ _ ⟨_, _, _, _, _, _, _, _, _, _, _, _, _, _, _, _, w⟩ => w.elim
theorem tkB {s : Shared} {H : Hp} {sc : Scope} {ce : Env} {fp : List Addr} : L2N.Takes (X.blk s H sc ce fp) (fun _ _ _ _ => False) := fun _ _ ⟨_, _, _, _, _, _, _, _, _, _, _, _, _, _, _, _, w⟩ => w.elim
end
/-- a def of the module for suites, by its body -/
theorem fn_calE {P : Program} {w : World} {K : PySem.W.Frag} {mg : Str → Option Value} {base : Heap} {x : Str} {st : Stmt} {N ps : List Str} {k : Nat} {sp : Addr → Value → Option Addr → Sp} (F : FnP K (x, none) x x st) (hm : mg x = some (.ref (He.ga K x))) (S : FnScope N ps (defScope st))
    (len : ∀ a c d vs H Q E, sp a c d vs H Q E → vs.length = ps.length)
    (hbd : ∀ (kV doc pm : Value) (an : Option Addr) (cdv ct : Value) (us : List Value), us.length = ps.length → bindArgs (PySem.W.fnOf x x (defArgs st) (defBody st) (defScope st) .none kV doc pm an cdv ct) ⟨us, []⟩ = pure (ps.zip us))
    (hbody : ∀ (f : Addr) (cdv : Value) (A : Around) (outer : List Env) (s : Shared) (H : Hp) (vs : List V) (Q : VK) (E : XK) (p : Addr × Obj) (c : Value) (d : Option Addr), Hot1 A p → L2N.Zn c d p.2 → RoomH k (A.deeper (envOfC x (defScope st) s.heap.objs.size f cdv)) → sp p.1 c d vs H Q E →
      ∃ t, PSs (cxH (L2N.CX P w) P w K mg base N x (defScope st) f cdv A outer s H E p) (defBody st) t ∧ t { nx := fun _ H' => Q .non H', rt := Q } (L2.start N vs) H) : CalE P w K mg base (k + 1) x sp := by
  obtain ⟨fd, F⟩ := F
  obtain ⟨oc, od, dV, kV, doc, pm, an, cdv, ct, osl, rfl, lk, hcd, _, _⟩ := F.ex
  exact ⟨_, _, ps, fn_ofE lk hcd S len fun A outer s H vs Q E p c d h1 h2 hr h => hbody _ cdv A outer s H vs Q E p c d h1 h2 hr h, hm, F.kp, F.bindsN hbd⟩
theorem roomS {j k : Nat} {A : Around} {x : Option Value} (hr : Room j A) (h : k ≤ j) : RoomH k (A.mark x) := ⟨(roomH_of (hr.mono h)).dp, (roomH_of (hr.mono h)).un⟩
end RP

/-! ### rules whose readings simp can reckon -/
namespace RP
open PySem PySem.Spec PyProof.Rows L2
section
variable {X : Cx} {e : Expr} {st : Stmt}
theorem pe_imp {t t' : TE} (h : PE X e t) (i : ∀ σ H Q, t' σ H Q → t σ H Q) : PE X e t' := ⟨fun pins s σ H Q I q => h.run pins s σ H Q I (i σ H Q q)⟩
theorem pt_imp {t t' : TT} (h : PT X e t) (i : ∀ σ H Q, t' σ H Q → t σ H Q) : PT X e t' := ⟨fun pins s σ H Q I q => h.run pins s σ H Q I (i σ H Q q)⟩
theorem ps_imp {t t' : TS} (h : PS X st t) (i : ∀ D σ H, t' D σ H → t D σ H) : PS X st t' := ⟨fun pins s σ H D I q => h.run pins s σ H D I (i D σ H q)⟩
theorem call_imp {f : Value} {r r' : List V → Hp → VK → Prop} (h : CallR X f r) (i : ∀ vs H Q, r' vs H Q → r vs H Q) : CallR X f r' := fun pins s σ H xs us Q I v q => h pins s σ H xs us Q I v (i xs H Q q)
theorem op_imp {f : Value → Value → Sem Value} {r r' : R2} (h : OpR X f r) (i : ∀ x y H Q, r' x y H Q → r x y H Q) : OpR X f r' := fun pins s σ H x y v u Q I rx ry q => h pins s σ H x y v u Q I rx ry (i x y H Q q)
theorem ix_imp {r r' : R2} (h : IxR X r) (i : ∀ x y H Q, r' x y H Q → r x y H Q) : IxR X r' := fun a b pins s σ H x y v u Q I rx ry q => h a b pins s σ H x y v u Q I rx ry (i x y H Q q)
end
/-! #### what stands at a value -/
def tyN (H : Hp) : V → Option String
  | .non => some "NoneType"
  | .bl _ => some "bool"
  | .int _ => some "int"
  | .str _ => some "str"
  | .ref a => match H a with
    | some (.lst _) => some "list"
    | some (.tup _) => some "tuple"
    | some (.dK _) => some "dict"
    | _ => none
  | _ => none
def seqO (H : Hp) (a : Addr) : Option (List V) := match H a with
  | some (.lst xs) => some xs
  | some (.tup xs) => some xs
  | some (.frz _ (.lst xs)) => some xs
  | _ => none
def keyV : V → Option Key
  | .int n => some (.inl n)
  | .str x => some (.inr x)
  | _ => none
theorem keyV_eq {v : V} {k : Key} (h : keyV v = some k) : v = kV k := by
  cases v <;> simp only [keyV, Option.some.injEq, reduceCtorEq] at h <;> subst h <;> rfl
theorem tyN_ok {K : PySem.W.Frag} {H : Hp} {x : V} {t : String} (h : tyN H x = some t) : TyX K H x (.type t) := by
  cases x with
  | non => cases h; exact .base .non
  | bl b => cases h; exact .base (.bl b)
  | int i => cases h; exact .base (.int i)
  | str s => cases h; exact .base (.str s)
  | byt b => cases h
  | flt b => cases h
  | ty n => cases h
  | ref a =>
    unfold tyN at h
    dsimp only at h
    split at h
    · cases h; exact .base (.lst (by assumption))
    · cases h; exact .base (.tup (by assumption))
    · cases h; exact .base (.dK (by assumption))
    · cases h
theorem seqO_ok {K : PySem.W.Frag} {H : Hp} {a : Addr} {xs : List V} (h : seqO H a = some xs) : SqL K H a xs ∨ SqT K H a xs := by
  unfold seqO at h
  split at h
  · cases h; exact .inl (SqL.of (by assumption))
  · cases h; exact .inr (SqT.of (by assumption))
  · cases h; exact .inl (.inl (.inr ⟨_, by assumption⟩))
  · cases h
section
variable {X : Cx}
def rIsC : List V → Hp → VK → Prop := fun vs H Q => ∃ x c t b, vs = [x, .ty c] ∧ tyN H x = some t ∧ kitB t c = some b ∧ Q (.bl b) H
theorem call_isC : CallR X (.builtin "isinstance") rIsC := call_imp call_isi fun vs H Q ⟨x, c, t, b, e, h1, h2, q⟩ => ⟨x, .ty c, .type t, .type c, b, e, .ty c, tyN_ok h1, kit_ty h2, q⟩
def lenO (H : Hp) (a : Addr) : Option Nat := match H a with
  | some (.dK kvs) => some kvs.length
  | _ => (seqO H a).map List.length
def rLenC : List V → Hp → VK → Prop := fun vs H Q => ∃ a n, vs = [.ref a] ∧ lenO H a = some n ∧ Q (.int (n : Int)) H
theorem call_lenC : CallR X (.builtin "len") rLenC := by
  intro pins s σ H xs us Q I r h
  obtain ⟨a, n, rfl, e, q⟩ := h
  unfold lenO at e
  split at e
  · cases e
    exact call_lenD pins s σ H _ us Q I r ⟨_, _, rfl, by assumption, q⟩
  · obtain ⟨ys, e1, rfl⟩ := Option.map_eq_some_iff.mp e
    exact call_len_seq pins s σ H _ us Q I r ⟨_, _, rfl, seqO_ok e1, q⟩
def rIxC : R2 := fun x y H Q => ∃ p xs i v, x = .ref p ∧ y = .int i ∧ seqO H p = some xs ∧ atI xs i = some v ∧ Q v H
theorem ix_C : IxR X rIxC := ix_imp (IxR.or ix_list ix_tup) fun x y H Q ⟨p, xs, i, v, e1, e2, h, a, q⟩ => (seqO_ok (K := X.K) h).elim (fun z => .inl ⟨p, xs, i, v, e1, e2, z, a, q⟩) fun z => .inr ⟨p, xs, i, v, e1, e2, z, a, q⟩
def rInC (neg : Bool) : R2 := fun x y H Q => ∃ p xs, y = .ref p ∧ seqO H p = some xs ∧ flatV x = true ∧ xs.all flatV = true ∧ Q (.bl (if neg then !inV x xs else inV x xs)) H
theorem op_inC : OpR X (compareOp .In) (rInC false) := op_imp op_in_seq fun x y H Q ⟨p, xs, e, h, f1, f2, q⟩ => ⟨p, xs, e, seqO_ok h, f1, f2, q⟩
theorem op_notInC : OpR X (compareOp .NotIn) (rInC true) := op_imp op_notIn_seq fun x y H Q ⟨p, xs, e, h, f1, f2, q⟩ => ⟨p, xs, e, seqO_ok h, f1, f2, q⟩
/-! #### dicts with keys that are ints or texts -/
variable {a b o i value : Expr} {pos pos' apos cpos : Pos} {td ty tv te : TE}
def tInD (neg : Bool) (ty td : TE) : TE := fun σ H Q => ty σ H fun y H1 => td σ H1 fun x H2 => ∃ a kvs k, x = .ref a ∧ H2 a = some (.dK kvs) ∧ keyV y = some k ∧ Q (.bl (if neg then !(valV kvs k).isSome else (valV kvs k).isSome)) H2
theorem pc_imp {op : CmpOp} {t t' : TE} (h : PC X op a b t) (i : ∀ σ H Q, t' σ H Q → t σ H Q) : PC X op a b t' := ⟨fun pins s σ H Q I q => h.run pins s σ H Q I (i σ H Q q)⟩
/-- what must hold, by a wish that is less -/
def tMn (t : TE) : TE := fun σ H Q => ∃ R : VK, t σ H R ∧ ∀ x H1, R x H1 → Q x H1
theorem pe_mn {t : TE} (h : PE X a t) : PE X a (tMn t) := ⟨fun pins s σ H Q I ⟨R, r, m⟩ => thn (h.run pins s σ H R I r) fun u s1 ⟨v, H1, I1, rv, q⟩ => ⟨v, H1, I1, rv, m _ _ q⟩⟩
def tMnA (t : TA) : TA := fun σ H Q => ∃ R : List V → Hp → Prop, t σ H R ∧ ∀ x H1, R x H1 → Q x H1
theorem getK {H : Hp} {a : Addr} {kvs : List (Key × V)} {k : Key} {y : V} (e : H a = some (.dK kvs)) (h : keyV y = some k) : DGet H a y (valV kvs k) := by
  rw [keyV_eq h]
  exact DGet.k e
theorem pc_inD (hu : X.A.units + 1 < cLine) (hi : PE X i ty) (ho : PE X o td) : PC X .In i o (tInD false ty td) :=
  pc_imp (pc_din hu (pe_mn hi) (pe_mn ho)) fun σ H Q h => ⟨_, h, fun y H1 q => ⟨_, q, fun x H2 ⟨a, kvs, k, e, ea, ek, q⟩ => ⟨a, _, e, getK ea ek, q⟩⟩⟩
theorem pc_notinD (hu : X.A.units + 1 < cLine) (hi : PE X i ty) (ho : PE X o td) : PC X .NotIn i o (tInD true ty td) :=
  pc_imp (pc_dnotin hu (pe_mn hi) (pe_mn ho)) fun σ H Q h => ⟨_, h, fun y H1 q => ⟨_, q, fun x H2 ⟨a, kvs, k, e, ea, ek, q⟩ => ⟨a, _, e, getK ea ek, q⟩⟩⟩
def tGetD (td ty : TE) : TE := fun σ H Q => td σ H fun x H1 => ty σ H1 fun y H2 => ∃ a kvs k v, x = .ref a ∧ H2 a = some (.dK kvs) ∧ keyV y = some k ∧ valV kvs k = some v ∧ Q v H2
theorem pe_getD (hu : X.A.units + 1 < cLine) (ho : PE X o td) (hi : PE X i ty) (hs : NoSl i) : PE X (.Subscript o i pos) (tGetD td ty) :=
  pe_imp (pe_dget hu (pe_mn ho) (pe_mn hi) hs) fun σ H Q h => ⟨_, h, fun y H1 q => ⟨_, q, fun x H2 ⟨a, kvs, k, v, e, ea, ek, ev, q⟩ => ⟨a, v, e, ev ▸ getK ea ek, q⟩⟩⟩
def sPutD (td ty tv : TE) : TS := fun D σ H => tv σ H fun v H1 => td σ H1 fun x H2 => ty σ H2 fun y H3 => ∃ a kvs k, x = .ref a ∧ H3 a = some (.dK kvs) ∧ keyV y = some k ∧ kvs.length < sizeLine ∧ D.nx σ (upd H3 a (.dK (putK kvs k v)))
theorem ps_putD (hu : X.A.units + 1 < cLine) (ho : PE X o td) (hi : PE X i ty) (hv : PE X value tv) (hs : swapsWith value (some (.Subscript o i pos')) pos.line X.env = pure false) :
    PS X (.Assign [.Subscript o i pos'] value pos) (sPutD td ty tv) :=
  ps_imp (ps_dput hu (pe_mn ho) (pe_mn hi) (pe_mn hv) hs) fun D σ H h => ⟨_, h, fun v H1 q => ⟨_, q, fun x H2 q => ⟨_, q, fun y H3 ⟨a, kvs, k, e, ea, ek, hl, q⟩ => ⟨a, _, e, by rw [keyV_eq ek]; exact DPut.k ea hl, q⟩⟩⟩⟩
def tPopD (td ty : TE) : TE := fun σ H Q => td σ H fun x H1 => ∃ a kvs, x = .ref a ∧ H1 a = some (.dK kvs) ∧ ty σ H1 fun y H2 => ∃ kvs k v, H2 a = some (.dK kvs) ∧ keyV y = some k ∧ valV kvs k = some v ∧ Q v (upd H2 a (.dK (dropK kvs k)))
theorem pe_popD (ho : PE X o td) (he : PE X e ty) (m : M1 X o "pop" apos e cpos) : PE X (.Call (.Attribute o "pop" apos) [e] [] cpos) (tPopD td ty) :=
  pe_imp (pe_dpop1 (pe_mn ho) (pe_mn he) m) fun σ H Q h => ⟨_, h, fun x H1 ⟨a, kvs, e, ea, q⟩ => ⟨a, e, (.inl ⟨kvs, .inl ea⟩), ⟨_, q, fun y H2 ⟨kvs, k, v, e2, ek, ev, q⟩ => ⟨kvs, k, v, e2, keyV_eq ek, ev, q⟩⟩⟩⟩
/-! #### lists -/
variable {tl : TE} {t : TA} {es : List Expr}
def tAppC (tl te : TE) : TE := fun σ H Q => tl σ H fun x H1 => ∃ l ys, x = .ref l ∧ H1 l = some (.lst ys) ∧ te σ H1 fun y H2 => ∃ xs, H2 l = some (.lst xs) ∧ xs.length < sizeLine ∧ Q .non (upd H2 l (.lst (xs ++ [y])))
theorem pe_app (hl : PE X o tl) (he : PE X e te) (hbase : attributeBase o "append" X.env (eval o X.env) = eval o X.env := by rfl)
    (hfew : ((backTo cpos (starEach [e] X.env)).all (fun x => !x.1) && (backToKw cpos (keywordEach [] X.env)).all (fun x => x.1.isSome) && decide (([e] : List Expr).length + ([] : List Keyword).length + (if ([] : List Keyword).isEmpty then 0 else 1) < 30)) = true := by rfl)
    (hline : (apos.endLine == cpos.line) = true := by rfl) (hs : starEach [e] X.env = (false, eval e X.env) :: starEach [] X.env := by rfl) (hplain : (backTo cpos (starEach [] X.env)).any (·.1) = false := by rfl) :
    PE X (.Call (.Attribute o "append" apos) [e] [] cpos) (tAppC tl te) :=
  pe_imp (pe_bm PySem.F.plainAttrs_list PySem.F.slot_list_append PySem.F.type_list_append mt_append (pe_mn hl) (pa_cons (pe_mn he) pa_nil hs) hbase hfew hline hs hplain)
    fun σ H Q h => ⟨_, h, fun x H1 ⟨l, ys, e1, e2, q⟩ => ⟨by rw [e1]; exact .inl ⟨rfl, _, SqL.of e2⟩, ⟨_, q, fun y H2 ⟨xs, e3, z, q⟩ => ⟨l, xs, y, e1, rfl, e3, z, q⟩⟩⟩⟩
/-! #### data, compared -/
def mapO (f : V → Option PyData) : List V → Option (List PyData)
  | [] => some []
  | v :: r => match f v, mapO f r with
    | some d, some ds => some (d :: ds)
    | _, _ => none
def dat (H : Hp) : Nat → V → Option PyData
  | _, .non => some .none
  | _, .bl b => some (.bool b)
  | _, .int i => some (.int i)
  | _, .str x => some (.str x)
  | n + 1, .ref a => match H a with
    | some (.lst xs) => (mapO (dat H n) xs).map PyData.list
    | some (.tup xs) => (mapO (dat H n) xs).map PyData.tuple
    | some (.frz _ (.lst xs)) => (mapO (dat H n) xs).map PyData.list
    | _ => none
  | _, _ => none
theorem mapO_ok {K : PySem.W.Frag} {H : Hp} {f : V → Option PyData} (hf : ∀ v d, f v = some d → Dp K H v d) : ∀ {xs : List V} {ds : List PyData}, mapO f xs = some ds → DpAll K H xs ds
  | [], ds, h => by cases h; exact .nil
  | v :: r, ds, h => by
    unfold mapO at h
    split at h
    · rename_i d ds' h1 h2
      cases h
      exact .cons (hf _ _ h1) (mapO_ok hf h2)
    · cases h
theorem dat_ok {K : PySem.W.Frag} {H : Hp} : ∀ (n : Nat) (v : V) (d : PyData), dat H n v = some d → Dp K H v d
  | _, .non, d, h => by
    unfold dat at h
    cases h
    exact .non
  | _, .bl b, d, h => by
    unfold dat at h
    cases h
    exact .bl b
  | _, .int i, d, h => by
    unfold dat at h
    cases h
    exact .int i
  | _, .str x, d, h => by
    unfold dat at h
    cases h
    exact .str x
  | 0, .ref a, d, h => by
    unfold dat at h
    cases h
  | n + 1, .ref a, d, h => by
    unfold dat at h
    split at h
    · obtain ⟨ds, e, rfl⟩ := Option.map_eq_some_iff.mp h
      exact .lst (SqL.of (by assumption)) (mapO_ok (dat_ok n) e)
    · obtain ⟨ds, e, rfl⟩ := Option.map_eq_some_iff.mp h
      exact .tup (SqT.of (by assumption)) (mapO_ok (dat_ok n) e)
    · obtain ⟨ds, e, rfl⟩ := Option.map_eq_some_iff.mp h
      exact .lst (.inl (.inr ⟨_, by assumption⟩)) (mapO_ok (dat_ok n) e)
    · cases h
  | 0, .byt b, d, h => by unfold dat at h; cases h
  | 0, .flt b, d, h => by unfold dat at h; cases h
  | 0, .ty n, d, h => by unfold dat at h; cases h
  | _ + 1, .byt b, d, h => by unfold dat at h; cases h
  | _ + 1, .flt b, d, h => by unfold dat at h; cases h
  | _ + 1, .ty n, d, h => by unfold dat at h; cases h
def rEqC (neg : Bool) : R2 := fun x y H Q => ∃ d e, dat H 8 x = some d ∧ dat H 8 y = some e ∧ SeqAt.shaped d = true ∧ SeqAt.shaped e = true ∧ Q (.bl (if neg then !PyData.eqv d e else PyData.eqv d e)) H
theorem op_eqC (hu : X.A.units + 64 < cLine) : OpR X (compareOp .Eq) (rEqC false) := op_imp (op_eqD hu) fun x y H Q ⟨d, e, h1, h2, s1, s2, q⟩ => ⟨d, e, dat_ok _ _ _ h1, dat_ok _ _ _ h2, s1, s2, q⟩
theorem op_neC (hu : X.A.units + 64 < cLine) : OpR X (compareOp .NotEq) (rEqC true) := op_imp (op_neD hu) fun x y H Q ⟨d, e, h1, h2, s1, s2, q⟩ => ⟨d, e, dat_ok _ _ _ h1, dat_ok _ _ _ h2, s1, s2, q⟩
/-! #### text * int -/
theorem op_mul_str : OpR X (binaryOp .Mult) (fun x y H Q => ∃ z n, x = .str z ∧ y = .int n ∧ MulOk z n ∧ Q (.str (Txt.mul z n)) H) := by
  rintro pins s σ H x y v u Q I rx ry ⟨z, n, rfl, rfl, hz, q⟩
  obtain ⟨t, rfl⟩ := rx
  obtain ⟨t', rfl⟩ := ry
  exact SB.mul hz fun t1 k => ⟨.str (Txt.mul z n), H, I.tok _, ⟨_, rfl⟩, q⟩
/-! #### is, is not of truth values -/
end
/-! #### min of three, of four -/
section
variable {prog : Program} {w : World} {A : Around} {E : Value → Shared → Prop} {s : Shared}
theorem call_min_of {us : List Value} (hsz : sizeOk (.seq us.toArray)) (ha : argsOk "min" ⟨us, []⟩) (hp : ∀ s : Shared, (Builtin.Builtins.bindParams "min" ["key", "default"] 0 ⟨[], []⟩) = pure [none, none]) {a b : Value} {r : List Value} (hus : us = a :: b :: r) {Q : Value → Shared → Prop}
    (h : wpAny (model prog w) A.in1 (pyIter (.ref s.heap.objs.size)) (fun it s₂ => ∃ I fp wr n P St bt, it = .ref I ∧ Walks prog w A.in1 I fp wr n P St ∧ St 0 s₂.heap ∧ (∀ b ∈ fp, b < s₂.heap.objs.size) ∧ 0 < n ∧ CmpOf prog w A.in1 .Lt P bt ∧
      ∀ v h' tk, P (argBest bt (n - 1)) v → (∀ b o, b ∉ wr → s₂.heap.get? b = some o → h'.get? b = some o) → Q v { s₂ with heap := h', toks := tk }) E
      { s with heap := s.heap.push { cls := .type "tuple", data := .seq us.toArray } }) :
    wpAny (model prog w) A (call (.builtin "min") us) Q E s := by
  subst hus
  have hname : (toString "min" ++ toString ".loop" : String) = "min.loop" := by decide
  refine call_function_tree F.kind_min F.plain_min F.entry_min ha ?_
  show wpAny _ A.in1 (Builtin.Builtins.bindParams "min" ["key", "default"] 0 ⟨[], []⟩ >>= _) _ _ s
  refine wpAny_bind (wpAny_of_eq (hp s) ?_)
  show wpAny _ A.in1 (newTuple (a :: b :: r) >>= _) _ _ s
  refine wpAny_bind (wpAny_newObj_type ?_ hsz)
  refine wpAny_bind (wpAny_mono h (fun it s₂ h₂ => ?_) fun _ _ e => e)
  obtain ⟨I, fp, wr, n, P, St, bt, rfl, W, hst, hfp, hn, hcmp, hQ⟩ := h₂
  refine wpAny_bind (wpAny_newObj_type ?_)
  have hSf : s₂.heap.objs.size ∉ fp := fun hm => Nat.lt_irrefl _ (hfp _ hm)
  rw [hname]
  refine wpAny_pure ⟨plainId_quiet F.plain_min_loop _, codeAny_min_loop_first W bt hcmp s₂.heap.objs.size hSf hn (W.frame _ _ _ hst fun b _ o e => Heap.get?_push_of_some _ e) (Heap.get?_push_size _ rfl) fun v h' tk hP hk => ?_⟩
  exact hQ v h' tk hP fun b o hbw e => hk b o hbw (Nat.ne_of_lt (Heap.lt_size e)) (Heap.get?_push_of_some _ e)
theorem min_walk {xs : Array (Int × Tok)} {us : List Value} (hxs : (intItems xs).toList = us) (hsz : sizeOk (.seq us.toArray)) (ha : argsOk "min" ⟨us, []⟩) {a b : Value} {r : List Value} (hus : us = a :: b :: r) (hh : A.handled = none) {Q : Value → Shared → Prop}
    (h : ∀ v h' tk, (intItems xs)[argBest (fun i j => decide (numAt xs i < numAt xs j)) (xs.size - 1)]? = some v → (∀ c o, s.heap.get? c = some o → h'.get? c = some o) → Q v { s with heap := h', toks := tk }) :
    wpAny (model prog w) A (call (.builtin "min") us) Q E s := by
  have hu : us.toArray = intItems xs := by rw [← hxs]
  have hT : (s.heap.push { cls := .type "tuple", data := .seq us.toArray }).IsTuple s.heap.objs.size (intItems xs) := ⟨_, Heap.get?_push_size _ rfl, rfl, 0, by rw [hu]⟩
  have hn : 0 < (intItems xs).size := by rw [← hu, hus]; simp
  refine call_min_of hsz ha (fun _ => rfl) hus (wpAny_pyIter_tuple hT ?_)
  have hs1 : (s.heap.push { cls := .type "tuple", data := .seq us.toArray }).objs.size = s.heap.objs.size + 1 := Heap.size_push ..
  refine ⟨_, [_, s.heap.objs.size], [_], _, _, _, _, rfl, Walks.tuple (A := A.in1) hh _ s.heap.objs.size (by rw [hs1]; exact Nat.ne_of_lt (Nat.lt_succ_self _)) (intItems xs),
    ⟨⟨_, Heap.get?_push_size _ rfl, rfl, rfl⟩, hT.push _⟩, fun c hc => ?_, hn, CmpOf.ints_lt (numAt xs) (fun _ _ => intItems_at), fun v h' tk hP hk => ?_⟩
  · show c < ((s.heap.push _).push _).objs.size
    rw [Heap.size_push, hs1]
    simp only [List.mem_cons, List.not_mem_nil, or_false, hs1] at hc
    rcases hc with rfl | rfl
    · exact Nat.lt_succ_self _
    · exact Nat.lt_succ_of_lt (Nat.lt_succ_self _)
  · refine h v h' tk (by simpa [intItems] using hP) fun c o e => hk c o (fun hm => ?_) (Heap.get?_push_of_some _ (Heap.get?_push_of_some _ e))
    have hlt := Heap.lt_size e
    simp only [List.mem_cons, List.not_mem_nil, or_false, hs1] at hm
    rw [hm] at hlt
    exact Nat.lt_irrefl _ (Nat.lt_of_succ_lt hlt)
def mn2 (a b : Int) : Int := if b < a then b else a
theorem args_min3 (a b c : Value) : argsOk "min" ⟨[a, b, c], []⟩ := by unfold argsOk; kernel_rfl
theorem args_min4 (a b c d : Value) : argsOk "min" ⟨[a, b, c, d], []⟩ := by unfold argsOk; kernel_rfl
theorem min_three {a b c : Int} {t u v : Tok} {Q : Value → Shared → Prop} (hh : A.handled = none)
    (h : ∀ h' tk z, (∀ c o, s.heap.get? c = some o → h'.get? c = some o) → Q (.int (mn2 (mn2 a b) c) z) { s with heap := h', toks := tk }) :
    wpAny (model prog w) A (call (.builtin "min") [.int a t, .int b u, .int c v]) Q E s := by
  refine min_walk (us := [.int a t, .int b u, .int c v]) (xs := #[(a, t), (b, u), (c, v)]) (by simp [intItems]) (by size_fits) (args_min3 _ _ _) rfl hh fun r h' tk hr hk => ?_
  have e : ∃ z, r = .int (mn2 (mn2 a b) c) z := by
    unfold mn2
    by_cases h1 : b < a <;> by_cases h2 : c < b <;> by_cases h3 : c < a <;> simp [intItems, argBest, numAt, h1, h2, h3] at hr ⊢ <;> subst hr <;> exact ⟨_, rfl⟩
  obtain ⟨z, rfl⟩ := e
  exact h h' tk z hk
theorem min_four {a b c d : Int} {t u v y : Tok} {Q : Value → Shared → Prop} (hh : A.handled = none)
    (h : ∀ h' tk z, (∀ c o, s.heap.get? c = some o → h'.get? c = some o) → Q (.int (mn2 (mn2 (mn2 a b) c) d) z) { s with heap := h', toks := tk }) :
    wpAny (model prog w) A (call (.builtin "min") [.int a t, .int b u, .int c v, .int d y]) Q E s := by
  refine min_walk (us := [.int a t, .int b u, .int c v, .int d y]) (xs := #[(a, t), (b, u), (c, v), (d, y)]) (by simp [intItems]) (by size_fits) (args_min4 _ _ _ _) rfl hh fun r h' tk hr hk => ?_
  have e : ∃ z, r = .int (mn2 (mn2 (mn2 a b) c) d) z := by
    unfold mn2
    by_cases h1 : b < a <;> by_cases h2 : c < b <;> by_cases h3 : c < a <;> by_cases h4 : d < a <;> by_cases h5 : d < b <;> by_cases h6 : d < c <;> simp [intItems, argBest, numAt, h1, h2, h3, h4, h5, h6] at hr ⊢ <;> subst hr <;> exact ⟨_, rfl⟩
  obtain ⟨z, rfl⟩ := e
  exact h h' tk z hk
end
section
variable {X : Cx}
theorem call_min3 (hc : X.calm = true) : CallR X (.builtin "min") (fun xs H Q => ∃ i j k, xs = [.int i, .int j, .int k] ∧ Q (.int (mn2 (mn2 i j) k)) H) := by
  rintro pins s σ H xs us Q I r ⟨i, j, k, rfl, q⟩
  cases r with
  | cons r1 r => cases r with
    | cons r2 r => cases r with
      | cons r3 r =>
        cases r
        obtain ⟨t1, rfl⟩ := r1
        obtain ⟨t2, rfl⟩ := r2
        obtain ⟨t3, rfl⟩ := r3
        exact min_three (I.ok.hd hc) fun h' tk z kp => ⟨.int _, H, I.kept kp, ⟨_, rfl⟩, q⟩
theorem call_min4 (hc : X.calm = true) : CallR X (.builtin "min") (fun xs H Q => ∃ i j k l, xs = [.int i, .int j, .int k, .int l] ∧ Q (.int (mn2 (mn2 (mn2 i j) k) l)) H) := by
  rintro pins s σ H xs us Q I r ⟨i, j, k, l, rfl, q⟩
  cases r with
  | cons r1 r => cases r with
    | cons r2 r => cases r with
      | cons r3 r => cases r with
        | cons r4 r =>
          cases r
          obtain ⟨t1, rfl⟩ := r1
          obtain ⟨t2, rfl⟩ := r2
          obtain ⟨t3, rfl⟩ := r3
          obtain ⟨t4, rfl⟩ := r4
          exact min_four (I.ok.hd hc) fun h' tk z kp => ⟨.int _, H, I.kept kp, ⟨_, rfl⟩, q⟩
end
end RP

/-! ### readings, reckoned by simp: one theorem of equations -/
namespace RP
open PySem PySem.Spec PyProof.Rows L2
theorem RDa :
    (∀ (i : Nat) (σ : L2.St) (H : Hp) (Q : VK), tVar i σ H Q = ∃ v, σ[i]? = some (some v) ∧ Q v H) ∧
    (∀ (v : V) (σ : L2.St) (H : Hp) (Q : VK), tC v σ H Q = Q v H) ∧
    (∀ (r : R2) (ta tb : TE) (σ : L2.St) (H : Hp) (Q : VK), tOp r ta tb σ H Q = ta σ H fun x H1 => tb σ H1 fun y H2 => r x y H2 Q) ∧
    (∀ (r : V → Hp → VK → Prop) (ta : TE) (σ : L2.St) (H : Hp) (Q : VK), tUn r ta σ H Q = ta σ H fun x H1 => r x H1 Q) ∧
    (∀ (C : Int → Int → Prop) (g : Int → Int → V) (x y : V) (H : Hp) (Q : VK), rI C g x y H Q = ∃ i j, x = .int i ∧ y = .int j ∧ C i j ∧ Q (g i j) H) ∧
    (∀ (g : Int → Int → V) (x y : V) (H : Hp) (Q : VK), rI0 g x y H Q = ∃ i j, x = .int i ∧ y = .int j ∧ Q (g i j) H) ∧
    (∀ (g : Int → V) (x : V) (H : Hp) (Q : VK), rU g x H Q = ∃ i, x = .int i ∧ Q (g i) H) ∧
    (∀ (t : TE) (σ : L2.St) (H : Hp) (Q : Bool → Hp → Prop), tB t σ H Q = t σ H fun x H1 => ∃ c, x = .bl c ∧ Q c H1) ∧
    (∀ (t : TE) (σ : L2.St) (H : Hp) (Q : Bool → Hp → Prop), tTest t σ H Q = t σ H fun x H1 => ∃ c, x = .bl c ∧ Q c H1) ∧
    (∀ (t u : TT) (σ : L2.St) (H : Hp) (Q : Bool → Hp → Prop), tAnd t u σ H Q = t σ H fun c H1 => if c = true then u σ H1 Q else Q false H1) ∧
    (∀ (t u : TT) (σ : L2.St) (H : Hp) (Q : Bool → Hp → Prop), tOr t u σ H Q = t σ H fun c H1 => if c = true then Q true H1 else u σ H1 Q) ∧
    (∀ (t : TT) (σ : L2.St) (H : Hp) (Q : Bool → Hp → Prop), tNot t σ H Q = t σ H fun c H1 => Q (!c) H1) ∧
    (∀ (ta tb : TE) (σ : L2.St) (H : Hp) (Q : VK), tAndV ta tb σ H Q = ta σ H fun x H1 => ∃ c, x = .bl c ∧ if c = true then tb σ H1 Q else Q (.bl false) H1) ∧
    (∀ (ta tb : TE) (σ : L2.St) (H : Hp) (Q : VK), tOrV ta tb σ H Q = ta σ H fun x H1 => ∃ c, x = .bl c ∧ if c = true then Q (.bl true) H1 else tb σ H1 Q) ∧
    (∀ (ta : TE) (σ : L2.St) (H : Hp) (Q : VK), tNotV ta σ H Q = ta σ H fun x H1 => ∃ c, x = .bl c ∧ Q (.bl (!c)) H1) ∧
    (∀ (t : TT) (ta tb : TE) (σ : L2.St) (H : Hp) (Q : VK), tIf t ta tb σ H Q = t σ H fun c H1 => if c = true then ta σ H1 Q else tb σ H1 Q) ∧
    (∀ (r r' : R2) (ta tb tc : TE) (σ : L2.St) (H : Hp) (Q : VK), tChain r r' ta tb tc σ H Q = ta σ H fun x H1 => tb σ H1 fun y H2 => r x y H2 fun z H3 => ∃ k, z = .bl k ∧ (if k = true then tc σ H3 fun w' H4 => r' y w' H4 Q else Q (.bl false) H3)) ∧
    (∀ (D : Ends) (σ : L2.St) (H : Hp), tNext D σ H = D.nx σ H) ∧
    (∀ (t u : TS) (D : Ends) (σ : L2.St) (H : Hp), tSeq t u D σ H = t { D with nx := u D } σ H) ∧
    (∀ (te : TE) (D : Ends) (σ : L2.St) (H : Hp), tDrop te D σ H = te σ H fun _ H1 => D.nx σ H1) ∧
    (∀ (te : TE) (D : Ends) (σ : L2.St) (H : Hp), tRet te D σ H = te σ H D.rt) ∧
    (∀ (D : Ends) (σ : L2.St) (H : Hp), tRetN D σ H = D.rt .non H) ∧
    (∀ (c : TT) (t u : TS) (D : Ends) (σ : L2.St) (H : Hp), tIfS c t u D σ H = c σ H fun b H1 => if b = true then t D σ H1 else u D σ H1) ∧
    (∀ (te : TE) (g : TG) (D : Ends) (σ : L2.St) (H : Hp), tAsg te g D σ H = te σ H fun x H1 => g x σ H1 D.nx) ∧
    (∀ (i : Nat) (v : V) (σ : L2.St) (H : Hp) (Q : L2.St → Hp → Prop), gName i v σ H Q = Q (σ.set i (some v)) H) ∧
    (∀ (vs : List V) (σ : L2.St) (H : Hp) (Q : L2.St → Hp → Prop), gNil vs σ H Q = (vs = [] ∧ Q σ H)) ∧
    (∀ (t : TG) (u : TGs) (vs : List V) (σ : L2.St) (H : Hp) (Q : L2.St → Hp → Prop), gCons t u vs σ H Q = ∃ v r, vs = v :: r ∧ t v σ H fun σ' H' => u r σ' H' Q) ∧
    (∀ (to ti : TE) (t : TSet) (v : V) (σ : L2.St) (H : Hp) (Q : L2.St → Hp → Prop), gSub to ti t v σ H Q = to σ H fun o H1 => ti σ H1 fun i H2 => t o i v H2 fun H3 => Q σ H3) :=
  ⟨fun _ _ _ _ => rfl, fun _ _ _ _ => rfl, fun _ _ _ _ _ _ => rfl, fun _ _ _ _ _ => rfl, fun _ _ _ _ _ _ => rfl, fun _ _ _ _ _ => rfl, fun _ _ _ _ => rfl, fun _ _ _ _ => rfl, fun _ _ _ _ => rfl, fun _ _ _ _ _ => rfl, fun _ _ _ _ _ => rfl, fun _ _ _ _ => rfl, fun _ _ _ _ _ => rfl,
   fun _ _ _ _ _ => rfl, fun _ _ _ _ => rfl, fun _ _ _ _ _ _ => rfl, fun _ _ _ _ _ _ _ _ => rfl, fun _ _ _ => rfl, fun _ _ _ _ _ => rfl, fun _ _ _ _ => rfl, fun _ _ _ _ => rfl, fun _ _ _ => rfl, fun _ _ _ _ _ _ => rfl, fun _ _ _ _ _ => rfl, fun _ _ _ _ _ => rfl, fun _ _ _ _ => rfl, fun _ _ _ _ _ _ => rfl, fun _ _ _ _ _ _ _ => rfl⟩
theorem RDb :
    (∀ (K : PySem.W.Frag) (ta : TE) (f : Str) (σ : L2.St) (H : Hp) (Q : VK), tFld K ta f σ H Q = ta σ H fun x H1 => ∃ a C dx fs v, x = .ref a ∧ H1 a = some (.ins C dx fs) ∧ Cls K C ∧ NoAttr K C f ∧ fs.lookup f = some v ∧ Q v H1) ∧
    (∀ (K : PySem.W.Frag) (ta tv : TE) (f : Str) (D : Ends) (σ : L2.St) (H : Hp), sFld K ta tv f D σ H = tv σ H fun y H1 => ta σ H1 fun x H2 => ∃ a C dx fs, x = .ref a ∧ H2 a = some (.ins C dx fs) ∧ Cls K C ∧ NoAttr K C f ∧ fs.length < 1000 ∧ D.nx σ (upd H2 a (.ins C dx (putF f y fs)))) ∧
    (∀ (σ : L2.St) (H : Hp) (Q : List V → Hp → Prop), tNil σ H Q = Q [] H) ∧
    (∀ (ta : TE) (tr : TA) (σ : L2.St) (H : Hp) (Q : List V → Hp → Prop), tCons ta tr σ H Q = ta σ H fun x H1 => tr σ H1 fun xs H2 => Q (x :: xs) H2) ∧
    (∀ (t : TA) (σ : L2.St) (H : Hp) (Q : VK), tTup t σ H Q = t σ H fun xs H1 => xs.length ≤ sizeLine ∧ ∀ p, H1 p = none → Q (.ref p) (upd H1 p (.tup xs))) ∧
    (∀ (t : TA) (σ : L2.St) (H : Hp) (Q : VK), tLst t σ H Q = t σ H fun xs H1 => xs.length ≤ sizeLine ∧ ∀ p, H1 p = none → Q (.ref p) (upd H1 p (.lst xs))) ∧
    (∀ (r : List V → Hp → VK → Prop) (t : TA) (σ : L2.St) (H : Hp) (Q : VK), tCB r t σ H Q = t σ H fun vs H1 => r vs H1 Q) ∧
    (∀ (sp : Sp) (E : L2.St → XK) (t : TA) (σ : L2.St) (H : Hp) (Q : VK), tCallS sp E t σ H Q = t σ H fun vs H1 => sp vs H1 Q (E σ)) ∧
    (∀ (C : Addr) (m : Str) (sp : Sp) (E : L2.St → XK) (ta : TE) (t : TA) (σ : L2.St) (H : Hp) (Q : VK), tMethS C m sp E ta t σ H Q = ta σ H fun x H1 => ∃ a dx fs, x = .ref a ∧ H1 a = some (.ins C dx fs) ∧ fs.lookup m = none ∧ t σ H1 fun vs H2 => sp (x :: vs) H2 Q (E σ)) ∧
    (∀ (C : Addr) (sp : Sp) (E : L2.St → XK) (t : TA) (σ : L2.St) (H : Hp) (Q : VK), tMakeS C sp E t σ H Q = t σ H fun vs H1 => ∀ x dx, H1 x = none → H1 dx = none → dx ≠ x → sp (.ref x :: vs) (upd (upd H1 dx (.own x)) x (.ins C dx [])) (fun v H2 => v = .non ∧ Q (.ref x) H2) (E σ)) ∧
    (∀ (x y : V) (H : Hp) (Q : VK), rEq x y H Q = (scal x y = true ∧ Q (.bl (decide (x = y))) H)) ∧
    (∀ (x y : V) (H : Hp) (Q : VK), rNe x y H Q = (scal x y = true ∧ Q (.bl (!decide (x = y))) H)) ∧
    (∀ (i j : Int), scal (.int i) (.int j) = true) ∧ (∀ (i j : Str), scal (.str i) (.str j) = true) ∧ (∀ (i j : Bool), scal (.bl i) (.bl j) = true) ∧
    (∀ (vs : List V) (H : Hp) (Q : VK), rIsC vs H Q = ∃ x c t b, vs = [x, .ty c] ∧ tyN H x = some t ∧ kitB t c = some b ∧ Q (.bl b) H) ∧
    (∀ (vs : List V) (H : Hp) (Q : VK), rLenC vs H Q = ∃ a n, vs = [.ref a] ∧ lenO H a = some n ∧ Q (.int (n : Int)) H) ∧
    (∀ (x y : V) (H : Hp) (Q : VK), rIxC x y H Q = ∃ p xs i v, x = .ref p ∧ y = .int i ∧ seqO H p = some xs ∧ atI xs i = some v ∧ Q v H) ∧
    (∀ (neg : Bool) (x y : V) (H : Hp) (Q : VK), rInC neg x y H Q = ∃ p xs, y = .ref p ∧ seqO H p = some xs ∧ flatV x = true ∧ xs.all flatV = true ∧ Q (.bl (if neg then !inV x xs else inV x xs)) H) ∧
    (∀ (neg : Bool) (x y : V) (H : Hp) (Q : VK), rEqC neg x y H Q = ∃ d e, dat H 8 x = some d ∧ dat H 8 y = some e ∧ SeqAt.shaped d = true ∧ SeqAt.shaped e = true ∧ Q (.bl (if neg then !PyData.eqv d e else PyData.eqv d e)) H) ∧
    (∀ (neg : Bool) (ty td : TE) (σ : L2.St) (H : Hp) (Q : VK), tInD neg ty td σ H Q = ty σ H fun y H1 => td σ H1 fun x H2 => ∃ a kvs k, x = .ref a ∧ H2 a = some (.dK kvs) ∧ keyV y = some k ∧ Q (.bl (if neg then !(valV kvs k).isSome else (valV kvs k).isSome)) H2) ∧
    (∀ (td ty : TE) (σ : L2.St) (H : Hp) (Q : VK), tGetD td ty σ H Q = td σ H fun x H1 => ty σ H1 fun y H2 => ∃ a kvs k v, x = .ref a ∧ H2 a = some (.dK kvs) ∧ keyV y = some k ∧ valV kvs k = some v ∧ Q v H2) ∧
    (∀ (td ty tv : TE) (D : Ends) (σ : L2.St) (H : Hp), sPutD td ty tv D σ H = tv σ H fun v H1 => td σ H1 fun x H2 => ty σ H2 fun y H3 => ∃ a kvs k, x = .ref a ∧ H3 a = some (.dK kvs) ∧ keyV y = some k ∧ kvs.length < sizeLine ∧ D.nx σ (upd H3 a (.dK (putK kvs k v)))) ∧
    (∀ (td ty : TE) (σ : L2.St) (H : Hp) (Q : VK), tPopD td ty σ H Q = td σ H fun x H1 => ∃ a kvs, x = .ref a ∧ H1 a = some (.dK kvs) ∧ ty σ H1 fun y H2 => ∃ kvs k v, H2 a = some (.dK kvs) ∧ keyV y = some k ∧ valV kvs k = some v ∧ Q v (upd H2 a (.dK (dropK kvs k)))) ∧
    (∀ (tl te : TE) (σ : L2.St) (H : Hp) (Q : VK), tAppC tl te σ H Q = tl σ H fun x H1 => ∃ l ys, x = .ref l ∧ H1 l = some (.lst ys) ∧ te σ H1 fun y H2 => ∃ xs, H2 l = some (.lst xs) ∧ xs.length < sizeLine ∧ Q .non (upd H2 l (.lst (xs ++ [y])))) ∧
    (∀ (σ : L2.St) (H : Hp) (Q : Option Int → Hp → Prop), tNoPart σ H Q = Q none H) ∧
    (∀ (t : TE) (σ : L2.St) (H : Hp) (Q : Option Int → Hp → Prop), tPart t σ H Q = t σ H fun x H1 => ∃ i, x = .int i ∧ Q (some i) H1) ∧
    (∀ (r : V → Option Int → Option Int → Hp → VK → Prop) (te : TE) (tl th : TO) (σ : L2.St) (H : Hp) (Q : VK), tSl r te tl th σ H Q = te σ H fun x H1 => tl σ H1 fun l H2 => th σ H2 fun u H3 => r x l u H3 Q) :=
  ⟨fun _ _ _ _ _ _ => rfl, fun _ _ _ _ _ _ _ => rfl, fun _ _ _ => rfl, fun _ _ _ _ _ => rfl, fun _ _ _ _ => rfl, fun _ _ _ _ => rfl, fun _ _ _ _ _ => rfl, fun _ _ _ _ _ _ => rfl, fun _ _ _ _ _ _ _ _ _ => rfl, fun _ _ _ _ _ _ _ => rfl, fun _ _ _ _ => rfl, fun _ _ _ _ => rfl,
   fun _ _ => rfl, fun _ _ => rfl, fun _ _ => rfl, fun _ _ _ => rfl, fun _ _ _ => rfl, fun _ _ _ _ => rfl, fun _ _ _ _ _ => rfl, fun _ _ _ _ _ => rfl, fun _ _ _ _ _ _ => rfl, fun _ _ _ _ _ => rfl, fun _ _ _ _ _ _ => rfl, fun _ _ _ _ _ => rfl, fun _ _ _ _ _ => rfl, fun _ _ _ => rfl, fun _ _ _ _ => rfl, fun _ _ _ _ _ _ _ => rfl⟩
theorem RDk :
    kitB "int" "int" = some true ∧ kitB "bool" "int" = some true ∧ kitB "str" "int" = some false ∧ kitB "NoneType" "int" = some false ∧ kitB "list" "int" = some false ∧ kitB "tuple" "int" = some false ∧ kitB "dict" "int" = some false ∧
    kitB "int" "bool" = some false ∧ kitB "bool" "bool" = some true ∧ kitB "str" "bool" = some false ∧ kitB "NoneType" "bool" = some false ∧ kitB "list" "bool" = some false ∧ kitB "tuple" "bool" = some false ∧ kitB "dict" "bool" = some false ∧
    kitB "int" "str" = some false ∧ kitB "bool" "str" = some false ∧ kitB "str" "str" = some true ∧ kitB "NoneType" "str" = some false ∧ kitB "list" "str" = some false ∧ kitB "tuple" "str" = some false ∧ kitB "dict" "str" = some false ∧
    kitB "int" "tuple" = some false ∧ kitB "bool" "tuple" = some false ∧ kitB "str" "tuple" = some false ∧ kitB "NoneType" "tuple" = some false ∧ kitB "list" "tuple" = some false ∧ kitB "tuple" "tuple" = some true ∧ kitB "dict" "tuple" = some false ∧
    kitB "int" "list" = some false ∧ kitB "bool" "list" = some false ∧ kitB "str" "list" = some false ∧ kitB "NoneType" "list" = some false ∧ kitB "list" "list" = some true ∧ kitB "tuple" "list" = some false ∧ kitB "dict" "list" = some false := by
  decide +kernel
theorem RDv :
    (∀ (i j : Int), (V.int i = V.int j) = (i = j)) ∧ (∀ (i j : Str), (V.str i = V.str j) = (i = j)) ∧ (∀ (i j : Bool), (V.bl i = V.bl j) = (i = j)) ∧ (∀ (i j : Addr), (V.ref i = V.ref j) = (i = j)) ∧ (∀ (i j : String), (V.ty i = V.ty j) = (i = j)) ∧
    (∀ (α : Type) (i j : α), (some i = some j) = (i = j)) ∧
    (∀ H, tyN H .non = some "NoneType") ∧ (∀ H b, tyN H (.bl b) = some "bool") ∧ (∀ H b, tyN H (.int b) = some "int") ∧ (∀ H b, tyN H (.str b) = some "str") ∧
    (∀ n, keyV (.int n) = some (.inl n)) ∧ (∀ n, keyV (.str n) = some (.inr n)) ∧
    (∀ (C dx : Addr) (fs : List (Str × V)) (C' dx' : Addr) (fs' : List (Str × V)), (HO.ins C dx fs = HO.ins C' dx' fs') = (C = C' ∧ dx = dx' ∧ fs = fs')) ∧
    (∀ xs ys, (HO.lst xs = HO.lst ys) = (xs = ys)) ∧ (∀ xs ys, (HO.tup xs = HO.tup ys) = (xs = ys)) ∧ (∀ xs ys, (HO.dK xs = HO.dK ys) = (xs = ys)) := by
  refine ⟨?_, ?_, ?_, ?_, ?_, ?_, fun _ => rfl, fun _ _ => rfl, fun _ _ => rfl, fun _ _ => rfl, fun _ => rfl, fun _ => rfl, ?_, ?_, ?_, ?_⟩ <;> intros <;> simp
theorem datE (H : Hp) :
    (∀ n, dat H n .non = some .none) ∧ (∀ n b, dat H n (.bl b) = some (.bool b)) ∧ (∀ n b, dat H n (.int b) = some (.int b)) ∧ (∀ n b, dat H n (.str b) = some (.str b)) ∧
    (∀ n a xs, H a = some (.lst xs) → dat H (n + 1) (.ref a) = (mapO (dat H n) xs).map PyData.list) ∧ (∀ n a xs, H a = some (.tup xs) → dat H (n + 1) (.ref a) = (mapO (dat H n) xs).map PyData.tuple) := by
  refine ⟨fun n => ?_, fun n b => ?_, fun n b => ?_, fun n b => ?_, fun n a xs h => ?_, fun n a xs h => ?_⟩
  · cases n <;> rfl
  · cases n <;> rfl
  · cases n <;> rfl
  · cases n <;> rfl
  · conv => lhs; unfold dat
    rw [h]
  · conv => lhs; unfold dat
    rw [h]
theorem RDx :
    (∀ (CX : CXT) (P : Program) (w : World) (K : PySem.W.Frag) (mg : Str → Option Value) (base : Heap) (N : List Str) (q : Str) (sc : Scope) (f : Addr) (cd : Value) (A : Around) (o : List Env) (s : Shared) (H : Hp) (E : XK), (cxOf CX P w K mg base N q sc f cd A o s H E).K = K) ∧
    (∀ (CX : CXT) (P : Program) (w : World) (K : PySem.W.Frag) (mg : Str → Option Value) (base : Heap) (N : List Str) (q : Str) (sc : Scope) (f : Addr) (cd : Value) (A : Around) (o : List Env) (s : Shared) (H : Hp) (E : XK) (p : Addr × Obj), (L2H.cxH CX P w K mg base N q sc f cd A o s H E p).K = K) ∧
    (∀ (X : Cx) (pn : List (Addr × Obj)) (xe : Value → Shared → Prop), (X.tr pn xe).K = X.K) ∧
    (∀ (X : Cx) (a : Addr) (pn : List (Addr × Obj)), (X.suite a pn).K = X.K) ∧
    (∀ (X : Cx) (s : Shared) (H : Hp) (sc : Scope) (ce : Env) (fp : List Addr), (X.blk s H sc ce fp).K = X.K) ∧
    (∀ (X : Cx), X.nox.K = X.K) := ⟨fun _ _ _ _ _ _ _ _ _ _ _ _ _ _ _ _ => rfl, fun _ _ _ _ _ _ _ _ _ _ _ _ _ _ _ _ _ => rfl, fun _ _ _ => rfl, fun _ _ _ => rfl, fun _ _ _ _ _ _ => rfl, fun _ => rfl⟩
theorem RDe :
    (∀ (K : PySem.W.Frag) (c : Value) (i : Nat) (ts : Addr → Value → Option Addr → TS) (Wout : WX) (D : Ends) (cls : Value) (d : Option Addr) (σ : L2.St) (H : Hp), wAs K c i ts Wout D cls d σ H =
      ∃ b, PySem.W.exmOne K cls c = some b ∧ (b = true → ∀ a, H a = none → ts a cls d { nx := fun σ' H' => D.nx (σ'.set i none) H', rt := D.rt, bk := fun σ' H' => D.bk (σ'.set i none) H', ct := fun σ' H' => D.ct (σ'.set i none) H' } (σ.set i (some (.ref a))) H) ∧ (b = false → Wout cls d σ H)) ∧
    (∀ (K : PySem.W.Frag) (Wout : WX) (D : Ends), L2.wMany K Wout D [] = Wout) ∧
    (∀ (K : PySem.W.Frag) (Wout : WX) (D : Ends) (c : Value) (ts : Addr → Value → Option Addr → TS) (r : List (Value × (Addr → Value → Option Addr → TS))) (cls : Value) (d : Option Addr) (σ : L2.St) (H : Hp), L2.wMany K Wout D ((c, ts) :: r) cls d σ H =
      ∃ b, PySem.W.exmOne K cls c = some b ∧ (b = true → ∀ a, H a = none → ts a cls d D σ H) ∧ (b = false → L2.wMany K Wout D r cls d σ H)) ∧
    (∀ (K : PySem.W.Frag) (a : Addr) (cls : Value) (xs : List V) (H : Hp) (Q : VK), rIsEC K a cls xs H Q = ∃ (c : V) (cv : Value) (b : Bool), xs = [.ref a, c] ∧ clsOf c = some cv ∧ PySem.W.kitOne K cls cv = some b ∧ Q (.bl b) H) ∧
    (∀ a, clsOf (.ref a) = some (.ref a)) ∧ (∀ n, clsOf (.ty n) = some (.type n)) :=
  ⟨fun _ _ _ _ _ _ _ _ _ _ => rfl, fun _ _ _ => rfl, fun _ _ _ _ _ _ _ _ _ _ => rfl, fun _ _ _ _ _ _ => rfl, fun _ => rfl, fun _ => rfl⟩
/-! #### texts -/
theorem mul_one (z : Str) : Txt.mul z 1 = z := by unfold Txt.mul; rw [if_neg (by decide), if_pos (by simp)]
theorem mul_zero (z : Str) : Txt.mul z 0 = Str.empty := by unfold Txt.mul; rw [if_pos (by decide)]
theorem mulOk_one (z : Str) : MulOk z 1 := ⟨by decide, fun _ h => by simp at h, fun _ h => by simp at h⟩
theorem mulOk_zero (z : Str) : MulOk z 0 := ⟨by decide, fun h => absurd (by decide) h, fun h => absurd (by decide) h⟩
theorem str_ext {x y : Str} (h : x.cps.toList = y.cps.toList) : x = y := by
  obtain ⟨a⟩ := x
  obtain ⟨b⟩ := y
  congr
  exact Array.toList_inj.mp h
theorem app_empty (z : Str) : z ++ Str.empty = z := by
  refine str_ext ?_
  show (z.cps ++ #[]).toList = _
  simp
/-! #### loops, by what their walked thing gives -/
section
variable {K : PySem.W.Frag} {tl : TE} {g : TG} {tb : TS} {D : Ends} {σ : L2.St} {H : Hp}
theorem for_lcut (G : Addr → Hp → Prop) (xs : List V) (h1 : ∀ Z : VK, (∀ a H1, G a H1 → Z (.ref a) H1) → tl σ H Z) (Pv : Addr → Nat → L2.St → Hp → Prop) (h0 : ∀ a H1, G a H1 → SqL K H1 a xs ∧ Pv a 0 σ H1) (hl : ∀ a i σ H, i ≤ xs.length → Pv a i σ H → SqL K H a xs)
    (hs : ∀ a i x σ H, xs[i]? = some x → Pv a i σ H → g x σ H fun σ2 H2 => tb { D with nx := Pv a (i + 1), ct := Pv a (i + 1), bk := D.nx } σ2 H2) (hd : ∀ a σ H, Pv a xs.length σ H → D.nx σ H) : tFor (iList K tl) g tb D σ H :=
  h1 _ fun a H1 q => ⟨a, rfl, ⟨xs, (h0 a H1 q).1⟩, for_list (Pv a) (h0 a H1 q).2 (hl a) (hs a) (hd a)⟩
end
theorem same_new {H : Hp} {p : Addr} {o : HO} (h : H p = none) : Same H (upd H p o) := fun b u e => by rw [upd_ne (ne_of_none e h)]; exact e
theorem same_sql {K : PySem.W.Frag} {H H' : Hp} {a : Addr} {xs : List V} (e : Same H H') (h : SqL K H a xs) : SqL K H' a xs := e.seq h
theorem bl3 {i : Nat} {x : V} (h : ([V.bl false, V.bl false, V.bl false] : List V)[i]? = some x) : x = .bl false := by
  match i, h with
  | 0, h => exact (Option.some.inj h).symm
  | 1, h => exact (Option.some.inj h).symm
  | 2, h => exact (Option.some.inj h).symm
  | n + 3, h => cases h
/-! #### data as it is compared -/
theorem seqO_tup {H : Hp} {a : Addr} {xs : List V} (h : H a = some (.tup xs)) : seqO H a = some xs := by unfold seqO; rw [h]
theorem seqO_lst {H : Hp} {a : Addr} {xs : List V} (h : H a = some (.lst xs)) : seqO H a = some xs := by unfold seqO; rw [h]
theorem tyN_tup {H : Hp} {a : Addr} {xs : List V} (h : H a = some (.tup xs)) : tyN H (.ref a) = some "tuple" := by unfold tyN; dsimp only; rw [h]
theorem tyN_lst {H : Hp} {a : Addr} {xs : List V} (h : H a = some (.lst xs)) : tyN H (.ref a) = some "list" := by unfold tyN; dsimp only; rw [h]
theorem tyN_dK {H : Hp} {a : Addr} {xs : List (Key × V)} (h : H a = some (.dK xs)) : tyN H (.ref a) = some "dict" := by unfold tyN; dsimp only; rw [h]
theorem lenO_tup {H : Hp} {a : Addr} {xs : List V} (h : H a = some (.tup xs)) : lenO H a = some xs.length := by unfold lenO seqO; rw [h]; rfl
theorem lenO_lst {H : Hp} {a : Addr} {xs : List V} (h : H a = some (.lst xs)) : lenO H a = some xs.length := by unfold lenO seqO; rw [h]; rfl
theorem lenO_dK {H : Hp} {a : Addr} {xs : List (Key × V)} (h : H a = some (.dK xs)) : lenO H a = some xs.length := by unfold lenO; rw [h]
theorem dat_tup {H : Hp} {a : Addr} {xs : List V} (h : H a = some (.tup xs)) (n : Nat) : dat H (n + 1) (.ref a) = (mapO (dat H n) xs).map PyData.tuple := (datE H).2.2.2.2.2 n a xs h
theorem dat_lst {H : Hp} {a : Addr} {xs : List V} (h : H a = some (.lst xs)) (n : Nat) : dat H (n + 1) (.ref a) = (mapO (dat H n) xs).map PyData.list := (datE H).2.2.2.2.1 n a xs h
theorem RDd :
    (∀ f, mapO f [] = some []) ∧ (∀ f v r, mapO f (v :: r) = match f v, mapO f r with | some d, some ds => some (d :: ds) | _, _ => none) ∧
    (∀ H n, dat H n .non = some .none) ∧ (∀ H n b, dat H n (.bl b) = some (.bool b)) ∧ (∀ H n b, dat H n (.int b) = some (.int b)) ∧ (∀ H n b, dat H n (.str b) = some (.str b)) ∧
    (∀ (α : Type) (x : α) xs, atI (x :: xs) 0 = some x) ∧ (∀ (α : Type) (x y : α) xs, atI (x :: y :: xs) 1 = some y) ∧ (∀ (α : Type) (x y z : α) xs, atI (x :: y :: z :: xs) 2 = some z) ∧ (∀ (α : Type) (x y z u : α) xs, atI (x :: y :: z :: u :: xs) 3 = some u) ∧
    (∀ H, Option.map PyData.list (some H) = some (PyData.list H)) ∧ (∀ H, Option.map PyData.tuple (some H) = some (PyData.tuple H)) := by
  have at_ : ∀ (α : Type) (xs : List α) (k : Nat) (x : α), xs[k]? = some x → atI xs (k : Int) = some x := fun α xs k x h => by
    unfold atI ixN
    obtain ⟨hk, _⟩ := List.getElem?_eq_some_iff.mp h
    rw [if_pos (by omega), if_pos (by omega), Option.bind_some, Int.toNat_natCast, h]
  refine ⟨fun _ => rfl, fun _ _ _ => rfl, fun H => (datE H).1, fun H => (datE H).2.1, fun H => (datE H).2.2.1, fun H => (datE H).2.2.2.1, fun α x xs => at_ α _ 0 x rfl, fun α x y xs => at_ α _ 1 y rfl, fun α x y z xs => at_ α _ 2 z rfl, fun α x y z u xs => at_ α _ 3 u rfl, fun _ => rfl, fun _ => rfl⟩
/-- data of at most n levels that can be compared -/
def Shp (n : Nat) (d : PyData) : Prop := d.canLay0 = true ∧ d.depth ≤ n
theorem Shp.ok {d : PyData} (h : Shp 64 d) : SeqAt.shaped d = true := by
  unfold SeqAt.shaped
  rw [h.1, Bool.true_and]
  exact decide_eq_true h.2
theorem Shp.mono {n m : Nat} {d : PyData} (h : Shp n d) (l : n ≤ m) : Shp m d := ⟨h.1, Nat.le_trans h.2 l⟩
theorem shp_all {n : Nat} : ∀ {ds : List PyData}, (∀ d ∈ ds, Shp n d) → PyData.canLayAll0 ds = true ∧ PyData.depthAll ds ≤ n
  | [], _ => ⟨by simp [PyData.canLayAll0], by simp [PyData.depthAll]⟩
  | d :: r, h => by
    have h1 := h d List.mem_cons_self
    have h2 := shp_all (ds := r) fun e he => h e (List.mem_cons_of_mem _ he)
    constructor
    · rw [PyData.canLayAll0, h1.1, h2.1]; rfl
    · rw [PyData.depthAll]; exact Nat.max_le.mpr ⟨h1.2, h2.2⟩
theorem shp_list {n : Nat} {ds : List PyData} (h : ∀ d ∈ ds, Shp n d) : Shp (n + 1) (.list ds) := by
  obtain ⟨a, b⟩ := shp_all h
  exact ⟨by rw [PyData.canLay0]; exact a, by rw [PyData.depth]; omega⟩
theorem shp_tuple {n : Nat} {ds : List PyData} (h : ∀ d ∈ ds, Shp n d) : Shp (n + 1) (.tuple ds) := by
  obtain ⟨a, b⟩ := shp_all h
  exact ⟨by rw [PyData.canLay0]; exact a, by rw [PyData.depth]; omega⟩
theorem shp_s (n : Nat) : Shp n .none ∧ (∀ b, Shp n (.bool b)) ∧ (∀ i, Shp n (.int i)) ∧ (∀ x, PyData.strOk x = true → Shp n (.str x)) :=
  ⟨⟨by simp [PyData.canLay0], by simp [PyData.depth]⟩, fun _ => ⟨by simp [PyData.canLay0], by simp [PyData.depth]⟩, fun _ => ⟨by simp [PyData.canLay0], by simp [PyData.depth]⟩, fun _ h => ⟨by simpa [PyData.canLay0] using h, by simp [PyData.depth]⟩⟩
theorem sh1 {d : PyData} (h : d.canLay0 = true) (h2 : d.depth = 0) : SeqAt.shaped (.tuple [d]) = true ∧ SeqAt.shaped (.tuple [d]) = true := ⟨Shp.ok ⟨by simp [PyData.canLay0, PyData.canLayAll0, h], by simp [PyData.depth, PyData.depthAll, h2]⟩, Shp.ok ⟨by simp [PyData.canLay0, PyData.canLayAll0, h], by simp [PyData.depth, PyData.depthAll, h2]⟩⟩
theorem eqv_self {d : PyData} (h : d.canLay0 = true) : PyData.eqv d d = true := SeqAt.eqv_refl d h
end RP

/-! ### things made for one use only: no trace in what is tracked -/
namespace RP
open PySem PySem.Spec PyProof.Rows L2
section
variable {X : Cx} {b l : Expr} {es : List Expr} {t : TA} {tb tl : TE} {pos pos1 : Pos}
/-- [e, ..][b] -/
def tPick (t : TA) (tb : TE) : TE := fun σ H Q => t σ H fun vs H1 => vs.length ≤ 1000 ∧ tb σ H1 fun y H2 => ∃ k v, y = .int k ∧ 0 ≤ k ∧ atI vs k = some v ∧ Q v H2
theorem pe_pick (he : PA X es t) (hi : PE X b tb) (hs : PlainIx b) : PE X (.Subscript (.List es pos1) b pos) (tPick t tb) := by
  constructor
  intro pins s σ H Q I h
  refine Subscript_ (wpAny_List_spliced (thn (he.run pos1 pins s σ H _ I h) ?_))
  rintro us s1 ⟨vs, H1, I1, r, z, q⟩
  have z1 : us.length ≤ 1000 := by rw [← r.length]; exact z
  refine ⟨Nat.le_trans z1 (by decide), ?_⟩
  have kp : ∀ (b : Addr) (o : Obj), s1.heap.get? b = some o → (s1.heap.push { cls := .type "list", data := .seq us.toArray }).get? b = some o := fun b o e => Heap.get?_push_of_some _ e
  have gL : (s1.heap.push { cls := .type "list", data := .seq us.toArray }).get? s1.heap.objs.size = some { cls := .type "list", data := .seq us.toArray } := Heap.get?_push_size _ rfl
  have I2 : Inv X pins σ H1 { s1 with heap := s1.heap.push { cls := .type "list", data := .seq us.toArray } } := I1.kept (t' := s1.toks) kp
  have I3 := I2.pinned (fp := [s1.heap.objs.size]) (fun b hb => by
    have e : b = s1.heap.objs.size := by simpa using hb
    rw [e]
    exact I1.fpOk (Nat.le_refl _) (I1.hok.fresh (Nat.le_refl _))) (fun b hb => by
    have e : b = s1.heap.objs.size := by simpa using hb
    rw [e]
    exact ⟨_, gL, fun v w => by cases w⟩)
  refine thn (hi.run _ _ σ H1 _ I3 q) ?_
  rintro u s2 ⟨y, H2, I4, ry, k, v, rfl, h0, ha, qv⟩
  have g2 := (I4.pin (s1.heap.objs.size, { cls := .type "list", data := .seq us.toArray }) (List.mem_append_right _ (List.mem_append_right _ (mem_pinsAt (by simp) gL)))).1
  obtain ⟨tk, rfl⟩ := ry
  obtain ⟨j, h1, h2, h3, h4, h5⟩ := atI_get ha
  obtain ⟨w, ew, rw'⟩ := r.get h2
  have hl := r.length
  have hj : k.toNat = j := by
    rw [seqIndex_of h0 h5] at h1
    exact Option.some.inj h1
  have pl : PlainL s2.heap s1.heap.objs.size us.toArray := ⟨_, _, g2, rfl, rfl, rfl⟩
  exact item_listR pl.isList h0 (by omega) (by rw [hj]; simpa using ew) ⟨v, H2, I4.unpinned, rw', qv⟩ (hs _ _)
/-- l == (e, ..), l != (e, ..) -/
def tEqT (neg : Bool) (tl : TE) (t : TA) : TE := fun σ H Q => tl σ H fun x H1 => t σ H1 fun vs H2 => vs.length ≤ 1000 ∧ ∃ d ds, dat H2 8 x = some d ∧ mapO (dat H2 7) vs = some ds ∧ SeqAt.shaped d = true ∧ SeqAt.shaped (.tuple ds) = true ∧ Q (.bl (if neg then !PyData.eqv d (.tuple ds) else PyData.eqv d (.tuple ds))) H2
theorem dat_new {H : Hp} {p : Addr} {o : HO} (hp : H p = none) : ∀ (n : Nat) (v : V) (d : PyData), dat H n v = some d → dat (upd H p o) n v = some d := by
  have key : ∀ (f f' : V → Option PyData), (∀ v d, f v = some d → f' v = some d) → ∀ (xs : List V) (ds : List PyData), mapO f xs = some ds → mapO f' xs = some ds := by
    intro f f' hf xs
    induction xs with
    | nil => intro ds h; exact h
    | cons v r ih =>
      intro ds h
      unfold mapO at h ⊢
      split at h
      · rename_i d ds' h1 h2
        cases h
        rw [hf _ _ h1, ih _ h2]
      · cases h
  intro n
  induction n with
  | zero =>
    intro v d h
    cases v <;> exact h
  | succ n ih =>
    intro v d h
    cases v with
    | ref a =>
      have e : ∀ u, H a = some u → upd H p o a = some u := fun u e => by rw [upd_ne (ne_of_none e hp)]; exact e
      unfold dat at h ⊢
      split at h
      · rename_i xs e1
        obtain ⟨ds, e2, rfl⟩ := Option.map_eq_some_iff.mp h
        rw [e _ e1]
        dsimp only
        rw [key _ _ ih _ _ e2]
        rfl
      · rename_i xs e1
        obtain ⟨ds, e2, rfl⟩ := Option.map_eq_some_iff.mp h
        rw [e _ e1]
        dsimp only
        rw [key _ _ ih _ _ e2]
        rfl
      · rename_i ob xs e1
        obtain ⟨ds, e2, rfl⟩ := Option.map_eq_some_iff.mp h
        rw [e _ e1]
        dsimp only
        rw [key _ _ ih _ _ e2]
        rfl
      · cases h
    | _ => exact h
theorem eqT_run {neg : Bool} {op : CmpOp} (hop : op = if neg then .NotEq else .Eq) (hu : X.A.units + 64 < cLine) (hl : PE X l tl) (he : PA X es t) {x1 : Nat} {pins : List (Addr × Obj)} {s : Shared} {σ : L2.St} {H : Hp} {Q : VK} (I : Inv X pins σ H s) (h : tEqT neg tl t σ H Q) :
    wpAny (model X.prog X.w) X.A (eval l X.env) (fun v s1 => wpAny (model X.prog X.w) X.A (eval (.Tuple es x1 pos1) X.env) (fun u s2 => wpAny (model X.prog X.w) X.A (compareOp op v u) (EP X pins σ Q) X.xe s2) X.xe s1) X.xe s := by
  refine thn (hl.run pins s σ H _ I h) ?_
  rintro v s1 ⟨x, H1, I1, rx, q1⟩
  refine wpAny_Tuple_spliced (thn (he.run pos1 pins s1 σ H1 _ I1 q1) ?_)
  rintro us s2 ⟨vs, H2, I2, r, z, d, ds, h1, h2, sd, se, q⟩
  have z1 : us.length ≤ sizeLine := by rw [← r.length]; exact Nat.le_trans z (by decide)
  refine ⟨z1, ?_⟩
  have hf : H2 s2.heap.objs.size = none := I2.hok.fresh (Nat.le_refl _)
  have kp : ∀ (b : Addr) (o : Obj), s2.heap.get? b = some o → (s2.heap.push { cls := .type "tuple", data := .seq us.toArray }).get? b = some o := fun b o e => Heap.get?_push_of_some _ e
  have IU : Inv X pins σ H2 { s2 with heap := s2.heap.push { cls := .type "tuple", data := .seq us.toArray } } := I2.kept (t' := s2.toks) kp
  have IT : Inv X pins σ (upd H2 s2.heap.objs.size (.tup vs)) { s2 with heap := s2.heap.push { cls := .type "tuple", data := .seq us.toArray } } :=
    I2.laid (t' := s2.toks) kp (Nat.le_refl _) ⟨Nat.le_trans z (by decide), us, r, ⟨_, Heap.get?_push_size _ rfl, rfl, _, rfl⟩⟩
  obtain ⟨as, r1⟩ := Dp.reads IT d x v (dat_ok _ _ _ (dat_new hf _ _ _ h1)) rx
  have h3 : dat (upd H2 s2.heap.objs.size (.tup vs)) 8 (.ref s2.heap.objs.size) = some (.tuple ds) := by
    rw [dat_tup upd_same]
    have key : ∀ (xs : List V) (ds : List PyData), mapO (dat H2 7) xs = some ds → mapO (dat (upd H2 s2.heap.objs.size (.tup vs)) 7) xs = some ds := by
      intro xs
      induction xs with
      | nil => intro ds h; exact h
      | cons v r ih =>
        intro ds h
        unfold mapO at h ⊢
        split at h
        · rename_i d ds' h1 h2
          cases h
          rw [dat_new hf _ _ _ h1, ih _ h2]
        · cases h
    rw [key _ _ h2]
    rfl
  obtain ⟨bs, r2⟩ := Dp.reads IT (.tuple ds) (.ref s2.heap.objs.size) (.ref s2.heap.objs.size) (dat_ok _ _ _ h3) rfl
  subst hop
  cases neg with
  | true => exact SeqAt.compareNe_shaped r1 r2 sd se hu ⟨.bl _, H2, IU, rfl, q⟩
  | false => exact SeqAt.compareEq_shaped r1 r2 sd se hu ⟨.bl _, H2, IU, rfl, q⟩
theorem pc_eqT {x1 : Nat} (hu : X.A.units + 64 < cLine) (hl : PE X l tl) (he : PA X es t) : PC X .Eq l (.Tuple es x1 pos1) (tEqT false tl t) := ⟨fun pins s σ H Q I h => eqT_run (neg := false) rfl hu hl he I h⟩
theorem pc_neT {x1 : Nat} (hu : X.A.units + 64 < cLine) (hl : PE X l tl) (he : PA X es t) : PC X .NotEq l (.Tuple es x1 pos1) (tEqT true tl t) := ⟨fun pins s σ H Q I h => eqT_run (neg := true) rfl hu hl he I h⟩
/-- l in (e, ..), l not in (e, ..): flat things -/
def tInT (neg : Bool) (tl : TE) (t : TA) : TE := fun σ H Q => tl σ H fun x H1 => t σ H1 fun vs H2 => vs.length ≤ 1000 ∧ flatV x = true ∧ vs.all flatV = true ∧ Q (.bl (if neg then !inV x vs else inV x vs)) H2
theorem inT_run {neg : Bool} {op : CmpOp} (hop : op = if neg then .NotIn else .In) (hl : PE X l tl) (he : PA X es t) {x1 : Nat} {pins : List (Addr × Obj)} {s : Shared} {σ : L2.St} {H : Hp} {Q : VK} (I : Inv X pins σ H s) (h : tInT neg tl t σ H Q) :
    wpAny (model X.prog X.w) X.A (eval l X.env) (fun v s1 => wpAny (model X.prog X.w) X.A (eval (.Tuple es x1 pos1) X.env) (fun u s2 => wpAny (model X.prog X.w) X.A (compareOp op v u) (EP X pins σ Q) X.xe s2) X.xe s1) X.xe s := by
  refine thn (hl.run pins s σ H _ I h) ?_
  rintro v s1 ⟨x, H1, I1, rx, q1⟩
  refine wpAny_Tuple_spliced (thn (he.run pos1 pins s1 σ H1 _ I1 q1) ?_)
  rintro us s2 ⟨vs, H2, I2, r, z, f1, f2, q⟩
  have z1 : us.length ≤ sizeLine := by rw [← r.length]; exact Nat.le_trans z (by decide)
  refine ⟨z1, ?_⟩
  have hf : H2 s2.heap.objs.size = none := I2.hok.fresh (Nat.le_refl _)
  have kp : ∀ (b : Addr) (o : Obj), s2.heap.get? b = some o → (s2.heap.push { cls := .type "tuple", data := .seq us.toArray }).get? b = some o := fun b o e => Heap.get?_push_of_some _ e
  have IU : Inv X pins σ H2 { s2 with heap := s2.heap.push { cls := .type "tuple", data := .seq us.toArray } } := I2.kept (t' := s2.toks) kp
  have IT : Inv X pins σ (upd H2 s2.heap.objs.size (.tup vs)) { s2 with heap := s2.heap.push { cls := .type "tuple", data := .seq us.toArray } } :=
    I2.laid (t' := s2.toks) kp (Nat.le_refl _) ⟨Nat.le_trans z (by decide), us, r, ⟨_, Heap.get?_push_size _ rfl, rfl, _, rfl⟩⟩
  obtain ⟨its, r', pl, hz⟩ := IT.tuple (SqT.of (K := X.K) (upd_same (a := s2.heap.objs.size) (o := .tup vs)))
  subst hop
  cases neg with
  | true =>
    refine SeqAt.notIn_tupleAt (eqU x) pl (fun w hw => mem_eqAt rx f1 r' f2 w (by simpa using hw)) ⟨.bl _, H2, IU, rfl, ?_⟩
    rw [show its.toArray.any (eqU x) = its.any (eqU x) by simp, any_eqU r' f2]
    exact q
  | false =>
    refine SeqAt.in_tupleAt (eqU x) pl (fun w hw => mem_eqAt rx f1 r' f2 w (by simpa using hw)) ⟨.bl _, H2, IU, rfl, ?_⟩
    rw [show its.toArray.any (eqU x) = its.any (eqU x) by simp, any_eqU r' f2]
    exact q
theorem pc_inT {x1 : Nat} (hl : PE X l tl) (he : PA X es t) : PC X .In l (.Tuple es x1 pos1) (tInT false tl t) := ⟨fun pins s σ H Q I h => inT_run (neg := false) rfl hl he I h⟩
theorem pc_notInT {x1 : Nat} (hl : PE X l tl) (he : PA X es t) : PC X .NotIn l (.Tuple es x1 pos1) (tInT true tl t) := ⟨fun pins s σ H Q I h => inT_run (neg := true) rfl hl he I h⟩
end
theorem RDp :
    (∀ (t : TA) (tb : TE) (σ : L2.St) (H : Hp) (Q : VK), tPick t tb σ H Q = t σ H fun vs H1 => vs.length ≤ 1000 ∧ tb σ H1 fun y H2 => ∃ k v, y = .int k ∧ 0 ≤ k ∧ atI vs k = some v ∧ Q v H2) ∧
    (∀ (neg : Bool) (tl : TE) (t : TA) (σ : L2.St) (H : Hp) (Q : VK), tEqT neg tl t σ H Q = tl σ H fun x H1 => t σ H1 fun vs H2 => vs.length ≤ 1000 ∧ ∃ d ds, dat H2 8 x = some d ∧ mapO (dat H2 7) vs = some ds ∧ SeqAt.shaped d = true ∧ SeqAt.shaped (.tuple ds) = true ∧ Q (.bl (if neg then !PyData.eqv d (.tuple ds) else PyData.eqv d (.tuple ds))) H2) ∧
    (∀ (neg : Bool) (tl : TE) (t : TA) (σ : L2.St) (H : Hp) (Q : VK), tInT neg tl t σ H Q = tl σ H fun x H1 => t σ H1 fun vs H2 => vs.length ≤ 1000 ∧ flatV x = true ∧ vs.all flatV = true ∧ Q (.bl (if neg then !inV x vs else inV x vs)) H2) ∧
    (∀ i j : Int, CDiv i j = (0 < j ∧ j < 1073741824)) ∧ (∀ i j : Int, CPow i j = (0 ≤ j ∧ j ≤ 1000000 ∧ i.natAbs < 2 ^ 64)) :=
  ⟨fun _ _ _ _ _ => rfl, fun _ _ _ _ _ _ => rfl, fun _ _ _ _ _ _ => rfl, fun _ _ => rfl, fun _ _ => rfl⟩
theorem seq_gen {t u : TS} {D : Ends} {σ : L2.St} {H : Hp} (h : ∀ N : L2.St → Hp → Prop, (∀ σ H, u D σ H → N σ H) → t { D with nx := N } σ H) : tSeq t u D σ H := h _ fun _ _ z => z
theorem cut_int {ns : List Int} {lo hi : Option Int} {i : Nat} {x : V} (h : (cutV (ns.map V.int) lo hi)[i]? = some x) : ∃ c, x = .int c := by
  have h1 : x ∈ cutV (ns.map V.int) lo hi := List.mem_of_getElem? h
  unfold cutV at h1
  have h2 := List.mem_of_mem_drop (List.mem_of_mem_take h1)
  obtain ⟨c, _, e⟩ := List.mem_map.mp h2
  exact ⟨c, e.symm⟩
theorem ite_merge {α : Sort _} {P R : Prop} [Decidable P] [Decidable R] {x y : α} : (if P then (if R then x else y) else y) = if P ∧ R then x else y := by
  by_cases p : P <;> by_cases r : R <;> simp [p, r]
theorem ite_or' {α : Sort _} {P R : Prop} [Decidable P] [Decidable R] {x y : α} : (if P then x else (if R then x else y)) = if P ∨ R then x else y := by
  by_cases p : P <;> by_cases r : R <;> simp [p, r]
theorem getD_all {α : Type} {p : α → Prop} {xs : List α} {d : α} (h : ∀ x ∈ xs, p x) (hd : p d) (i : Nat) : p (xs.getD i d) := by
  rw [List.getD_eq_getElem?_getD]
  cases e : xs[i]? with
  | none => exact hd
  | some x => exact h x (List.mem_of_getElem? e)
theorem md_rng {n : Int} (x : Int) (h : 0 < n) : 0 ≤ x % n ∧ x % n < n := ⟨Int.emod_nonneg _ (by omega), Int.emod_lt_of_pos _ h⟩
theorem pick2 {x y : V} {k : Int} (h0 : 0 ≤ k) (h1 : k < 2) : atI [x, y] k = some (if k = 0 then x else y) := by
  rcases (show k = 0 ∨ k = 1 by omega) with rfl | rfl
  · rfl
  · rfl
theorem pickI2 {x y k : Int} (h0 : 0 ≤ k) (h1 : k < 2) : atI [V.int x, V.int y] k = some (.int (if k = 0 then x else y)) := by
  rcases (show k = 0 ∨ k = 1 by omega) with rfl | rfl
  · rfl
  · rfl
/-- an item of a list of whole numbers -/
theorem atInt {xs : List Int} {k : Int} (h0 : 0 ≤ k) (h1 : k < (xs.length : Int)) : atI (xs.map V.int) k = some (.int (xs.getD k.toNat 0)) := by
  have e2 : k = ((k.toNat : Nat) : Int) := by omega
  have e3 : k.toNat < xs.length := by omega
  rw [e2]
  refine atI_nat ?_
  rw [List.getElem?_map, List.getElem?_eq_getElem e3, List.getD_eq_getElem?_getD, Int.toNat_natCast, List.getElem?_eq_getElem e3]
  rfl
/-- the law's own def -/
theorem fn_law {P : Program} {w : World} {K : PySem.W.Frag} {mg : Str → Option Value} {base : Heap} {x : Str} {st : Stmt} {N ps : List Str} {k : Nat} {sp : Sp} {f0 : Addr} {fd : FuncData} (F : FunD K x x (defArgs st) (defBody st) (defScope st) [] [] f0 fd) (S : FnScope N ps (defScope st)) (len : ∀ vs H Q E, sp vs H Q E → vs.length = ps.length)
    (hbody : ∀ (f : Addr) (cdv : Value) (A : Around) (outer : List Env) (s : Shared) (H : Hp) (vs : List V) (Q : VK) (E : XK), Room k (A.deeper (envOfC x (defScope st) s.heap.objs.size f cdv)) → sp vs H Q E →
      ∃ t, PSs (cxOf (L2N.CX P w) P w K mg base N x (defScope st) f cdv A outer s H E) (defBody st) t ∧ t { nx := fun _ H' => Q .non H', rt := Q } (start N vs) H) : FnOk P w K mg base (L2N.CX P w) (k + 1) f0 fd ps sp :=
  F.ok S len fun cdv A outer s H vs Q E hr h => hbody _ cdv A outer s H vs Q E hr h
/-- the end of a law, its air leaning on the world -/
theorem walk_W {l : PySem.W.OpenLaw} {n k : Nat} {q : Program} {loose : List Str} {XP : (Str → Option Value) → Heap → Prop} {YP : World → Heap → Prop} {d : DefRec} {CX : World → CXT} {x : Str}
    (hn : l.most = some n) (hn2 : n ≤ sizeLine) (hdf : d.params.defaults = []) (hr : Room k callerA)
    (F : ∀ (w : World) (mg : Str → Option Value) (fa : Addr) (h : Heap), YP w h → h.Ns mainGlobals mg → mg d.name = some (.ref fa) →
      ∃ (K : PySem.W.Frag) (fd : FuncData) (sp : Sp), K.In h ∧ (∀ (s : Shared) (u : Value), BindsTo s fd ⟨[u], []⟩ [(x, u)]) ∧
        (∀ (H : Hp) (a : Addr) (ns : List Int), ns.length ≤ n → Only H → SqL K H a (ns.map V.int) → sp [.ref a] H (fun v _ => v = .bl true) fun _ _ _ => False) ∧
        ∀ base : Heap, K.In base → base.Ns mainGlobals mg → FnOk l.prog w K mg base (CX w) k fa fd [x] sp)
    (hCX : ∀ (w : World) (H : Hp) (s : Shared) (e : Value) (s' : Shared), CX w [] H s (fun _ _ _ => False) e s' → False) :
    PySem.W.WalkO q loose XP YP l.row.toRowW d [] (fun f vs => PySem.call f vs) := by
  refine Att.attach_call hn hdf fun w s₀ s₁ mg mb fa o pm cd doc a vs ns G Y ho hd hcd hmg hobj hints hlen hg => ?_
  obtain ⟨K, fd, sp, KX, hb, hsp, hF⟩ := F w mg fa _ Y G.T.g hmg
  exact law_call KX G.T.g G.T.b G.T.builtins G.T.nolimit hg hobj hints (Nat.le_trans hlen hn2) hr hF hb (fun H hO hS => hsp H a ns hlen hO hS) fun H e s' => hCX w H s₁ e s'
/-- a whole number between two -/
def amongV (x : V) (lo hi : Int) : Bool := match x with
  | .int n => decide (lo ≤ n) && decide (n ≤ hi)
  | _ => false
/-- things that may be handed in anywhere -/
def Kn (H : Hp) (x : V) : Prop := (tyN H x).isSome = true
theorem Kn.cases {H : Hp} {x : V} (h : Kn H x) : x = .non ∨ (∃ b, x = .bl b) ∨ (∃ n, x = .int n) ∨ (∃ z, x = .str z) ∨ ∃ a t, x = .ref a ∧ tyN H (.ref a) = some t ∧ (t = "list" ∨ t = "tuple" ∨ t = "dict") := by
  unfold Kn at h
  cases x with
  | non => exact .inl rfl
  | bl b => exact .inr (.inl ⟨b, rfl⟩)
  | int n => exact .inr (.inr (.inl ⟨n, rfl⟩))
  | str z => exact .inr (.inr (.inr (.inl ⟨z, rfl⟩)))
  | byt b => cases h
  | flt b => cases h
  | ty n => cases h
  | ref a =>
    refine .inr (.inr (.inr (.inr ?_)))
    unfold tyN at h
    dsimp only at h
    split at h
    · rename_i xs e
      exact ⟨a, "list", rfl, by unfold tyN; dsimp only; rw [e], .inl rfl⟩
    · rename_i xs e
      exact ⟨a, "tuple", rfl, by unfold tyN; dsimp only; rw [e], .inr (.inl rfl)⟩
    · rename_i xs e
      exact ⟨a, "dict", rfl, by unfold tyN; dsimp only; rw [e], .inr (.inr rfl)⟩
    · cases h
end RP

/-! ### frames, comprehensions by what they give, texts -/
namespace RP
open PySem PySem.Spec PyProof.Rows L2
/-- what is outside A stays -/
def Fr (A : List Addr) (H H' : Hp) : Prop := ∀ b o, b ∉ A → H b = some o → H' b = some o
theorem Fr.refl (A : List Addr) (H : Hp) : Fr A H H := fun _ _ _ h => h
theorem Fr.trans {A : List Addr} {H H1 H2 : Hp} (a : Fr A H H1) (b : Fr A H1 H2) : Fr A H H2 := fun c o n h => b c o n (a c o n h)
theorem Fr.of {A : List Addr} {H H1 : Hp} (a : Same H H1) : Fr A H H1 := fun c o _ h => a c o h
theorem Fr.upd {A : List Addr} {H H1 : Hp} {p : Addr} {o : HO} (a : Fr A H H1) (m : p ∈ A) : Fr A H (L2.upd H1 p o) := fun c u n h => by
  rw [upd_ne (fun e => n (by rw [e]; exact m))]
  exact a c u n h
theorem Fr.new {A : List Addr} {H H1 : Hp} {p : Addr} {o : HO} (a : Fr A H H1) (m : H1 p = none) : Fr A H (L2.upd H1 p o) := a.trans (.of (same_new m))
theorem Fr.mono {A B : List Addr} {H H1 : Hp} (a : Fr A H H1) (s : ∀ x ∈ A, x ∈ B) : Fr B H H1 := fun c o n h => a c o (fun m => n (s c m)) h
theorem Same.fr {H H1 : Hp} (a : Fr [] H H1) : Same H H1 := fun c o h => a c o (by simp) h
theorem ne_of_obj {H : Hp} {a b : Addr} {o u : HO} (h : H a = some o) (h2 : H b = some u) (n : o ≠ u) : a ≠ b := fun e => by
  rw [e, h2] at h
  exact n (Option.some.inj h).symm
/-- two lists, item by item -/
inductive All2 {α β : Type} (R : α → β → Prop) : List α → List β → Prop
  | nil : All2 R [] []
  | cons {x y xs ys} : R x y → All2 R xs ys → All2 R (x :: xs) (y :: ys)
theorem All2.mono {α β : Type} {R S : α → β → Prop} (i : ∀ x y, R x y → S x y) : ∀ {xs : List α} {ys : List β}, All2 R xs ys → All2 S xs ys
  | _, _, .nil => .nil
  | _, _, .cons h t => .cons (i _ _ h) (t.mono i)
theorem All2.snoc {α β : Type} {R : α → β → Prop} {x : α} {y : β} (h : R x y) : ∀ {xs : List α} {ys : List β}, All2 R xs ys → All2 R (xs ++ [x]) (ys ++ [y])
  | _, _, .nil => .cons h .nil
  | _, _, .cons h1 t => .cons h1 (t.snoc h)
theorem All2.length {α β : Type} {R : α → β → Prop} : ∀ {xs : List α} {ys : List β}, All2 R xs ys → xs.length = ys.length
  | _, _, .nil => rfl
  | _, _, .cons _ t => by rw [List.length_cons, List.length_cons, t.length]
theorem All2.get {α β : Type} {R : α → β → Prop} : ∀ {xs : List α} {ys : List β} {i : Nat} {y : β}, All2 R xs ys → ys[i]? = some y → ∃ x, xs[i]? = some x ∧ R x y
  | _, _, 0, y, .cons h _, e => ⟨_, rfl, by cases e; exact h⟩
  | _, _, i + 1, y, .cons _ t, e => by
    obtain ⟨x, e1, r⟩ := t.get (i := i) (by simpa using e)
    exact ⟨x, by simpa using e1, r⟩
  | _, _, i, y, .nil, e => by simp at e
theorem All2.getL {α β : Type} {R : α → β → Prop} : ∀ {xs : List α} {ys : List β} {i : Nat} {x : α}, All2 R xs ys → xs[i]? = some x → ∃ y, ys[i]? = some y ∧ R x y
  | _, _, 0, y, .cons h _, e => ⟨_, rfl, by cases e; exact h⟩
  | _, _, i + 1, y, .cons _ t, e => by
    obtain ⟨x, e1, r⟩ := t.getL (i := i) (by simpa using e)
    exact ⟨x, by simpa using e1, r⟩
  | _, _, i, y, .nil, e => by simp at e
theorem All2.of_map {α β : Type} {R : α → β → Prop} {f : α → β} (h : ∀ x, R x (f x)) : ∀ (xs : List α), All2 R xs (xs.map f)
  | [] => .nil
  | x :: r => .cons (h x) (All2.of_map h r)
theorem All2.map_eq {α β : Type} {f : α → β} : ∀ {xs : List α} {ys : List β}, All2 (fun x y => y = f x) xs ys → ys = xs.map f
  | _, _, .nil => rfl
  | _, _, .cons h t => by rw [h, t.map_eq]; rfl
theorem All2.map_l {α β γ : Type} {f : γ → α} {R : α → β → Prop} : ∀ {xs : List γ} {ys : List β}, All2 R (xs.map f) ys → All2 (fun x y => R (f x) y) xs ys
  | [], _, .nil => .nil
  | _ :: _, _, .cons h t => .cons h t.map_l
theorem All2.mapO_eq {f : V → Option PyData} {g : α → PyData} : ∀ {xs : List α} {ys : List V}, All2 (fun x y => f y = some (g x)) xs ys → mapO f ys = some (xs.map g)
  | _, _, .nil => rfl
  | _, _, .cons h t => by
    unfold mapO
    rw [h, t.mapO_eq]
    rfl
/-- what stays told, whatever becomes of the new list -/
def Keeps (R : Hp → α → V → Prop) : Prop := ∀ H H' D xs x y, H D = some (.lst xs) → Fr [D] H H' → R H x y → R H' x y
theorem keeps_pure {R : α → V → Prop} : Keeps (fun _ => R) := fun _ _ _ _ _ _ _ _ r => r
theorem keeps_tup {f : α → List V} : Keeps (fun H x y => ∃ q, y = .ref q ∧ H q = some (.tup (f x))) := fun H H' D xs x y hD fr ⟨q, e, h⟩ =>
  ⟨q, e, fr q _ (fun m => by
    have e2 : q = D := by simpa using m
    rw [e2, hD] at h
    cases h) h⟩
section
variable {K : PySem.W.Frag} {tl te : TE} {ta : TA} {g : TG} {tb : TS} {D : Ends} {σ : L2.St} {H : Hp} {vs : List Nat} {Q : VK}
/-- [e for x in a list] -/
theorem lcut {tl : TE} (G : Addr → Hp → Prop) (R : Hp → V → V → Prop) (xs : List V) (hk : Keeps R) (h1 : ∀ Z : VK, (∀ a H1, G a H1 → Z (.ref a) H1) → tl σ H Z) (h0 : ∀ a H1, G a H1 → SqL K H1 a xs) (hlen : xs.length ≤ sizeLine)
    (hs : ∀ a H1 H2 (i : Nat) x (Z : VK), G a H1 → xs[i]? = some x → Same H1 H2 → (∀ y H3, Same H2 H3 → R H3 x y → Z y H3) → g x (wipe σ vs) H2 fun σ2 H3' => wipe σ2 vs = wipe σ vs ∧ te σ2 H3' Z)
    (hd : ∀ a H1 H3 D rs, G a H1 → H1 D = none → Same H1 H3 → H3 D = some (.lst rs) → All2 (R H3) xs rs → Q (.ref D) H3) : tLc (iList K tl) g tYes te vs σ H Q := by
  refine h1 _ fun a H1 hG => ⟨a, rfl, ⟨xs, h0 a H1 hG⟩, fun D nD => ?_⟩
  refine lc_list (xs := xs) (fun i H' => Same H1 H' ∧ ∃ rs, H' D = some (.lst rs) ∧ All2 (R H') (xs.take i) rs) ⟨same_new nD, [], upd_same, by rw [List.take_zero]; exact .nil⟩ (fun i H' _ h => h.1.seq (h0 a H1 hG)) ?_ ?_
  · rintro i x H' hx ⟨s1, rs, hD, ar⟩
    obtain ⟨hi, hx2⟩ := List.getElem?_eq_some_iff.mp hx
    simp only [tYes, if_true]
    refine hs a H1 H' i x _ hG hx s1 fun y H3 s3 r3 => ?_
    have hl : rs.length < sizeLine := by
      rw [← ar.length, List.length_take]
      omega
    refine ⟨rs, s3 _ _ hD, hl, fun c o ec => ?_, rs ++ [y], upd_same, ?_⟩
    · rw [upd_ne (ne_of_none ec nD)]
      exact s3 _ _ (s1 _ _ ec)
    · have f3 : Fr [D] H3 (upd H3 D (.lst (rs ++ [y]))) := (Fr.refl _ _).upd (by simp)
      have e : xs.take (i + 1) = xs.take i ++ [x] := by rw [List.take_succ, hx]; rfl
      rw [e]
      exact (ar.mono fun u v r => hk _ _ D _ u v (s3 _ _ hD) f3 (hk _ _ D _ u v hD (.of s3) r)).snoc (hk _ _ D _ x y (s3 _ _ hD) f3 r3)
  · rintro H' ⟨s1, rs, hD, ar⟩
    rw [List.take_length] at ar
    exact hd a H1 H' D rs hG nD s1 hD ar
/-- [e for x in range(n)] -/
theorem rcut {wi : TI} (lo : Int) (n : Nat) (G : Hp → Prop) (R : Hp → Nat → V → Prop) (hk : Keeps R) (h1 : ∀ Z : It → Hp → Prop, (∀ H1, G H1 → Z (Itr lo n) H1) → wi σ H Z) (hlen : n ≤ sizeLine)
    (hs : ∀ H1 H2 i (Z : VK), G H1 → i < n → Same H1 H2 → (∀ y H3, Same H2 H3 → R H3 i y → Z y H3) → g (.int (lo + i)) (wipe σ vs) H2 fun σ2 H3' => wipe σ2 vs = wipe σ vs ∧ te σ2 H3' Z)
    (hd : ∀ H1 H3 D rs, G H1 → H1 D = none → Same H1 H3 → H3 D = some (.lst rs) → All2 (R H3) (List.range n) rs → Q (.ref D) H3) : tLc wi g tYes te vs σ H Q := by
  refine h1 _ fun H1 hG => fun D nD => ?_
  refine lc_range (fun i H' => Same H1 H' ∧ ∃ rs, H' D = some (.lst rs) ∧ All2 (R H') (List.range i) rs) ⟨same_new nD, [], upd_same, .nil⟩ ?_ ?_
  · rintro i H' hi ⟨s1, rs, hD, ar⟩
    simp only [tYes, if_true]
    refine hs H1 H' i _ hG hi s1 fun y H3 s3 r3 => ?_
    have hl : rs.length < sizeLine := by
      rw [← ar.length, List.length_range]
      omega
    refine ⟨rs, s3 _ _ hD, hl, fun c o ec => ?_, rs ++ [y], upd_same, ?_⟩
    · rw [upd_ne (ne_of_none ec nD)]
      exact s3 _ _ (s1 _ _ ec)
    · have f3 : Fr [D] H3 (upd H3 D (.lst (rs ++ [y]))) := (Fr.refl _ _).upd (by simp)
      rw [List.range_succ]
      exact (ar.mono fun u v r => hk _ _ D _ u v (s3 _ _ hD) f3 (hk _ _ D _ u v hD (.of s3) r)).snoc (hk _ _ D _ i y (s3 _ _ hD) f3 r3)
  · rintro H' ⟨s1, rs, hD, ar⟩
    exact hd H1 H' D rs hG nD s1 hD ar
/-- [e for i, x in enumerate(a list)] -/
theorem ecut {ta : TA} (G : Addr → Hp → Prop) (R : Hp → Nat × V → V → Prop) (xs : List V) (hk : Keeps R) (h1 : ∀ Z : List V → Hp → Prop, (∀ a H1, G a H1 → Z [.ref a] H1) → ta σ H Z) (h0 : ∀ a H1, G a H1 → SqL K H1 a xs) (hlen : xs.length ≤ sizeLine)
    (hs : ∀ a H1 H2 (i : Nat) x T (Z : VK), G a H1 → xs[i]? = some x → Same H1 H2 → H2 T = some (.tup [.int (i : Nat), x]) → (∀ y H3, Same H2 H3 → R H3 (i, x) y → Z y H3) → g (.ref T) (wipe σ vs) H2 fun σ2 H3' => wipe σ2 vs = wipe σ vs ∧ te σ2 H3' Z)
    (hd : ∀ a H1 H3 D rs, G a H1 → H1 D = none → Same H1 H3 → H3 D = some (.lst rs) → All2 (R H3) ((List.range xs.length).zip xs) rs → Q (.ref D) H3) : tLc (iEnum K ta) g tYes te vs σ H Q := by
  refine h1 _ fun a H1 hG => ⟨a, xs, rfl, h0 a H1 hG, fun D nD => ?_⟩
  refine ⟨fun i m H' => m = xs.length - i ∧ i ≤ xs.length ∧ Same H1 H' ∧ ∃ rs, H' D = some (.lst rs) ∧ All2 (R H') ((List.range i).zip (xs.take i)) rs, ⟨xs.length, by simp, Nat.zero_le _, same_new nD, [], upd_same, .nil⟩, ?_⟩
  rintro i m H' ⟨rfl, hi, s1, rs, hD, ar⟩
  have q := s1.seq (h0 a H1 hG)
  by_cases hlt : i < xs.length
  · refine .inr ⟨⟨xs, xs[i], q, by simp [hlt]⟩, fun H' => i + 1 ≤ xs.length ∧ Same H1 H' ∧ ∃ rs, H' D = some (.lst rs) ∧ All2 (R H') ((List.range (i + 1)).zip (xs.take (i + 1))) rs, fun H' p' => ⟨xs.length - (i + 1), by omega, rfl, hlt, p'.2⟩, fun v H'' y => ?_⟩
    obtain ⟨T, x, rfl, nT, rfl, hx⟩ := y
    have hx := hx xs q
    have sT : Same H' (upd H' T (.tup [.int (i : Nat), x])) := same_new nT
    simp only [tYes, if_true]
    refine hs a H1 _ i x T _ hG hx (s1.trans sT) upd_same fun y H3 s3 r3 => ?_
    have hl : rs.length < sizeLine := by
      rw [← ar.length, List.length_zip, List.length_take, List.length_range]
      omega
    have s4 := sT.trans s3
    refine ⟨rs, s4 _ _ hD, hl, hlt, fun c o ec => ?_, rs ++ [y], upd_same, ?_⟩
    · rw [upd_ne (ne_of_none ec nD)]
      exact s4 _ _ (s1 _ _ ec)
    · have f3 : Fr [D] H3 (upd H3 D (.lst (rs ++ [y]))) := (Fr.refl _ _).upd (by simp)
      have e : xs.take (i + 1) = xs.take i ++ [x] := by rw [List.take_succ, hx]; rfl
      rw [e, List.range_succ, List.zip_append (by rw [List.length_range, List.length_take]; omega)]
      exact (ar.mono fun u v r => hk _ _ D _ u v (s4 _ _ hD) f3 (hk _ _ D _ u v hD (.of s4) r)).snoc (hk _ _ D _ (i, x) y (s4 _ _ hD) f3 r3)
  · have e : i = xs.length := by omega
    subst e
    rw [List.take_length] at ar
    exact .inl ⟨⟨xs, q, Nat.le_refl _⟩, hd a H1 H' D rs hG nD s1 hD ar⟩
/-- [e for x in range(n) if ..] -/
theorem rcutF {tt : TT} {wi : TI} (lo : Int) (n : Nat) (c : Nat → Bool) (G : Hp → Prop) (R : Hp → Nat → V → Prop) (hk : Keeps R) (h1 : ∀ Z : It → Hp → Prop, (∀ H1, G H1 → Z (Itr lo n) H1) → wi σ H Z) (hlen : n ≤ sizeLine)
    (hs : ∀ H1 H2 i (Z : VK) (W : Hp → Prop), G H1 → i < n → Same H1 H2 → (c i = true → ∀ y H3, Same H2 H3 → R H3 i y → Z y H3) → (c i = false → ∀ H3, Same H2 H3 → W H3) → g (.int (lo + i)) (wipe σ vs) H2 fun σ2 H3' => wipe σ2 vs = wipe σ vs ∧ tt σ2 H3' fun b H3 => if b = true then te σ2 H3 Z else W H3)
    (hd : ∀ H1 H3 D rs, G H1 → H1 D = none → Same H1 H3 → H3 D = some (.lst rs) → All2 (R H3) ((List.range n).filter c) rs → Q (.ref D) H3) : tLc wi g tt te vs σ H Q := by
  refine h1 _ fun H1 hG => fun D nD => ?_
  refine lc_range (fun i H' => i ≤ n ∧ Same H1 H' ∧ ∃ rs, H' D = some (.lst rs) ∧ All2 (R H') ((List.range i).filter c) rs) ⟨Nat.zero_le _, same_new nD, [], upd_same, .nil⟩ ?_ ?_
  · rintro i H' hi ⟨_, s1, rs, hD, ar⟩
    refine hs H1 H' i _ _ hG hi s1 (fun hc y H3 s3 r3 => ?_) (fun hc H3 s3 => ?_)
    · have hl : rs.length < sizeLine := by
        rw [← ar.length]
        exact Nat.lt_of_le_of_lt (List.length_filter_le _ _) (by rw [List.length_range]; omega)
      refine ⟨rs, s3 _ _ hD, hl, hi, fun c o ec => ?_, rs ++ [y], upd_same, ?_⟩
      · rw [upd_ne (ne_of_none ec nD)]
        exact s3 _ _ (s1 _ _ ec)
      · have f3 : Fr [D] H3 (upd H3 D (.lst (rs ++ [y]))) := (Fr.refl _ _).upd (by simp)
        rw [List.range_succ, List.filter_append, List.filter_cons, if_pos hc]
        exact (ar.mono fun u v r => hk _ _ D _ u v (s3 _ _ hD) f3 (hk _ _ D _ u v hD (.of s3) r)).snoc (hk _ _ D _ i y (s3 _ _ hD) f3 r3)
    · refine ⟨hi, s1.trans s3, rs, s3 _ _ hD, ?_⟩
      rw [List.range_succ, List.filter_append, List.filter_cons, if_neg (by rw [hc]; exact Bool.false_ne_true), List.filter_nil, List.append_nil]
      exact ar.mono fun u v r => hk _ _ D _ u v hD (.of s3) r
  · rintro H' ⟨_, s1, rs, hD, ar⟩
    exact hd H1 H' D rs hG nD s1 hD ar
/-- [e for x in a list if ..], none of which is taken -/
theorem lcut0 {tt : TT} {tl : TE} (G : Addr → Hp → Prop) (xs : List V) (h1 : ∀ Z : VK, (∀ a H1, G a H1 → Z (.ref a) H1) → tl σ H Z) (h0 : ∀ a H1, G a H1 → SqL K H1 a xs)
    (hs : ∀ a H1 H2 (i : Nat) x (Z : VK) (W : Hp → Prop), G a H1 → xs[i]? = some x → Same H1 H2 → (∀ H3, Same H2 H3 → W H3) → g x (wipe σ vs) H2 fun σ2 H3' => wipe σ2 vs = wipe σ vs ∧ tt σ2 H3' fun b H3 => if b = true then te σ2 H3 Z else W H3)
    (hd : ∀ a H1 H3 D, G a H1 → H1 D = none → Same H1 H3 → H3 D = some (.lst []) → Q (.ref D) H3) : tLc (iList K tl) g tt te vs σ H Q := by
  refine h1 _ fun a H1 hG => ⟨a, rfl, ⟨xs, h0 a H1 hG⟩, fun D nD => ?_⟩
  refine lc_list (xs := xs) (fun i H' => Same H1 H' ∧ H' D = some (.lst [])) ⟨same_new nD, upd_same⟩ (fun i H' _ h => h.1.seq (h0 a H1 hG)) ?_ ?_
  · rintro i x H' hx ⟨s1, hD⟩
    exact hs a H1 H' i x _ _ hG hx s1 fun H3 s3 => ⟨s1.trans s3, s3 _ _ hD⟩
  · rintro H' ⟨s1, hD⟩
    exact hd a H1 H' D hG nD s1 hD
/-- for x in range(..) -/
theorem for_rcut {wi : TI} (lo : Int) (n : Nat) (G : Hp → Prop) (h1 : ∀ Z : It → Hp → Prop, (∀ H1, G H1 → Z (Itr lo n) H1) → wi σ H Z) (Pv : Nat → L2.St → Hp → Prop) (h0 : ∀ H1, G H1 → Pv 0 σ H1)
    (hs : ∀ i σ H, i < n → Pv i σ H → g (.int (lo + i)) σ H fun σ2 H2 => tb { D with nx := Pv (i + 1), ct := Pv (i + 1), bk := D.nx } σ2 H2) (hd : ∀ σ H, Pv n σ H → D.nx σ H) : tFor wi g tb D σ H :=
  h1 _ fun H1 q => for_range Pv (h0 H1 q) hs hd
end
/-! #### sorted of a dict with int keys -/
def srt (ks : List Int) : List Int := ks.mergeSort fun a b => decide (a ≤ b)
theorem srt_perm (ks : List Int) : (srt ks).Perm ks := List.mergeSort_perm ..
theorem srt_mem {ks : List Int} {k : Int} : k ∈ srt ks ↔ k ∈ ks := (srt_perm ks).mem_iff
theorem srt_length (ks : List Int) : (srt ks).length = ks.length := (srt_perm ks).length_eq
theorem call_sortedC {X : Cx} (hcalm : X.calm = true) : CallR X (.builtin "sorted") (fun xs H Q => ∃ (a : Addr) (kvs : List (Key × V)) (ks : List Int), xs = [.ref a] ∧ H a = some (.dK kvs) ∧ kvs.map (·.1) = ks.map Sum.inl ∧ ks.length < 64 ∧
    ∀ p : Addr, H p = none → Q (.ref p) (upd H p (.lst ((srt ks).map V.int)))) :=
  call_imp (call_sortedDI hcalm) fun xs H Q ⟨a, kvs, ks, e, h, hk, l, q⟩ => ⟨a, kvs, ks, e, Rd.of h, hk, l, fun ys p pm so n => by
    have e : ys = srt ks := by
      refine List.Perm.eq_of_pairwise (le := fun a b => a ≤ b) (fun a b _ _ h1 h2 => Int.le_antisymm h1 h2) so ?_ (pm.trans (srt_perm ks).symm)
      have z := List.pairwise_mergeSort (le := fun a b : Int => decide (a ≤ b)) (fun a b c h1 h2 => by simp only [decide_eq_true_eq] at *; omega) (fun a b => by simp only [Bool.or_eq_true, decide_eq_true_eq]; omega) ks
      exact z.imp fun h => of_decide_eq_true h
    rw [e]
    exact q p n⟩
/-! #### texts -/
def TxtOk (n : Nat) (x : Str) : Prop := PyData.strOk x = true ∧ x.length ≤ n
theorem TxtOk.mono {n m : Nat} {x : Str} (h : TxtOk n x) (l : n ≤ m) : TxtOk m x := ⟨h.1, Nat.le_trans h.2 l⟩
theorem strOk_iff {x : Str} : PyData.strOk x = true ↔ ∀ c ∈ x.cps.toList, c < 0x110000 := by
  unfold PyData.strOk
  rw [Array.all_eq_true_iff_forall_mem]
  simp only [decide_eq_true_eq]
  exact ⟨fun h c m => h c (by simpa using m), fun h c m => h c (by simpa using m)⟩
theorem append_cps (x y : Str) : (x ++ y).cps.toList = x.cps.toList ++ y.cps.toList := by
  show (x.cps ++ y.cps).toList = _
  simp
theorem length_append (x y : Str) : (x ++ y).length = x.length + y.length := by
  show (x.cps ++ y.cps).size = _
  rw [Array.size_append]; rfl
theorem TxtOk.app {n m : Nat} {x y : Str} (h : TxtOk n x) (h2 : TxtOk m y) : TxtOk (n + m) (x ++ y) := by
  refine ⟨strOk_iff.mpr fun c hc => ?_, by rw [length_append]; exact Nat.add_le_add h.2 h2.2⟩
  rw [append_cps] at hc
  rcases List.mem_append.mp hc with z | z
  · exact strOk_iff.mp h.1 c z
  · exact strOk_iff.mp h2.1 c z
/-- an attribute, within a block: the reading names no block -/
theorem pe_fldK {X : Cx} {K : PySem.W.Frag} {e : Expr} {ta : TE} {f : Str} {pos : Pos} (hK : X.K = K) (he : PE X e ta) (hb : attributeBase e f X.env (eval e X.env) = eval e X.env) : PE X (.Attribute e f pos) (tFld K ta f) := by
  subst hK
  exact pe_fld he hb
/-- a, b = a tuple -/
def gTupC (n : Nat) (t : TGs) : TG := fun v σ H Q => ∃ a, v = .ref a ∧ ∃ xs, H a = some (.tup xs) ∧ xs.length = n ∧ t xs σ H Q
theorem pg_tupC {X : Cx} {pos : Pos} {es : List Expr} {k : Nat} {t : TGs} {n : Nat} (hc : X.calm = true) (h : PGs X es t)
    (hn : (assignEach es X.env).length = n := by rfl) (hst : (assignEach es X.env).findIdx? (·.1) = none := by rfl) : PG X (.Tuple es k pos) (gTupC n t) :=
  ⟨fun pins s σ H v u Q I r ⟨a, e, xs, ha, hl, q⟩ => (pg_tup hc h hn hst).run pins s σ H v u Q I r ⟨a, xs, e, SqT.of ha, hl, q⟩⟩
/-- b if c else d, as a test -/
def tIfT (c a b : TT) : TT := fun σ H Q => c σ H fun d H1 => if d = true then a σ H1 Q else b σ H1 Q
theorem pt_ifExp {X : Cx} {pos : Pos} {c a b : Expr} {tc ta tb : TT} (hc : PT X c tc) (ha : PT X a ta) (hb : PT X b tb) : PT X (.IfExp c a b pos) (tIfT tc ta tb) := by
  refine ⟨fun pins s σ H Q I h => ?_⟩
  refine PyProof.Rows.isTrue_IfExp (thn (hc.run pins s σ H _ I h) fun d s1 ⟨H1, I1, q1⟩ => ?_)
  cases d with
  | true => exact ha.run pins s1 σ H1 Q I1 q1
  | false => exact hb.run pins s1 σ H1 Q I1 q1
/-- one statement, by where it gets to -/
theorem seq_rel {t u : TS} {D : Ends} {σ : L2.St} {H : Hp} (R : L2.St → Hp → Prop) (h1 : ∀ N : L2.St → Hp → Prop, (∀ σ1 H1, R σ1 H1 → N σ1 H1) → t { D with nx := N } σ H) (h2 : ∀ σ1 H1, R σ1 H1 → u D σ1 H1) : tSeq t u D σ H := h1 _ h2
theorem seq_to {t u : TS} {D : Ends} {σ : L2.St} {H : Hp} (σ1 : L2.St) (H1 : Hp) (h1 : ∀ N : L2.St → Hp → Prop, N σ1 H1 → t { D with nx := N } σ H) (h2 : u D σ1 H1) : tSeq t u D σ H := h1 _ h2
theorem call_listC {X : Cx} : CallR X (.type "list") (fun xs H Q => ∃ p ys, xs = [.ref p] ∧ seqO H p = some ys ∧ ∀ l, H l = none → Q (.ref l) (upd H l (.lst ys))) :=
  call_imp call_list_of fun vs H Q ⟨p, ys, e, h, q⟩ => ⟨p, ys, e, seqO_ok h, q⟩
theorem call_tupleC {X : Cx} : CallR X (.type "tuple") (fun xs H Q => ∃ p ys, xs = [.ref p] ∧ H p = some (.lst ys) ∧ ∀ l, H l = none → Q (.ref l) (upd H l (.tup ys))) :=
  call_imp call_tuple_of fun vs H Q ⟨p, ys, e, h, q⟩ => ⟨p, ys, e, .inl ⟨SqL.of h, q⟩⟩
theorem call_dictC {X : Cx} : CallR X (.type "dict") (fun xs H Q => ∃ p kvs, xs = [.ref p] ∧ H p = some (.dK kvs) ∧ ∀ l : Addr, H l = none → Q (.ref l) (upd H l (.dK kvs))) :=
  call_imp call_dictD fun vs H Q ⟨p, ys, e, h, q⟩ => ⟨p, ys, e, Rd.of h, q⟩
/-- texts: one sign -/
theorem ix_strC {X : Cx} : IxR X (fun x y H Q => ∃ z i, x = .str z ∧ y = .int i ∧ z.length ≤ sizeLine ∧ ∃ c, atI z.cps.toList i = some c ∧ Q (.str ⟨#[c]⟩) H) := ix_imp ix_str fun x y H Q ⟨z, i, e1, e2, l, c, h, q⟩ => ⟨z, i, c, e1, e2, l, h, q⟩
theorem RDq :
    (∀ (σ : L2.St) (H : Hp) (Q : VK), tDNewK σ H Q = ∀ p, H p = none → Q (.ref p) (upd H p (.dK []))) ∧
    (∀ (trs : List (TE × TE)) (σ : L2.St) (H : Hp) (Q : VK), tDisp trs σ H Q = ∀ p, H p = none → tPairs trs σ (upd H p (.dK [])) fun ps H2 => H2 p = some (.dK []) ∧ ∃ kvs : List (Key × V), ps = kvs.map (fun kv => (kV kv.1, kv.2)) ∧ kvs.length ≤ 15 ∧ Q (.ref p) (upd H2 p (.dK (mergeK [] kvs)))) ∧
    (∀ (σ : L2.St) (H : Hp) (Q : List (V × V) → Hp → Prop), tPairs [] σ H Q = Q [] H) ∧
    (∀ (tk tv : TE) (r : List (TE × TE)) (σ : L2.St) (H : Hp) (Q : List (V × V) → Hp → Prop), tPairs ((tk, tv) :: r) σ H Q = tk σ H fun x H1 => tv σ H1 fun y H2 => tPairs r σ H2 fun ps H3 => Q ((x, y) :: ps) H3) ∧
    (∀ (x y : V) (H : Hp) (Q : VK), rCat x y H Q = ∃ l b xs zs, x = .ref l ∧ y = .ref b ∧ H l = some (.lst xs) ∧ H b = some (.lst zs) ∧ xs.length + zs.length ≤ sizeLine ∧ ∀ p, H p = none → Q (.ref p) (upd H p (.lst (xs ++ zs)))) ∧
    (∀ (x y : V) (H : Hp) (Q : VK), rRep x y H Q = ∃ l k xs, x = .ref l ∧ y = .int k ∧ H l = some (.lst xs) ∧ -(2 ^ 63) ≤ k ∧ k < 2 ^ 63 ∧ xs.length * k.toNat ≤ sizeLine ∧ ∀ p, H p = none → Q (.ref p) (upd H p (.lst (List.replicate k.toNat xs).flatten))) ∧
    (∀ (K : PySem.W.Frag) (vs : List V) (H : Hp) (Q : VK), rAll K vs H Q = ∃ (a : Addr) (bs : List Bool), vs = [V.ref a] ∧ SqL K H a (bs.map V.bl) ∧ Q (.bl (bs.all id)) H) ∧
    (∀ (te : L2.St → Hp → (Int → Int → Hp → Prop) → Prop) (σ : L2.St) (H : Hp) (Q : VK), tLstRg te σ H Q = te σ H fun a b H1 => RgOk a b ∧ ∀ q, H1 q = none → Q (.ref q) (upd H1 q (.lst (rgV a b)))) ∧
    (∀ (ta : TE) (σ : L2.St) (H : Hp) (Q : Int → Int → Hp → Prop), tRg1 ta σ H Q = ta σ H fun x H1 => ∃ n, x = .int n ∧ Q 0 n H1) ∧
    (∀ (ta tb : TE) (σ : L2.St) (H : Hp) (Q : Int → Int → Hp → Prop), tRg2 ta tb σ H Q = ta σ H fun x H1 => tb σ H1 fun y H2 => ∃ i j, x = .int i ∧ y = .int j ∧ Q i j H2) ∧
    (∀ (r : V → List V → Hp → VK → Prop) (to te : TE) (σ : L2.St) (H : Hp) (Q : VK), tM1 r to te σ H Q = to σ H fun x H1 => (∃ a, x = .str a) ∧ te σ H1 fun y H2 => r x [y] H2 Q) ∧
    (∀ (x : V) (lo hi : Option Int) (H : Hp) (Q : VK), rSlS x lo hi H Q = ∃ z, x = .str z ∧ z.length ≤ sizeLine ∧ Q (.str (cutS z lo hi)) H) ∧
    (∀ (K : PySem.W.Frag) (x : V) (lo hi : Option Int) (H : Hp) (Q : VK), rSlL K x lo hi H Q = ∃ a xs, x = .ref a ∧ SqL K H a xs ∧ ∀ p, H p = none → Q (.ref p) (upd H p (.lst (cutV xs lo hi)))) ∧
    (∀ (α : Type) (f : α → V), ([] : List α).map f = []) ∧
    (∀ (ta : TA) (σ : L2.St) (H : Hp) (R : It → Hp → Prop), iRng1 ta σ H R = ta σ H fun vs H1 => ∃ j : Int, vs = [.int j] ∧ -(2 ^ 62) ≤ j ∧ j < 2 ^ 62 ∧ R (Itr 0 j.toNat) H1) ∧
    (∀ (ta : TA) (σ : L2.St) (H : Hp) (R : It → Hp → Prop), iRng2 ta σ H R = ta σ H fun vs H1 => ∃ i j : Int, vs = [.int i, .int j] ∧ (-(2 ^ 62) ≤ i ∧ i < 2 ^ 62 ∧ -(2 ^ 62) ≤ j ∧ j < 2 ^ 62) ∧ R (Itr i (j - i).toNat) H1) ∧
    (∀ (n : Nat) (t : TGs) (v : V) (σ : L2.St) (H : Hp) (Q : L2.St → Hp → Prop), gTupC n t v σ H Q = ∃ a, v = .ref a ∧ ∃ xs, H a = some (.tup xs) ∧ xs.length = n ∧ t xs σ H Q) ∧
    (∀ (c a b : TT) (σ : L2.St) (H : Hp) (Q : Bool → Hp → Prop), tIfT c a b σ H Q = c σ H fun d H1 => if d = true then a σ H1 Q else b σ H1 Q) ∧
    (∀ (K : PySem.W.Frag) (neg : Bool) (x y : V) (H : Hp) (Q : VK), rIn K neg x y H Q = ∃ p xs, y = .ref p ∧ (SqL K H p xs ∨ SqT K H p xs) ∧ flatV x = true ∧ xs.all flatV = true ∧ Q (.bl (if neg then !inV x xs else inV x xs)) H) ∧
    (∀ (σ : L2.St), wipe σ [] = σ) ∧ (∀ (σ : L2.St) (v : Nat) (vs : List Nat), wipe σ (v :: vs) = (wipe σ vs).set v none) :=
  ⟨fun _ _ _ => rfl, fun _ _ _ _ => rfl, fun _ _ _ => rfl, fun _ _ _ _ _ _ => rfl, fun _ _ _ _ => rfl, fun _ _ _ _ => rfl, fun _ _ _ _ => rfl, fun _ _ _ _ => rfl, fun _ _ _ _ => rfl, fun _ _ _ _ _ => rfl, fun _ _ _ _ _ _ => rfl, fun _ _ _ _ _ => rfl, fun _ _ _ _ _ _ => rfl, fun _ _ => rfl, fun _ _ _ _ => rfl, fun _ _ _ _ => rfl, fun _ _ _ _ _ _ => rfl, fun _ _ _ _ _ _ => rfl, fun _ _ _ _ _ _ => rfl, fun _ => rfl, fun _ _ _ => rfl⟩
/-! #### data under frames -/
theorem mapO_same {f f' : V → Option PyData} (hf : ∀ v d, f v = some d → f' v = some d) : ∀ (xs : List V) (ds : List PyData), mapO f xs = some ds → mapO f' xs = some ds
  | [], ds, h => h
  | v :: r, ds, h => by
    unfold mapO at h ⊢
    split at h
    · rename_i d ds' h1 h2
      cases h
      rw [hf _ _ h1, mapO_same hf r _ h2]
    · cases h
theorem dat_same {H H' : Hp} (s : Same H H') : ∀ (n : Nat) (v : V) (d : PyData), dat H n v = some d → dat H' n v = some d := by
  intro n
  induction n with
  | zero =>
    intro v d h
    cases v <;> exact h
  | succ n ih =>
    intro v d h
    cases v with
    | ref a =>
      unfold dat at h ⊢
      split at h
      · rename_i xs e1
        obtain ⟨ds, e2, rfl⟩ := Option.map_eq_some_iff.mp h
        rw [s _ _ e1]
        dsimp only
        rw [mapO_same ih _ _ e2]
        rfl
      · rename_i xs e1
        obtain ⟨ds, e2, rfl⟩ := Option.map_eq_some_iff.mp h
        rw [s _ _ e1]
        dsimp only
        rw [mapO_same ih _ _ e2]
        rfl
      · rename_i ob xs e1
        obtain ⟨ds, e2, rfl⟩ := Option.map_eq_some_iff.mp h
        rw [s _ _ e1]
        dsimp only
        rw [mapO_same ih _ _ e2]
        rfl
      · cases h
    | _ => exact h
/-- the heap but for A -/
def hm (A : List Addr) (H : Hp) : Hp := fun c => if c ∈ A then none else H c
theorem hm_in {A : List Addr} {H : Hp} {c : Addr} (h : c ∉ A) : hm A H c = H c := if_neg h
theorem hm_same {A : List Addr} {H : Hp} : Same (hm A H) H := fun c o h => by
  unfold hm at h
  split at h
  · cases h
  · exact h
theorem hm_fr {A : List Addr} {H H' : Hp} (f : Fr A H H') : Same (hm A H) (hm A H') := fun c o h => by
  unfold hm at h ⊢
  split at h
  · cases h
  · rename_i n
    rw [if_neg n]
    exact f c o n h
/-- the data of a list of texts -/
theorem dat_strs (H : Hp) (n : Nat) : ∀ (g : List Str), mapO (dat H n) (g.map V.str) = some (g.map PyData.str)
  | [] => rfl
  | x :: r => by
    have e : dat H n (.str x) = some (.str x) := (datE H).2.2.2.1 n x
    rw [List.map_cons]
    unfold mapO
    rw [e, dat_strs H n r]
    rfl
theorem dat_ints (H : Hp) (n : Nat) : ∀ (g : List Int), mapO (dat H n) (g.map V.int) = some (g.map PyData.int)
  | [] => rfl
  | x :: r => by
    have e : dat H n (.int x) = some (.int x) := (datE H).2.2.1 n x
    rw [List.map_cons]
    unfold mapO
    rw [e, dat_ints H n r]
    rfl
theorem mapO_append {f : V → Option PyData} : ∀ {xs ys : List V} {ds es : List PyData}, mapO f xs = some ds → mapO f ys = some es → mapO f (xs ++ ys) = some (ds ++ es)
  | [], ys, ds, es, h1, h2 => by cases h1; exact h2
  | x :: r, ys, ds, es, h1, h2 => by
    unfold mapO at h1
    split at h1
    · rename_i d ds' e1 e2
      cases h1
      rw [List.cons_append, List.cons_append]
      conv => lhs; unfold mapO
      rw [e1, mapO_append e2 h2]
    · cases h1
theorem shp_str {n m : Nat} {x : Str} (h : TxtOk n x) : Shp m (.str x) := (shp_s m).2.2.2 x h.1
theorem Shp.lay {n : Nat} {d : PyData} (h : Shp n d) : d.canLay0 = true := h.1
def mx2 (a b : Int) : Int := if b > a then b else a
end RP

namespace RP
open PySem PySem.Spec PyProof.Rows L2
def top (i : Nat) : Stmt := PySem.Challenge.pw_ringpost_k12_steps_as_lines.main.body.getD i (.Pass ⟨0, 0, 0, 0⟩)
/-- what the top says of an own error class -/
structure ErrC (K : PySem.W.Frag) (mg : Str → Option Value) (n : Str) : Prop where
  g : mg n = some (.ref (He.ga K n))
  ex : PySem.W.excIn K (He.ga K n) He.veBase "ValueError.__new__" = true
  k : PySem.W.keepIn K (.ref (He.ga K n)) = true
  s : PySem.W.subIn K (.ref (He.ga K n)) (.type "BaseException") = some true
  t : PySem.W.typeIn K (.ref (He.ga K n)) = some (.type "type")
end RP

namespace RP
open PySem PySem.Spec PyProof.Rows L2
abbrev s_is_among : Stmt := top 11
abbrev N_is_among : List Str := ["thing", "least", "most"]
theorem sc_is_among : FnScope N_is_among ["thing", "least", "most"] (defScope s_is_among) := ⟨rfl, rfl, rfl, by decide +kernel, rfl, by decide +kernel, by decide +kernel⟩
def sp_is_among (K : PySem.W.Frag) : Sp := fun vs H Q _ => ∃ x lo hi, vs = [x, .int lo, .int hi] ∧ Kn H x ∧ Q (.bl (amongV x lo hi)) H
theorem ok_is_among {P : Program} {w : World} {K : PySem.W.Frag} {mg : Str → Option Value} {base : Heap} (F : FnP K ("is_among", none) "is_among" "is_among" s_is_among) (hm : mg "is_among" = some (.ref (He.ga K "is_among"))) (bl : Blt mg) : Cal P w K mg base 1 "is_among" (sp_is_among K) := by
  refine fn_cal F hm sc_is_among (fun vs H Q E => by walk_at "len") (fun _ _ _ _ _ _ us hl => match us, hl with | [_, _, _], _ => rfl) (fun f cdv A outer s H vs Q E hr h => ?_)
  have hu := hu_of hr
  obtain ⟨x, lo, hi, rfl, hk, q⟩ := h
  refine ⟨_, (pss_one (ps_ret (pe_and (pe_callB call_isC (by rfl) (bl.isi) (by decide +kernel) (pa_cons (pv 0) (pa_cons (pe_bltn (v := .ty "int") (u := .type "int") rfl (bl.int) (by decide +kernel) rfl) pa_nil))) (pe_and (pe_not (pe_callB call_isC (by rfl) (bl.isi) (by decide +kernel) (pa_cons (pv 0) (pa_cons (pe_bltn (v := .ty "bool") (u := .type "bool") rfl (bl.bool) (by decide +kernel) rfl) pa_nil)))) (pe_one (pe_chain op_le op_le (pv 1) (pv 0) (pv 2))))))), ?_⟩
  walk_at "st0"
  simp only [RDa, RDb, RDv, RDk, RDx, RDe, RDd, RDp, RDq, List.getElem?_cons_zero, List.getElem?_cons_succ, List.set_cons_zero, List.set_cons_succ, List.cons.injEq, List.cons_ne_nil, reduceCtorEq, exists_eq_left', exists_eq_left, exists_and_left, and_assoc, exists_const, true_and, and_true, if_true, if_false, false_and, and_false, exists_false, false_or, or_false, true_implies, false_implies, implies_true, forall_eq, forall_eq', Bool.false_eq_true, if_neg, decide_eq_true_eq, Bool.not_eq_true', decide_eq_false_iff_not, Bool.not_true, Bool.not_false, List.length_cons, List.length_nil, sizeLine_eq, Nat.reduceAdd, Nat.reduceLeDiff, Nat.reduceLT, Int.reduceLT, Int.reduceLE, Int.emod_nonneg, ne_eq, Int.reduceEq, not_false_eq_true, not_true_eq_false]
  rcases hk.cases with rfl | ⟨b, rfl⟩ | ⟨n, rfl⟩ | ⟨z, rfl⟩ | ⟨a, t, rfl, ht, rfl | rfl | rfl⟩
  · simp only [RDa, RDb, RDv, RDk, RDx, RDe, RDd, RDp, RDq, List.getElem?_cons_zero, List.getElem?_cons_succ, List.set_cons_zero, List.set_cons_succ, List.cons.injEq, List.cons_ne_nil, reduceCtorEq, exists_eq_left', exists_eq_left, exists_and_left, and_assoc, exists_const, true_and, and_true, if_true, if_false, false_and, and_false, exists_false, false_or, or_false, true_implies, false_implies, implies_true, forall_eq, forall_eq', Bool.false_eq_true, if_neg, decide_eq_true_eq, Bool.not_eq_true', decide_eq_false_iff_not, Bool.not_true, Bool.not_false, List.length_cons, List.length_nil, sizeLine_eq, Nat.reduceAdd, Nat.reduceLeDiff, Nat.reduceLT, Int.reduceLT, Int.reduceLE, Int.emod_nonneg, ne_eq, Int.reduceEq, not_false_eq_true, not_true_eq_false]
    exact q
  · simp only [RDa, RDb, RDv, RDk, RDx, RDe, RDd, RDp, RDq, List.getElem?_cons_zero, List.getElem?_cons_succ, List.set_cons_zero, List.set_cons_succ, List.cons.injEq, List.cons_ne_nil, reduceCtorEq, exists_eq_left', exists_eq_left, exists_and_left, and_assoc, exists_const, true_and, and_true, if_true, if_false, false_and, and_false, exists_false, false_or, or_false, true_implies, false_implies, implies_true, forall_eq, forall_eq', Bool.false_eq_true, if_neg, decide_eq_true_eq, Bool.not_eq_true', decide_eq_false_iff_not, Bool.not_true, Bool.not_false, List.length_cons, List.length_nil, sizeLine_eq, Nat.reduceAdd, Nat.reduceLeDiff, Nat.reduceLT, Int.reduceLT, Int.reduceLE, Int.emod_nonneg, ne_eq, Int.reduceEq, not_false_eq_true, not_true_eq_false]
    exact q
  · simp only [RDa, RDb, RDv, RDk, RDx, RDe, RDd, RDp, RDq, List.getElem?_cons_zero, List.getElem?_cons_succ, List.set_cons_zero, List.set_cons_succ, List.cons.injEq, List.cons_ne_nil, reduceCtorEq, exists_eq_left', exists_eq_left, exists_and_left, and_assoc, exists_const, true_and, and_true, if_true, if_false, false_and, and_false, exists_false, false_or, or_false, true_implies, false_implies, implies_true, forall_eq, forall_eq', Bool.false_eq_true, if_neg, decide_eq_true_eq, Bool.not_eq_true', decide_eq_false_iff_not, Bool.not_true, Bool.not_false, List.length_cons, List.length_nil, sizeLine_eq, Nat.reduceAdd, Nat.reduceLeDiff, Nat.reduceLT, Int.reduceLT, Int.reduceLE, Int.emod_nonneg, ne_eq, Int.reduceEq, not_false_eq_true, not_true_eq_false]
    unfold amongV at q
    by_cases h1 : lo ≤ n
    · rw [if_pos h1]
      simpa [h1] using q
    · rw [if_neg h1]
      simpa [h1] using q
  · simp only [RDa, RDb, RDv, RDk, RDx, RDe, RDd, RDp, RDq, List.getElem?_cons_zero, List.getElem?_cons_succ, List.set_cons_zero, List.set_cons_succ, List.cons.injEq, List.cons_ne_nil, reduceCtorEq, exists_eq_left', exists_eq_left, exists_and_left, and_assoc, exists_const, true_and, and_true, if_true, if_false, false_and, and_false, exists_false, false_or, or_false, true_implies, false_implies, implies_true, forall_eq, forall_eq', Bool.false_eq_true, if_neg, decide_eq_true_eq, Bool.not_eq_true', decide_eq_false_iff_not, Bool.not_true, Bool.not_false, List.length_cons, List.length_nil, sizeLine_eq, Nat.reduceAdd, Nat.reduceLeDiff, Nat.reduceLT, Int.reduceLT, Int.reduceLE, Int.emod_nonneg, ne_eq, Int.reduceEq, not_false_eq_true, not_true_eq_false]
    exact q
  · simp only [RDa, RDb, RDv, RDk, RDx, RDe, RDd, RDp, RDq, List.getElem?_cons_zero, List.getElem?_cons_succ, List.set_cons_zero, List.set_cons_succ, List.cons.injEq, List.cons_ne_nil, reduceCtorEq, exists_eq_left', exists_eq_left, exists_and_left, and_assoc, exists_const, true_and, and_true, if_true, if_false, false_and, and_false, exists_false, false_or, or_false, true_implies, false_implies, implies_true, forall_eq, forall_eq', Bool.false_eq_true, if_neg, decide_eq_true_eq, Bool.not_eq_true', decide_eq_false_iff_not, Bool.not_true, Bool.not_false, List.length_cons, List.length_nil, sizeLine_eq, Nat.reduceAdd, Nat.reduceLeDiff, Nat.reduceLT, Int.reduceLT, Int.reduceLE, Int.emod_nonneg, ne_eq, Int.reduceEq, not_false_eq_true, not_true_eq_false, ht]
    exact q
  · simp only [RDa, RDb, RDv, RDk, RDx, RDe, RDd, RDp, RDq, List.getElem?_cons_zero, List.getElem?_cons_succ, List.set_cons_zero, List.set_cons_succ, List.cons.injEq, List.cons_ne_nil, reduceCtorEq, exists_eq_left', exists_eq_left, exists_and_left, and_assoc, exists_const, true_and, and_true, if_true, if_false, false_and, and_false, exists_false, false_or, or_false, true_implies, false_implies, implies_true, forall_eq, forall_eq', Bool.false_eq_true, if_neg, decide_eq_true_eq, Bool.not_eq_true', decide_eq_false_iff_not, Bool.not_true, Bool.not_false, List.length_cons, List.length_nil, sizeLine_eq, Nat.reduceAdd, Nat.reduceLeDiff, Nat.reduceLT, Int.reduceLT, Int.reduceLE, Int.emod_nonneg, ne_eq, Int.reduceEq, not_false_eq_true, not_true_eq_false, ht]
    exact q
  · simp only [RDa, RDb, RDv, RDk, RDx, RDe, RDd, RDp, RDq, List.getElem?_cons_zero, List.getElem?_cons_succ, List.set_cons_zero, List.set_cons_succ, List.cons.injEq, List.cons_ne_nil, reduceCtorEq, exists_eq_left', exists_eq_left, exists_and_left, and_assoc, exists_const, true_and, and_true, if_true, if_false, false_and, and_false, exists_false, false_or, or_false, true_implies, false_implies, implies_true, forall_eq, forall_eq', Bool.false_eq_true, if_neg, decide_eq_true_eq, Bool.not_eq_true', decide_eq_false_iff_not, Bool.not_true, Bool.not_false, List.length_cons, List.length_nil, sizeLine_eq, Nat.reduceAdd, Nat.reduceLeDiff, Nat.reduceLT, Int.reduceLT, Int.reduceLE, Int.emod_nonneg, ne_eq, Int.reduceEq, not_false_eq_true, not_true_eq_false, ht]
    exact q
end RP

namespace RP
open PySem PySem.Spec PyProof.Rows L2
/-- a thing that may be handed in, with its items -/
def KnI (H : Hp) (x : V) : Prop := Kn H x ∧ ∀ a xs, x = .ref a → seqO H a = some xs → ∀ y ∈ xs, Kn H y
theorem Kn.same {H H' : Hp} {x : V} (h : Kn H x) (s : Same H H') : Kn H' x := by
  rcases h.cases with rfl | ⟨b, rfl⟩ | ⟨n, rfl⟩ | ⟨z, rfl⟩ | ⟨a, t, rfl, ht, _⟩
  · rfl
  · rfl
  · rfl
  · rfl
  · unfold tyN at ht
    dsimp only at ht
    unfold Kn tyN
    dsimp only
    split at ht
    · rename_i e; rw [s _ _ e]; rfl
    · rename_i e; rw [s _ _ e]; rfl
    · rename_i e; rw [s _ _ e]; rfl
    · cases ht
theorem amongV_int {x : V} {lo hi : Int} (h : amongV x lo hi = true) : ∃ n, x = .int n ∧ lo ≤ n ∧ n ≤ hi := by
  cases x <;> simp only [amongV, Bool.false_eq_true, reduceCtorEq, Bool.and_eq_true, decide_eq_true_eq] at h
  exact ⟨_, rfl, h.1, h.2⟩
end RP

namespace RP
open PySem PySem.Spec PyProof.Rows L2
/-- a step, by the things themselves -/
def stepV (H : Hp) (x : V) : Bool := match x with
  | .ref a => match H a with
    | some (.tup [.str z, y]) => (decide (z = "send") || decide (z = "hand") || decide (z = "tell")) && amongV y 0 999999
    | _ => false
  | _ => false
abbrev s_need_step : Stmt := top 15
abbrev N_need_step : List Str := ["thing", "good"]
theorem sc_need_step : FnScope N_need_step ["thing"] (defScope s_need_step) := ⟨rfl, rfl, rfl, by decide +kernel, rfl, by decide +kernel, by decide +kernel⟩
def sp_need_step (K : PySem.W.Frag) : Sp := fun vs H Q E => ∃ x, vs = [x] ∧ KnI H x ∧ (stepV H x = true → Q .non H) ∧ (stepV H x = false → E (.ref (He.ga K "BadStep")) none H)
theorem ok_need_step {P : Program} {w : World} {K : PySem.W.Frag} {mg : Str → Option Value} {base : Heap} (F : FnP K ("need_step", none) "need_step" "need_step" s_need_step) (hm : mg "need_step" = some (.ref (He.ga K "need_step"))) (bl : Blt mg) (c_is_among : Cal P w K mg base 1 "is_among" (sp_is_among K)) (e_BadStep : ErrC K mg "BadStep") (G_MOST_NUMBER : ∃ t, mg "MOST_NUMBER" = some (.int 999999 t)) (g_WORDS : mg "WORDS" = some (.ref (He.ga K "WORDS"))) (hW : ∀ H, SqT K H (He.ga K "WORDS") [.str "send", .str "hand", .str "tell"]) : Cal P w K mg base 2 "need_step" (sp_need_step K) := by
  refine fn_cal F hm sc_need_step (fun vs H Q E => by walk_at "len") (fun _ _ _ _ _ _ us hl => match us, hl with | [_], _ => rfl) (fun f cdv A outer s H vs Q E hr h => ?_)
  have hu := hu_of hr
  obtain ⟨t_MOST_NUMBER, g_MOST_NUMBER⟩ := G_MOST_NUMBER
  obtain ⟨x, rfl, hk, q1, q2⟩ := h
  refine ⟨_, (pss_cons (ps_set (i := 1) sc_need_step.nd rfl (Or.inl rfl) (pe_and (pe_callB call_isC (by rfl) (bl.isi) (by decide +kernel) (pa_cons (pv 0) (pa_cons (pe_bltn (v := .ty "tuple") (u := .type "tuple") rfl (bl.tuple) (by decide +kernel) rfl) pa_nil))) (pe_and (pe_cmpR op_eq (pe_callB call_lenC (by rfl) (bl.len) (by decide +kernel) (pa_cons (pv 0) pa_nil)) pe_int (nomark _)) (pe_and (pe_callB call_isC (by rfl) (bl.isi) (by decide +kernel) (pa_cons (pe_ix ix_C (pv 0) pe_int (fun _ _ => rfl)) (pa_cons (pe_bltn (v := .ty "str") (u := .type "str") rfl (bl.str) (by decide +kernel) rfl) pa_nil))) (pe_one (pe_cmpR op_in_seq (pe_ix ix_C (pv 0) pe_int (fun _ _ => rfl)) (pe_glob (v := .ref (He.ga K "WORDS")) rfl g_WORDS rfl) (by rfl)))))))
  (pss_one (ps_if (PW.pt (pw_or (pt_not (pt_val (pv 1))) (pw_or1 (pt_not (pt_val (pe_fn c_is_among (hr.mono (by decide)) (L2N.takes_of rfl rfl rfl rfl) (pa_cons (pe_ix ix_C (pv 0) pe_int (fun _ _ => rfl)) (pa_cons pe_int (pa_cons (pe_glob (v := .int 999999) rfl g_MOST_NUMBER ⟨_, rfl⟩) pa_nil)))))))))
  (pss_one (L2N.ps_raise rfl (L2N.takes_of rfl rfl rfl rfl) (L2N.pmk_own PySem.F.excBase_ValueError e_BadStep.ex e_BadStep.g e_BadStep.k (raises_own e_BadStep.s e_BadStep.t) rfl)))
  pss_nil))), ?_⟩
  walk_at "st0"
  refine seq_gen fun N_a h_a => ?_
  simp only [RDa, RDb, RDv, RDk, RDx, RDe, RDd, RDp, RDq, List.getElem?_cons_zero, List.getElem?_cons_succ, List.set_cons_zero, List.set_cons_succ, List.cons.injEq, List.cons_ne_nil, reduceCtorEq, exists_eq_left', exists_eq_left, exists_and_left, and_assoc, exists_const, true_and, and_true, if_true, if_false, false_and, and_false, exists_false, false_or, or_false, true_implies, false_implies, implies_true, forall_eq, forall_eq', Bool.false_eq_true, if_neg, decide_eq_true_eq, Bool.not_eq_true', decide_eq_false_iff_not, Bool.not_true, Bool.not_false, List.length_cons, List.length_nil, sizeLine_eq, Nat.reduceAdd, Nat.reduceLeDiff, Nat.reduceLT, Int.reduceLT, Int.reduceLE, Int.emod_nonneg, ne_eq, Int.reduceEq, not_false_eq_true, not_true_eq_false]
  have no : stepV H x = false → N_a [some x, some (.bl false)] H := fun hs => by
    refine h_a _ _ ?_
    simp only [RDa, RDb, RDv, RDk, RDx, RDe, RDd, RDp, RDq, List.getElem?_cons_zero, List.getElem?_cons_succ, List.set_cons_zero, List.set_cons_succ, List.cons.injEq, List.cons_ne_nil, reduceCtorEq, exists_eq_left', exists_eq_left, exists_and_left, and_assoc, exists_const, true_and, and_true, if_true, if_false, false_and, and_false, exists_false, false_or, or_false, true_implies, false_implies, implies_true, forall_eq, forall_eq', Bool.false_eq_true, if_neg, decide_eq_true_eq, Bool.not_eq_true', decide_eq_false_iff_not, Bool.not_true, Bool.not_false, List.length_cons, List.length_nil, sizeLine_eq, Nat.reduceAdd, Nat.reduceLeDiff, Nat.reduceLT, Int.reduceLT, Int.reduceLE, Int.emod_nonneg, ne_eq, Int.reduceEq, not_false_eq_true, not_true_eq_false]
    exact q2 hs
  have nst : (∀ a xs, x = .ref a → H a ≠ some (.tup xs)) → stepV H x = false := fun hn => by
    unfold stepV
    cases x with
    | ref a =>
      dsimp only
      split
      · rename_i z y e; exact absurd e (hn a _ rfl)
      · rfl
    | _ => rfl
  rcases hk.1.cases with rfl | ⟨b, rfl⟩ | ⟨n, rfl⟩ | ⟨z, rfl⟩ | ⟨a, t, rfl, ht, rfl | rfl | rfl⟩
  · simp only [RDa, RDb, RDv, RDk, RDx, RDe, RDd, RDp, RDq, List.getElem?_cons_zero, List.getElem?_cons_succ, List.set_cons_zero, List.set_cons_succ, List.cons.injEq, List.cons_ne_nil, reduceCtorEq, exists_eq_left', exists_eq_left, exists_and_left, and_assoc, exists_const, true_and, and_true, if_true, if_false, false_and, and_false, exists_false, false_or, or_false, true_implies, false_implies, implies_true, forall_eq, forall_eq', Bool.false_eq_true, if_neg, decide_eq_true_eq, Bool.not_eq_true', decide_eq_false_iff_not, Bool.not_true, Bool.not_false, List.length_cons, List.length_nil, sizeLine_eq, Nat.reduceAdd, Nat.reduceLeDiff, Nat.reduceLT, Int.reduceLT, Int.reduceLE, Int.emod_nonneg, ne_eq, Int.reduceEq, not_false_eq_true, not_true_eq_false]
    exact no rfl
  · simp only [RDa, RDb, RDv, RDk, RDx, RDe, RDd, RDp, RDq, List.getElem?_cons_zero, List.getElem?_cons_succ, List.set_cons_zero, List.set_cons_succ, List.cons.injEq, List.cons_ne_nil, reduceCtorEq, exists_eq_left', exists_eq_left, exists_and_left, and_assoc, exists_const, true_and, and_true, if_true, if_false, false_and, and_false, exists_false, false_or, or_false, true_implies, false_implies, implies_true, forall_eq, forall_eq', Bool.false_eq_true, if_neg, decide_eq_true_eq, Bool.not_eq_true', decide_eq_false_iff_not, Bool.not_true, Bool.not_false, List.length_cons, List.length_nil, sizeLine_eq, Nat.reduceAdd, Nat.reduceLeDiff, Nat.reduceLT, Int.reduceLT, Int.reduceLE, Int.emod_nonneg, ne_eq, Int.reduceEq, not_false_eq_true, not_true_eq_false]
    exact no rfl
  · simp only [RDa, RDb, RDv, RDk, RDx, RDe, RDd, RDp, RDq, List.getElem?_cons_zero, List.getElem?_cons_succ, List.set_cons_zero, List.set_cons_succ, List.cons.injEq, List.cons_ne_nil, reduceCtorEq, exists_eq_left', exists_eq_left, exists_and_left, and_assoc, exists_const, true_and, and_true, if_true, if_false, false_and, and_false, exists_false, false_or, or_false, true_implies, false_implies, implies_true, forall_eq, forall_eq', Bool.false_eq_true, if_neg, decide_eq_true_eq, Bool.not_eq_true', decide_eq_false_iff_not, Bool.not_true, Bool.not_false, List.length_cons, List.length_nil, sizeLine_eq, Nat.reduceAdd, Nat.reduceLeDiff, Nat.reduceLT, Int.reduceLT, Int.reduceLE, Int.emod_nonneg, ne_eq, Int.reduceEq, not_false_eq_true, not_true_eq_false]
    exact no rfl
  · simp only [RDa, RDb, RDv, RDk, RDx, RDe, RDd, RDp, RDq, List.getElem?_cons_zero, List.getElem?_cons_succ, List.set_cons_zero, List.set_cons_succ, List.cons.injEq, List.cons_ne_nil, reduceCtorEq, exists_eq_left', exists_eq_left, exists_and_left, and_assoc, exists_const, true_and, and_true, if_true, if_false, false_and, and_false, exists_false, false_or, or_false, true_implies, false_implies, implies_true, forall_eq, forall_eq', Bool.false_eq_true, if_neg, decide_eq_true_eq, Bool.not_eq_true', decide_eq_false_iff_not, Bool.not_true, Bool.not_false, List.length_cons, List.length_nil, sizeLine_eq, Nat.reduceAdd, Nat.reduceLeDiff, Nat.reduceLT, Int.reduceLT, Int.reduceLE, Int.emod_nonneg, ne_eq, Int.reduceEq, not_false_eq_true, not_true_eq_false]
    exact no rfl
  · simp only [RDa, RDb, RDv, RDk, RDx, RDe, RDd, RDp, RDq, List.getElem?_cons_zero, List.getElem?_cons_succ, List.set_cons_zero, List.set_cons_succ, List.cons.injEq, List.cons_ne_nil, reduceCtorEq, exists_eq_left', exists_eq_left, exists_and_left, and_assoc, exists_const, true_and, and_true, if_true, if_false, false_and, and_false, exists_false, false_or, or_false, true_implies, false_implies, implies_true, forall_eq, forall_eq', Bool.false_eq_true, if_neg, decide_eq_true_eq, Bool.not_eq_true', decide_eq_false_iff_not, Bool.not_true, Bool.not_false, List.length_cons, List.length_nil, sizeLine_eq, Nat.reduceAdd, Nat.reduceLeDiff, Nat.reduceLT, Int.reduceLT, Int.reduceLE, Int.emod_nonneg, ne_eq, Int.reduceEq, not_false_eq_true, not_true_eq_false, ht]
    exact no (nst fun a' xs e h2 => by cases e; rw [tyN_tup h2] at ht; exact absurd ht (by decide))
  · obtain ⟨xs, hxs⟩ : ∃ xs, H a = some (.tup xs) := by
      unfold tyN at ht
      dsimp only at ht
      split at ht
      · exact absurd ht (by decide)
      · exact ⟨_, by assumption⟩
      · exact absurd ht (by decide)
      · cases ht
    have hy := hk.2 a xs rfl (seqO_tup hxs)
    simp only [RDa, RDb, RDv, RDk, RDx, RDe, RDd, RDp, RDq, List.getElem?_cons_zero, List.getElem?_cons_succ, List.set_cons_zero, List.set_cons_succ, List.cons.injEq, List.cons_ne_nil, reduceCtorEq, exists_eq_left', exists_eq_left, exists_and_left, and_assoc, exists_const, true_and, and_true, if_true, if_false, false_and, and_false, exists_false, false_or, or_false, true_implies, false_implies, implies_true, forall_eq, forall_eq', Bool.false_eq_true, if_neg, decide_eq_true_eq, Bool.not_eq_true', decide_eq_false_iff_not, Bool.not_true, Bool.not_false, List.length_cons, List.length_nil, sizeLine_eq, Nat.reduceAdd, Nat.reduceLeDiff, Nat.reduceLT, Int.reduceLT, Int.reduceLE, Int.emod_nonneg, ne_eq, Int.reduceEq, not_false_eq_true, not_true_eq_false, ht, lenO_tup hxs, seqO_tup hxs]
    by_cases l2 : xs.length = 2
    · rw [if_pos (by omega)]
      match xs, l2, hxs, hy with
      | [a0, a1], _, hxs, hy =>
        have k0 := hy a0 (by simp)
        have k1 := hy a1 (by simp)
        refine ⟨_, rfl, ?_⟩
        have nz : (∀ z, a0 ≠ .str z) → stepV H (.ref a) = false := fun hn => by
          unfold stepV
          dsimp only
          rw [hxs]
          split
          · rename_i z y e
            have e2 := Option.some.inj e
            injection e2 with e3
            injection e3 with e4 _
            exact absurd e4 (hn _)
          · rfl
        rcases k0.cases with rfl | ⟨b, rfl⟩ | ⟨n, rfl⟩ | ⟨z, rfl⟩ | ⟨a', t, rfl, ht', rfl | rfl | rfl⟩
        · simp only [RDa, RDb, RDv, RDk, RDx, RDe, RDd, RDp, RDq, List.getElem?_cons_zero, List.getElem?_cons_succ, List.set_cons_zero, List.set_cons_succ, List.cons.injEq, List.cons_ne_nil, reduceCtorEq, exists_eq_left', exists_eq_left, exists_and_left, and_assoc, exists_const, true_and, and_true, if_true, if_false, false_and, and_false, exists_false, false_or, or_false, true_implies, false_implies, implies_true, forall_eq, forall_eq', Bool.false_eq_true, if_neg, decide_eq_true_eq, Bool.not_eq_true', decide_eq_false_iff_not, Bool.not_true, Bool.not_false, List.length_cons, List.length_nil, sizeLine_eq, Nat.reduceAdd, Nat.reduceLeDiff, Nat.reduceLT, Int.reduceLT, Int.reduceLE, Int.emod_nonneg, ne_eq, Int.reduceEq, not_false_eq_true, not_true_eq_false]
          exact no (nz fun _ e => nomatch e)
        · simp only [RDa, RDb, RDv, RDk, RDx, RDe, RDd, RDp, RDq, List.getElem?_cons_zero, List.getElem?_cons_succ, List.set_cons_zero, List.set_cons_succ, List.cons.injEq, List.cons_ne_nil, reduceCtorEq, exists_eq_left', exists_eq_left, exists_and_left, and_assoc, exists_const, true_and, and_true, if_true, if_false, false_and, and_false, exists_false, false_or, or_false, true_implies, false_implies, implies_true, forall_eq, forall_eq', Bool.false_eq_true, if_neg, decide_eq_true_eq, Bool.not_eq_true', decide_eq_false_iff_not, Bool.not_true, Bool.not_false, List.length_cons, List.length_nil, sizeLine_eq, Nat.reduceAdd, Nat.reduceLeDiff, Nat.reduceLT, Int.reduceLT, Int.reduceLE, Int.emod_nonneg, ne_eq, Int.reduceEq, not_false_eq_true, not_true_eq_false]
          exact no (nz fun _ e => nomatch e)
        · simp only [RDa, RDb, RDv, RDk, RDx, RDe, RDd, RDp, RDq, List.getElem?_cons_zero, List.getElem?_cons_succ, List.set_cons_zero, List.set_cons_succ, List.cons.injEq, List.cons_ne_nil, reduceCtorEq, exists_eq_left', exists_eq_left, exists_and_left, and_assoc, exists_const, true_and, and_true, if_true, if_false, false_and, and_false, exists_false, false_or, or_false, true_implies, false_implies, implies_true, forall_eq, forall_eq', Bool.false_eq_true, if_neg, decide_eq_true_eq, Bool.not_eq_true', decide_eq_false_iff_not, Bool.not_true, Bool.not_false, List.length_cons, List.length_nil, sizeLine_eq, Nat.reduceAdd, Nat.reduceLeDiff, Nat.reduceLT, Int.reduceLT, Int.reduceLE, Int.emod_nonneg, ne_eq, Int.reduceEq, not_false_eq_true, not_true_eq_false]
          exact no (nz fun _ e => nomatch e)
        · simp only [RDa, RDb, RDv, RDk, RDx, RDe, RDd, RDp, RDq, List.getElem?_cons_zero, List.getElem?_cons_succ, List.set_cons_zero, List.set_cons_succ, List.cons.injEq, List.cons_ne_nil, reduceCtorEq, exists_eq_left', exists_eq_left, exists_and_left, and_assoc, exists_const, true_and, and_true, if_true, if_false, false_and, and_false, exists_false, false_or, or_false, true_implies, false_implies, implies_true, forall_eq, forall_eq', Bool.false_eq_true, if_neg, decide_eq_true_eq, Bool.not_eq_true', decide_eq_false_iff_not, Bool.not_true, Bool.not_false, List.length_cons, List.length_nil, sizeLine_eq, Nat.reduceAdd, Nat.reduceLeDiff, Nat.reduceLT, Int.reduceLT, Int.reduceLE, Int.emod_nonneg, ne_eq, Int.reduceEq, not_false_eq_true, not_true_eq_false]
          refine ⟨_, .inr (hW H), rfl, rfl, ?_⟩
          have ei : inV (.str z) [.str "send", .str "hand", .str "tell"] = (decide (z = "send") || decide (z = "hand") || decide (z = "tell")) := by
            have bd : ∀ u : Str, (u == z) = decide (z = u) := fun u => by
              rw [Bool.eq_iff_iff, beq_iff_eq, decide_eq_true_eq]
              exact eq_comm
            simp only [inV, List.any_cons, List.any_nil, eqV, bd, Bool.or_false, Bool.or_assoc]
          have es : stepV H (.ref a) = ((decide (z = "send") || decide (z = "hand") || decide (z = "tell")) && amongV a1 0 999999) := by
            unfold stepV
            dsimp only
            rw [hxs]
          rw [ei]
          cases hw : (decide (z = "send") || decide (z = "hand") || decide (z = "tell")) with
          | false =>
            rw [hw, Bool.false_and] at es
            exact no es
          | true =>
            rw [hw, Bool.true_and] at es
            refine h_a _ _ ?_
            simp only [RDa, RDb, RDv, RDk, RDx, RDe, RDd, RDp, RDq, List.getElem?_cons_zero, List.getElem?_cons_succ, List.set_cons_zero, List.set_cons_succ, List.cons.injEq, List.cons_ne_nil, reduceCtorEq, exists_eq_left', exists_eq_left, exists_and_left, and_assoc, exists_const, true_and, and_true, if_true, if_false, false_and, and_false, exists_false, false_or, or_false, true_implies, false_implies, implies_true, forall_eq, forall_eq', Bool.false_eq_true, if_neg, decide_eq_true_eq, Bool.not_eq_true', decide_eq_false_iff_not, Bool.not_true, Bool.not_false, List.length_cons, List.length_nil, sizeLine_eq, Nat.reduceAdd, Nat.reduceLeDiff, Nat.reduceLT, Int.reduceLT, Int.reduceLE, Int.emod_nonneg, ne_eq, Int.reduceEq, not_false_eq_true, not_true_eq_false, seqO_tup hxs, sp_is_among, k1]
            cases ha : amongV a1 0 999999 with
            | false => exact q2 (es.trans ha)
            | true => exact q1 (es.trans ha)
        · simp only [RDa, RDb, RDv, RDk, RDx, RDe, RDd, RDp, RDq, List.getElem?_cons_zero, List.getElem?_cons_succ, List.set_cons_zero, List.set_cons_succ, List.cons.injEq, List.cons_ne_nil, reduceCtorEq, exists_eq_left', exists_eq_left, exists_and_left, and_assoc, exists_const, true_and, and_true, if_true, if_false, false_and, and_false, exists_false, false_or, or_false, true_implies, false_implies, implies_true, forall_eq, forall_eq', Bool.false_eq_true, if_neg, decide_eq_true_eq, Bool.not_eq_true', decide_eq_false_iff_not, Bool.not_true, Bool.not_false, List.length_cons, List.length_nil, sizeLine_eq, Nat.reduceAdd, Nat.reduceLeDiff, Nat.reduceLT, Int.reduceLT, Int.reduceLE, Int.emod_nonneg, ne_eq, Int.reduceEq, not_false_eq_true, not_true_eq_false, ht']
          exact no (nz fun _ e => nomatch e)
        · simp only [RDa, RDb, RDv, RDk, RDx, RDe, RDd, RDp, RDq, List.getElem?_cons_zero, List.getElem?_cons_succ, List.set_cons_zero, List.set_cons_succ, List.cons.injEq, List.cons_ne_nil, reduceCtorEq, exists_eq_left', exists_eq_left, exists_and_left, and_assoc, exists_const, true_and, and_true, if_true, if_false, false_and, and_false, exists_false, false_or, or_false, true_implies, false_implies, implies_true, forall_eq, forall_eq', Bool.false_eq_true, if_neg, decide_eq_true_eq, Bool.not_eq_true', decide_eq_false_iff_not, Bool.not_true, Bool.not_false, List.length_cons, List.length_nil, sizeLine_eq, Nat.reduceAdd, Nat.reduceLeDiff, Nat.reduceLT, Int.reduceLT, Int.reduceLE, Int.emod_nonneg, ne_eq, Int.reduceEq, not_false_eq_true, not_true_eq_false, ht']
          exact no (nz fun _ e => nomatch e)
        · simp only [RDa, RDb, RDv, RDk, RDx, RDe, RDd, RDp, RDq, List.getElem?_cons_zero, List.getElem?_cons_succ, List.set_cons_zero, List.set_cons_succ, List.cons.injEq, List.cons_ne_nil, reduceCtorEq, exists_eq_left', exists_eq_left, exists_and_left, and_assoc, exists_const, true_and, and_true, if_true, if_false, false_and, and_false, exists_false, false_or, or_false, true_implies, false_implies, implies_true, forall_eq, forall_eq', Bool.false_eq_true, if_neg, decide_eq_true_eq, Bool.not_eq_true', decide_eq_false_iff_not, Bool.not_true, Bool.not_false, List.length_cons, List.length_nil, sizeLine_eq, Nat.reduceAdd, Nat.reduceLeDiff, Nat.reduceLT, Int.reduceLT, Int.reduceLE, Int.emod_nonneg, ne_eq, Int.reduceEq, not_false_eq_true, not_true_eq_false, ht']
          exact no (nz fun _ e => nomatch e)
    · rw [if_neg (by omega)]
      refine no ?_
      unfold stepV
      dsimp only
      rw [hxs]
      split
      · rename_i z y e
        have e2 := Option.some.inj e
        injection e2 with e3
        rw [e3] at l2
        exact absurd rfl l2
      · rfl
  · simp only [RDa, RDb, RDv, RDk, RDx, RDe, RDd, RDp, RDq, List.getElem?_cons_zero, List.getElem?_cons_succ, List.set_cons_zero, List.set_cons_succ, List.cons.injEq, List.cons_ne_nil, reduceCtorEq, exists_eq_left', exists_eq_left, exists_and_left, and_assoc, exists_const, true_and, and_true, if_true, if_false, false_and, and_false, exists_false, false_or, or_false, true_implies, false_implies, implies_true, forall_eq, forall_eq', Bool.false_eq_true, if_neg, decide_eq_true_eq, Bool.not_eq_true', decide_eq_false_iff_not, Bool.not_true, Bool.not_false, List.length_cons, List.length_nil, sizeLine_eq, Nat.reduceAdd, Nat.reduceLeDiff, Nat.reduceLT, Int.reduceLT, Int.reduceLE, Int.emod_nonneg, ne_eq, Int.reduceEq, not_false_eq_true, not_true_eq_false, ht]
    exact no (nst fun a' xs e h2 => by cases e; rw [tyN_tup h2] at ht; exact absurd ht (by decide))
/-- a step's word -/
def isWord (w : Str) : Prop := w = "send" ∨ w = "hand" ∨ w = "tell"
theorem isWord_len {w : Str} (h : isWord w) : w.cps.toList.length = 4 ∧ 32 ∉ w.cps.toList := by
  rcases h with rfl | rfl | rfl <;> decide +kernel
theorem stepV_parts {H : Hp} {x : V} (h : stepV H x = true) : ∃ a z n, x = .ref a ∧ H a = some (.tup [.str z, .int n]) ∧ isWord z ∧ 0 ≤ n ∧ n ≤ 999999 := by
  unfold stepV at h
  split at h
  · rename_i a
    split at h
    · rename_i z y e
      simp only [Bool.and_eq_true, Bool.or_eq_true, decide_eq_true_eq] at h
      obtain ⟨n, rfl, h1, h2⟩ := amongV_int h.2
      refine ⟨a, z, n, rfl, e, ?_, h1, h2⟩
      rcases h.1 with (h | h) | h
      · exact .inl h
      · exact .inr (.inl h)
      · exact .inr (.inr h)
    · cases h
  · cases h
end RP

namespace RP
open PySem PySem.Spec PyProof.Rows L2
def cell (ns : List Int) (k : Int) : Int := ns.getD k.toNat 0
abbrev s__law_at : Stmt := top 23
abbrev N__law_at : List Str := ["_law_script", "_law_k"]
theorem sc__law_at : FnScope N__law_at ["_law_script", "_law_k"] (defScope s__law_at) := ⟨rfl, rfl, rfl, by decide +kernel, rfl, by decide +kernel, by decide +kernel⟩
def sp__law_at (K : PySem.W.Frag) (a : Addr) (ns : List Int) : Sp := fun vs H Q _ => ∃ k, vs = [.ref a, .int k] ∧ SqL K H a (ns.map V.int) ∧ 0 ≤ k ∧ Q (.int (cell ns k)) H
theorem ok__law_at {P : Program} {w : World} {K : PySem.W.Frag} {mg : Str → Option Value} {base : Heap} (F : FnP K ("_law_at", none) "_law_at" "_law_at" s__law_at) (hm : mg "_law_at" = some (.ref (He.ga K "_law_at"))) (bl : Blt mg) (a : Addr) (ns : List Int) : Cal P w K mg base 1 "_law_at" (sp__law_at K a ns) := by
  refine fn_cal F hm sc__law_at (fun vs H Q E => by walk_at "len") (fun _ _ _ _ _ _ us hl => match us, hl with | [_, _], _ => rfl) (fun f cdv A outer s H vs Q E hr h => ?_)
  have hu := hu_of hr
  obtain ⟨k, rfl, hS, hk, q⟩ := h
  refine ⟨_, (pss_cons (ps_if (pt_cmpR op_lt (pv 1) (pe_callB call_len_seq (by rfl) (bl.len) (by decide +kernel) (pa_cons (pv 0) pa_nil)) (nomark _))
  (pss_one (ps_ret (pe_ix ix_list (pv 0) (pv 1) (fun _ _ => rfl))))
  pss_nil)
  (pss_one (ps_ret pe_int))), ?_⟩
  walk_at "st0"
  simp only [RDa, RDb, RDv, RDk, RDx, RDe, RDd, RDp, RDq, List.getElem?_cons_zero, List.getElem?_cons_succ, List.set_cons_zero, List.set_cons_succ, List.cons.injEq, List.cons_ne_nil, reduceCtorEq, exists_eq_left', exists_eq_left, exists_and_left, and_assoc, exists_const, true_and, and_true, if_true, if_false, false_and, and_false, exists_false, false_or, or_false, true_implies, false_implies, implies_true, forall_eq, forall_eq', Bool.false_eq_true, if_neg, decide_eq_true_eq, Bool.not_eq_true', decide_eq_false_iff_not, Bool.not_true, Bool.not_false, List.length_cons, List.length_nil, sizeLine_eq, Nat.reduceAdd, Nat.reduceLeDiff, Nat.reduceLT, Int.reduceLT, Int.reduceLE, Int.emod_nonneg, ne_eq, Int.reduceEq, not_false_eq_true, not_true_eq_false, hS]
  refine ⟨_, .inl hS, ?_⟩
  rw [List.length_map]
  by_cases e : k < (ns.length : Int)
  · rw [if_pos e]
    refine ⟨_, _, k, V.int (cell ns k), rfl, rfl, hS, ?_, q⟩
    have e2 : k = ((k.toNat : Nat) : Int) := by omega
    have e3 : k.toNat < ns.length := by omega
    rw [e2]
    refine atI_nat ?_
    unfold cell
    rw [List.getElem?_map, List.getElem?_eq_getElem e3, List.getD_eq_getElem?_getD, Int.toNat_natCast, List.getElem?_eq_getElem e3]
    rfl
  · rw [if_neg e]
    have e3 : ns.length ≤ k.toNat := by omega
    have e4 : cell ns k = 0 := by
      unfold cell
      rw [List.getD_eq_getElem?_getD, List.getElem?_eq_none e3]
      rfl
    rw [e4] at q
    exact q
def mixed (c k : Int) : Int := (c * 48271 + 7919 * (k + 1) * (k + 3)) % 2147483647
abbrev s__law_mixed : Stmt := top 24
abbrev N__law_mixed : List Str := ["_law_cell", "_law_k"]
theorem sc__law_mixed : FnScope N__law_mixed ["_law_cell", "_law_k"] (defScope s__law_mixed) := ⟨rfl, rfl, rfl, by decide +kernel, rfl, by decide +kernel, by decide +kernel⟩
def sp__law_mixed (K : PySem.W.Frag) : Sp := fun vs H Q _ => ∃ c k : Int, vs = [.int c, .int k] ∧ 0 ≤ k ∧ k < 100 ∧ Q (.int (mixed c k)) H
theorem ok__law_mixed {P : Program} {w : World} {K : PySem.W.Frag} {mg : Str → Option Value} {base : Heap} (F : FnP K ("_law_mixed", none) "_law_mixed" "_law_mixed" s__law_mixed) (hm : mg "_law_mixed" = some (.ref (He.ga K "_law_mixed"))) (bl : Blt mg) : Cal P w K mg base 1 "_law_mixed" (sp__law_mixed K) := by
  refine fn_cal F hm sc__law_mixed (fun vs H Q E => by walk_at "len") (fun _ _ _ _ _ _ us hl => match us, hl with | [_, _], _ => rfl) (fun f cdv A outer s H vs Q E hr h => ?_)
  have hu := hu_of hr
  obtain ⟨c, k, rfl, h0, h1, q⟩ := h
  refine ⟨_, (pss_one (ps_ret (pe_op op_mod (pe_op op_add (pe_op op_mul (pv 0) pe_int) (pe_op op_mul (pe_op op_mul pe_int (pe_op op_add (pv 1) pe_int)) (pe_op op_add (pv 1) pe_int))) pe_int))), ?_⟩
  walk_at "st0"
  simp only [RDa, RDb, RDv, RDk, RDx, RDe, RDd, RDp, RDq, List.getElem?_cons_zero, List.getElem?_cons_succ, List.set_cons_zero, List.set_cons_succ, List.cons.injEq, List.cons_ne_nil, reduceCtorEq, exists_eq_left', exists_eq_left, exists_and_left, and_assoc, exists_const, true_and, and_true, if_true, if_false, false_and, and_false, exists_false, false_or, or_false, true_implies, false_implies, implies_true, forall_eq, forall_eq', Bool.false_eq_true, if_neg, decide_eq_true_eq, Bool.not_eq_true', decide_eq_false_iff_not, Bool.not_true, Bool.not_false, List.length_cons, List.length_nil, sizeLine_eq, Nat.reduceAdd, Nat.reduceLeDiff, Nat.reduceLT, Int.reduceLT, Int.reduceLE, Int.emod_nonneg, ne_eq, Int.reduceEq, not_false_eq_true, not_true_eq_false]
  refine ⟨.inr ⟨by decide, by decide⟩, .inl ⟨by decide, by decide⟩, .inr ⟨by omega, by omega⟩, q⟩
theorem mixed_pos (c k : Int) : 0 ≤ mixed c k := Int.emod_nonneg _ (by decide)
abbrev s__law_whole : Stmt := top 25
abbrev N__law_whole : List Str := ["_law_thing"]
theorem sc__law_whole : FnScope N__law_whole ["_law_thing"] (defScope s__law_whole) := ⟨rfl, rfl, rfl, by decide +kernel, rfl, by decide +kernel, by decide +kernel⟩
def wholeV (x : V) : Bool := match x with
  | .int _ => true
  | _ => false
def sp__law_whole (K : PySem.W.Frag) : Sp := fun vs H Q _ => ∃ x, vs = [x] ∧ Kn H x ∧ Q (.bl (wholeV x)) H
theorem ok__law_whole {P : Program} {w : World} {K : PySem.W.Frag} {mg : Str → Option Value} {base : Heap} (F : FnP K ("_law_whole", none) "_law_whole" "_law_whole" s__law_whole) (hm : mg "_law_whole" = some (.ref (He.ga K "_law_whole"))) (bl : Blt mg) : Cal P w K mg base 1 "_law_whole" (sp__law_whole K) := by
  refine fn_cal F hm sc__law_whole (fun vs H Q E => by walk_at "len") (fun _ _ _ _ _ _ us hl => match us, hl with | [_], _ => rfl) (fun f cdv A outer s H vs Q E hr h => ?_)
  have hu := hu_of hr
  obtain ⟨x, rfl, hk, q⟩ := h
  refine ⟨_, (pss_one (ps_ret (pe_and (pe_callB call_isC (by rfl) (bl.isi) (by decide +kernel) (pa_cons (pv 0) (pa_cons (pe_bltn (v := .ty "int") (u := .type "int") rfl (bl.int) (by decide +kernel) rfl) pa_nil))) (pe_one (pe_not (pe_callB call_isC (by rfl) (bl.isi) (by decide +kernel) (pa_cons (pv 0) (pa_cons (pe_bltn (v := .ty "bool") (u := .type "bool") rfl (bl.bool) (by decide +kernel) rfl) pa_nil)))))))), ?_⟩
  walk_at "st0"
  simp only [RDa, RDb, RDv, RDk, RDx, RDe, RDd, RDp, RDq, List.getElem?_cons_zero, List.getElem?_cons_succ, List.set_cons_zero, List.set_cons_succ, List.cons.injEq, List.cons_ne_nil, reduceCtorEq, exists_eq_left', exists_eq_left, exists_and_left, and_assoc, exists_const, true_and, and_true, if_true, if_false, false_and, and_false, exists_false, false_or, or_false, true_implies, false_implies, implies_true, forall_eq, forall_eq', Bool.false_eq_true, if_neg, decide_eq_true_eq, Bool.not_eq_true', decide_eq_false_iff_not, Bool.not_true, Bool.not_false, List.length_cons, List.length_nil, sizeLine_eq, Nat.reduceAdd, Nat.reduceLeDiff, Nat.reduceLT, Int.reduceLT, Int.reduceLE, Int.emod_nonneg, ne_eq, Int.reduceEq, not_false_eq_true, not_true_eq_false]
  rcases hk.cases with rfl | ⟨b, rfl⟩ | ⟨n, rfl⟩ | ⟨z, rfl⟩ | ⟨a, t, rfl, ht, rfl | rfl | rfl⟩
  · simp only [RDv, RDk, exists_eq_left', if_true, Bool.false_eq_true, if_false]; exact q
  · simp only [RDv, RDk, exists_eq_left', if_true, Bool.false_eq_true, if_false, Bool.not_true]; exact q
  · simp only [RDv, RDk, exists_eq_left', if_true, Bool.false_eq_true, if_false, Bool.not_false]; exact q
  · simp only [RDv, RDk, exists_eq_left', if_true, Bool.false_eq_true, if_false]; exact q
  · simp only [ht, RDv, RDk, exists_eq_left', if_true, Bool.false_eq_true, if_false]; exact q
  · simp only [ht, RDv, RDk, exists_eq_left', if_true, Bool.false_eq_true, if_false]; exact q
  · simp only [ht, RDv, RDk, exists_eq_left', if_true, Bool.false_eq_true, if_false]; exact q
end RP

namespace RP
open PySem PySem.Spec PyProof.Rows L2
theorem toList_ofString (s : String) : (Str.ofString s).cps.toList = s.toList.map Char.toNat := by
  unfold Str.ofString
  rw [← cpsOfBytes_string]
theorem strOk_lit (s : String) : PyData.strOk (Str.ofString s) = true := by
  refine strOk_iff.mpr fun c hc => ?_
  rw [toList_ofString] at hc
  obtain ⟨ch, _, rfl⟩ := List.mem_map.mp hc
  have v := ch.valid
  rcases v with v | ⟨_, v⟩
  · show ch.val.toNat < _
    have : ch.val.toNat < 55296 := v
    omega
  · exact v
theorem length_lit (s : String) : (Str.ofString s).length = s.toList.length := by
  show (Str.ofString s).cps.size = _
  rw [← Array.length_toList, toList_ofString, List.length_map]
theorem int_txt {i : Int} (h0 : 0 ≤ i) (h1 : i < 1000000) : TxtOk 6 (Str.ofString (toString i)) := by
  obtain ⟨n, rfl⟩ := Int.eq_ofNat_of_zero_le h0
  refine ⟨strOk_lit _, ?_⟩
  rw [length_lit]
  have e : (toString (n : Int)).toList = Nat.toDigits 10 n := by
    show (toString n).toList = _
    simp [Nat.repr, toString]
  rw [e]
  exact PyProof.Rows.digits10_le (by decide) (by omega)
theorem log_small {i : Int} (h0 : 0 ≤ i) (h1 : i < 1000000) : i.natAbs.log2 < 1920 := by
  by_cases e : i.natAbs = 0
  · rw [e]; decide
  · exact (Nat.log2_lt e).mpr (Nat.lt_of_lt_of_le (show i.natAbs < 2 ^ 20 by omega) (Nat.pow_le_pow_right (by decide) (by decide)))
theorem join_ok {n : Nat} (sep : Str) (hs : sep.length = 0) : ∀ (ys : List Str), (∀ y ∈ ys, TxtOk n y) → TxtOk (ys.length * n) (PySem.Str.join sep ys)
  | [], _ => by
    exact ⟨strOk_iff.mpr fun c hc => (by cases hc), Nat.zero_le _⟩
  | [x], h => by
    rw [List.length_singleton, Nat.one_mul]
    exact h x List.mem_cons_self
  | x :: y :: r, h => by
    have ih := join_ok sep hs (y :: r) fun z hz => h z (List.mem_cons_of_mem _ hz)
    have e : PySem.Str.join sep (x :: y :: r) = x ++ sep ++ PySem.Str.join sep (y :: r) := rfl
    have hsep : TxtOk 0 sep := ⟨strOk_iff.mpr fun c hc => by
      have : sep.cps.toList.length = 0 := by rw [Array.length_toList]; exact hs
      rw [List.length_eq_zero_iff.mp this] at hc
      exact absurd hc (by simp), by omega⟩
    rw [e]
    refine ((h x List.mem_cons_self).app hsep |>.app ih).mono ?_
    simp only [List.length_cons, Nat.succ_mul]
    omega
theorem cutS_ok {n : Nat} {z : Str} (h : TxtOk n z) (lo hi : Option Int) : TxtOk n (cutS z lo hi) := by
  refine ⟨strOk_iff.mpr fun c hc => ?_, ?_⟩
  · unfold cutS at hc
    exact strOk_iff.mp h.1 c (List.mem_of_mem_drop (List.mem_of_mem_take (by simpa using hc)))
  · refine Nat.le_trans ?_ h.2
    show (cutS z lo hi).cps.size ≤ z.cps.size
    unfold cutS
    rw [List.size_toArray, List.length_take, List.length_drop, Array.length_toList]
    omega
end RP

namespace RP
open PySem PySem.Spec PyProof.Rows L2
abbrev s_shown : Stmt := top 19
abbrev N_shown : List Str := ["step"]
theorem sc_shown : FnScope N_shown ["step"] (defScope s_shown) := ⟨rfl, rfl, rfl, by decide +kernel, rfl, by decide +kernel, by decide +kernel⟩
def lineOf (z : Str) (n : Int) : Str := z ++ " " ++ Str.ofString (toString n)
def sp_shown (K : PySem.W.Frag) : Sp := fun vs H Q E => ∃ x, vs = [x] ∧ KnI H x ∧ (∀ a z n, x = .ref a → H a = some (.tup [.str z, .int n]) → stepV H x = true → Q (.str (lineOf z n)) H) ∧ (stepV H x = false → E (.ref (He.ga K "BadStep")) none H)
theorem ok_shown {P : Program} {w : World} {K : PySem.W.Frag} {mg : Str → Option Value} {base : Heap} (F : FnP K ("shown", none) "shown" "shown" s_shown) (hm : mg "shown" = some (.ref (He.ga K "shown"))) (bl : Blt mg) (c_need_step : Cal P w K mg base 2 "need_step" (sp_need_step K)) : Cal P w K mg base 3 "shown" (sp_shown K) := by
  refine fn_cal F hm sc_shown (fun vs H Q E => by walk_at "len") (fun _ _ _ _ _ _ us hl => match us, hl with | [_], _ => rfl) (fun f cdv A outer s H vs Q E hr h => ?_)
  have hu := hu_of hr
  obtain ⟨x, rfl, hk, q1, q2⟩ := h
  refine ⟨_, (pss_cons (ps_expr (pe_fn c_need_step (hr.mono (by decide)) (L2N.takes_of rfl rfl rfl rfl) (pa_cons (pv 0) pa_nil)))
  (pss_one (ps_ret (pe_op op_add_str (pe_op op_add_str (pe_ix ix_C (pv 0) pe_int (fun _ _ => rfl)) pe_str) (pe_callTy call_str_int (by rfl) (bl.str) (by decide +kernel) (pa_cons (pe_ix ix_C (pv 0) pe_int (fun _ _ => rfl)) pa_nil)))))), ?_⟩
  walk_at "st0"
  simp only [RDa, RDb, RDv, RDk, RDx, RDe, RDd, RDp, RDq, List.getElem?_cons_zero, List.getElem?_cons_succ, List.set_cons_zero, List.set_cons_succ, List.cons.injEq, List.cons_ne_nil, reduceCtorEq, exists_eq_left', exists_eq_left, exists_and_left, and_assoc, exists_const, true_and, and_true, if_true, if_false, false_and, and_false, exists_false, false_or, or_false, true_implies, false_implies, implies_true, forall_eq, forall_eq', Bool.false_eq_true, if_neg, decide_eq_true_eq, Bool.not_eq_true', decide_eq_false_iff_not, Bool.not_true, Bool.not_false, List.length_cons, List.length_nil, sizeLine_eq, Nat.reduceAdd, Nat.reduceLeDiff, Nat.reduceLT, Int.reduceLT, Int.reduceLE, Int.emod_nonneg, ne_eq, Int.reduceEq, not_false_eq_true, not_true_eq_false, sp_need_step, hk]
  refine ⟨fun hs => ?_, q2⟩
  obtain ⟨a, z, n, rfl, ha, hz, h0, h1⟩ := stepV_parts hs
  simp only [RDa, RDb, RDv, RDk, RDx, RDe, RDd, RDp, RDq, List.getElem?_cons_zero, List.getElem?_cons_succ, List.set_cons_zero, List.set_cons_succ, List.cons.injEq, List.cons_ne_nil, reduceCtorEq, exists_eq_left', exists_eq_left, exists_and_left, and_assoc, exists_const, true_and, and_true, if_true, if_false, false_and, and_false, exists_false, false_or, or_false, true_implies, false_implies, implies_true, forall_eq, forall_eq', Bool.false_eq_true, if_neg, decide_eq_true_eq, Bool.not_eq_true', decide_eq_false_iff_not, Bool.not_true, Bool.not_false, List.length_cons, List.length_nil, sizeLine_eq, Nat.reduceAdd, Nat.reduceLeDiff, Nat.reduceLT, Int.reduceLT, Int.reduceLE, Int.emod_nonneg, ne_eq, Int.reduceEq, not_false_eq_true, not_true_eq_false, seqO_tup ha]
  have lz : z.length = 4 := by
    rcases hz with rfl | rfl | rfl <;> decide +kernel
  have lb : (" " : Str).length = 1 := by decide +kernel
  have ln := (int_txt h0 (by omega)).2
  refine ⟨by rw [lz, lb]; decide, log_small h0 (by omega), by rw [length_append, lz, lb]; omega, q1 a z n rfl ha hs⟩
end RP

namespace RP
open PySem PySem.Spec PyProof.Rows L2 L2H
/-- what isinstance says of an error of the class D -/
abbrev KitF (K : PySem.W.Frag) (D : Str) (l : List (Str × Bool)) : Prop := ∀ q ∈ l, PySem.W.kitOne K (.ref (He.ga K D)) (.ref (He.ga K q.1)) = some q.2
abbrev errNames : List Str := ["BadBounds", "BadRing", "BadTexts", "BadStep", "NotNow", "NoLetter", "Safe", "NoLine"]
theorem empty_app (z : Str) : Str.empty ++ z = z := by
  refine str_ext ?_
  show (#[] ++ z.cps).toList = _
  simp
theorem bl_rep {n i : Nat} {x : V} (h : (List.replicate n (V.bl false))[i]? = some x) : x = .bl false := by
  have := List.mem_of_getElem? h
  exact List.eq_of_mem_replicate this
abbrev s__law_word : Stmt := top 28
abbrev N__law_word : List Str := ["_law_error", "_law_word_here", "_law_is_other"]
theorem sc__law_word : FnScope N__law_word ["_law_error"] (defScope s__law_word) := ⟨rfl, rfl, rfl, by decide +kernel, rfl, by decide +kernel, by decide +kernel⟩
/-- the word of an error -/
def wordOf (D w : Str) : Prop := (D = "NoLine" ∧ w = "line") ∨ (D = "BadStep" ∧ w = "step")
def sp__law_word (K : PySem.W.Frag) (a : Addr) (c : Value) (d : Option Addr) : Sp := fun vs H Q _ => ∃ D w, vs = [.ref a] ∧ c = .ref (He.ga K D) ∧ wordOf D w ∧ d = none ∧ ∀ H', Same H H' → Q (.str w) H'
theorem ok__law_word {P : Program} {w : World} {K : PySem.W.Frag} {mg : Str → Option Value} {base : Heap} (F : FnP K ("_law_word", none) "_law_word" "_law_word" s__law_word) (hm : mg "_law_word" = some (.ref (He.ga K "_law_word"))) (bl : Blt mg) (e_BadBounds : ErrC K mg "BadBounds") (e_BadRing : ErrC K mg "BadRing") (e_BadStep : ErrC K mg "BadStep") (e_BadTexts : ErrC K mg "BadTexts") (e_NoLetter : ErrC K mg "NoLetter") (e_NoLine : ErrC K mg "NoLine") (e_NotNow : ErrC K mg "NotNow") (e_Safe : ErrC K mg "Safe") (hENoLine : ExcC K (He.ga K "NoLine")) (hkfNoLine : KitF K "NoLine" (errNames.map fun x => (x, decide (x = "NoLine")))) (hkvNoLine : PySem.W.kitOne K (.ref (He.ga K "NoLine")) (.type "ValueError") = some true) (hEBadStep : ExcC K (He.ga K "BadStep")) (hkfBadStep : KitF K "BadStep" (errNames.map fun x => (x, decide (x = "BadStep")))) (hkvBadStep : PySem.W.kitOne K (.ref (He.ga K "BadStep")) (.type "ValueError") = some true) : CalE P w K mg base 1 "_law_word" (sp__law_word K) := by
  refine fn_calE F hm sc__law_word (fun _ _ _ vs H Q E => by walk_at "len") (fun _ _ _ _ _ _ us hl => match us, hl with | [_], _ => rfl) (fun f cdv A outer s H vs Q E p c d hot hz hr h => ?_)
  obtain ⟨D, w', rfl, rfl, hw, rfl, q⟩ := h
  have hfl : ∃ vs, p.2.data = .fields vs := hot.2.elim fun vs e => ⟨vs, e.1⟩
  rcases hw with ⟨rfl, rfl⟩ | ⟨rfl, rfl⟩
  · have hE := hENoLine
    have hkv := hkvNoLine
    have k1 := hkfNoLine ("BadBounds", false) (by decide)
    have k2 := hkfNoLine ("BadRing", false) (by decide)
    have k3 := hkfNoLine ("BadTexts", false) (by decide)
    have k4 := hkfNoLine ("BadStep", false) (by decide)
    have k5 := hkfNoLine ("NotNow", false) (by decide)
    have k6 := hkfNoLine ("NoLetter", false) (by decide)
    have k7 := hkfNoLine ("Safe", false) (by decide)
    have k8 := hkfNoLine ("NoLine", true) (by decide)
    refine ⟨_, (pss_cons (ps_set (i := 1) sc__law_word.nd rfl (Or.inl rfl) (pe_op op_add_str (pe_op op_mul_str pe_str (pe_callTy call_int1 (by rfl) (bl.int) (by decide +kernel) (pa_cons (pe_callB (isE hE (a := p.1) (oe := p.2) List.mem_cons_self hz rfl rfl hfl) (by rfl) (bl.isi) (by decide +kernel) (pa_cons (pv 0) (pa_cons (pe_glob (v := .ref (He.ga K "NoLine")) rfl e_NoLine.g rfl) pa_nil))) pa_nil))) (pe_op op_mul_str pe_str (pe_callTy call_int1 (by rfl) (bl.int) (by decide +kernel) (pa_cons (pe_callB (isE hE (a := p.1) (oe := p.2) List.mem_cons_self hz rfl rfl hfl) (by rfl) (bl.isi) (by decide +kernel) (pa_cons (pv 0) (pa_cons (pe_glob (v := .ref (He.ga K "BadStep")) rfl e_BadStep.g rfl) pa_nil))) pa_nil)))))
  (pss_cons (L2H.ps_forH (passes_of rfl) ⟨p, hot, List.mem_cons_self⟩ (pi_listH (pe_lst (pa_cons (pe_callB (isE hE (a := p.1) (oe := p.2) List.mem_cons_self hz rfl rfl hfl) (by rfl) (bl.isi) (by decide +kernel) (pa_cons (pv 0) (pa_cons (pe_glob (v := .ref (He.ga K "BadBounds")) rfl e_BadBounds.g rfl) pa_nil))) (pa_cons (pe_callB (isE hE (a := p.1) (oe := p.2) List.mem_cons_self hz rfl rfl hfl) (by rfl) (bl.isi) (by decide +kernel) (pa_cons (pv 0) (pa_cons (pe_glob (v := .ref (He.ga K "BadRing")) rfl e_BadRing.g rfl) pa_nil))) (pa_cons (pe_callB (isE hE (a := p.1) (oe := p.2) List.mem_cons_self hz rfl rfl hfl) (by rfl) (bl.isi) (by decide +kernel) (pa_cons (pv 0) (pa_cons (pe_glob (v := .ref (He.ga K "BadTexts")) rfl e_BadTexts.g rfl) pa_nil))) pa_nil))))) (pg_name (i := 2) sc__law_word.nd rfl (Or.inl rfl))
  (pss_one (ps_set (i := 1) sc__law_word.nd rfl (Or.inl rfl) (pe_op op_add_str (pv 1) (pe_op op_mul_str pe_str (pe_callTy call_int1 (by rfl) (bl.int) (by decide +kernel) (pa_cons (pv 2) pa_nil)))))))
  (pss_cons (L2H.ps_forH (passes_of rfl) ⟨p, hot, List.mem_cons_self⟩ (pi_listH (pe_lst (pa_cons (pe_callB (isE hE (a := p.1) (oe := p.2) List.mem_cons_self hz rfl rfl hfl) (by rfl) (bl.isi) (by decide +kernel) (pa_cons (pv 0) (pa_cons (pe_glob (v := .ref (He.ga K "NotNow")) rfl e_NotNow.g rfl) pa_nil))) (pa_cons (pe_callB (isE hE (a := p.1) (oe := p.2) List.mem_cons_self hz rfl rfl hfl) (by rfl) (bl.isi) (by decide +kernel) (pa_cons (pv 0) (pa_cons (pe_glob (v := .ref (He.ga K "NoLetter")) rfl e_NoLetter.g rfl) pa_nil))) (pa_cons (pe_callB (isE hE (a := p.1) (oe := p.2) List.mem_cons_self hz rfl rfl hfl) (by rfl) (bl.isi) (by decide +kernel) (pa_cons (pv 0) (pa_cons (pe_glob (v := .ref (He.ga K "Safe")) rfl e_Safe.g rfl) pa_nil))) pa_nil))))) (pg_name (i := 2) sc__law_word.nd rfl (Or.inl rfl))
  (pss_one (ps_set (i := 1) sc__law_word.nd rfl (Or.inl rfl) (pe_op op_add_str (pv 1) (pe_op op_mul_str pe_str (pe_callTy call_int1 (by rfl) (bl.int) (by decide +kernel) (pa_cons (pv 2) pa_nil)))))))
  (pss_one (ps_ret (pe_op op_mul_str (pv 1) (pe_callTy call_int1 (by rfl) (bl.int) (by decide +kernel) (pa_cons (pe_callB (isE hE (a := p.1) (oe := p.2) List.mem_cons_self hz rfl rfl hfl) (by rfl) (bl.isi) (by decide +kernel) (pa_cons (pv 0) (pa_cons (pe_bltn (v := .ty "ValueError") (u := .type "ValueError") rfl (bl.ValueError) (by decide +kernel) rfl) pa_nil))) pa_nil)))))))), ?_⟩
    walk_at "st0"
    simp only [RDa, RDb, RDv, RDk, RDx, RDe, RDd, RDp, RDq, List.getElem?_cons_zero, List.getElem?_cons_succ, List.set_cons_zero, List.set_cons_succ, List.cons.injEq, List.cons_ne_nil, reduceCtorEq, exists_eq_left', exists_eq_left, exists_and_left, and_assoc, exists_const, true_and, and_true, if_true, if_false, false_and, and_false, exists_false, false_or, or_false, true_implies, false_implies, implies_true, forall_eq, forall_eq', Bool.false_eq_true, if_neg, decide_eq_true_eq, Bool.not_eq_true', decide_eq_false_iff_not, Bool.not_true, Bool.not_false, List.length_cons, List.length_nil, sizeLine_eq, Nat.reduceAdd, Nat.reduceLeDiff, Nat.reduceLT, Int.reduceLT, Int.reduceLE, Int.emod_nonneg, ne_eq, Int.reduceEq, not_false_eq_true, not_true_eq_false, k1, k2, k3, k4, k5, k6, k7, k8, hkv, mul_one, mul_zero, mulOk_one, mulOk_zero, app_empty, empty_app]
    have hl : ("line" : Str).length + Str.empty.length ≤ 16777216 := by decide +kernel
    refine ⟨by decide +kernel, ?_⟩
    refine for_lcut (fun a H2 => Same H H2 ∧ H2 a = some (.lst [.bl false, .bl false, .bl false])) [.bl false, .bl false, .bl false] (fun Z hZ => ?_)
      (fun a i σ H' => (∃ v, σ = [some (.ref p.1), some (.str "line"), v]) ∧ Same H H' ∧ H' a = some (.lst [.bl false, .bl false, .bl false])) ?_ ?_ ?_ ?_
    · simp only [RDa, RDb, RDv, RDk, RDx, RDe, RDd, RDp, RDq, List.getElem?_cons_zero, List.getElem?_cons_succ, List.set_cons_zero, List.set_cons_succ, List.cons.injEq, List.cons_ne_nil, reduceCtorEq, exists_eq_left', exists_eq_left, exists_and_left, and_assoc, exists_const, true_and, and_true, if_true, if_false, false_and, and_false, exists_false, false_or, or_false, true_implies, false_implies, implies_true, forall_eq, forall_eq', Bool.false_eq_true, if_neg, decide_eq_true_eq, Bool.not_eq_true', decide_eq_false_iff_not, Bool.not_true, Bool.not_false, List.length_cons, List.length_nil, sizeLine_eq, Nat.reduceAdd, Nat.reduceLeDiff, Nat.reduceLT, Int.reduceLT, Int.reduceLE, Int.emod_nonneg, ne_eq, Int.reduceEq, not_false_eq_true, not_true_eq_false, k1, k2, k3, k4, k5, k6, k7, k8, hkv, mul_one, mul_zero, mulOk_one, mulOk_zero, app_empty, empty_app]
      exact fun a ha => hZ a _ ⟨same_new ha, upd_same⟩
    · rintro a H1 ⟨h1, h2⟩
      exact ⟨SqL.of h2, ⟨none, rfl⟩, h1, h2⟩
    · rintro a i σ H1 _ ⟨_, _, h2⟩
      exact SqL.of h2
    · rintro a i x σ H1 hx ⟨⟨v, rfl⟩, h1, h2⟩
      rw [bl_rep (n := 3) hx]
      simp only [RDa, RDb, RDv, RDk, RDx, RDe, RDd, RDp, RDq, List.getElem?_cons_zero, List.getElem?_cons_succ, List.set_cons_zero, List.set_cons_succ, List.cons.injEq, List.cons_ne_nil, reduceCtorEq, exists_eq_left', exists_eq_left, exists_and_left, and_assoc, exists_const, true_and, and_true, if_true, if_false, false_and, and_false, exists_false, false_or, or_false, true_implies, false_implies, implies_true, forall_eq, forall_eq', Bool.false_eq_true, if_neg, decide_eq_true_eq, Bool.not_eq_true', decide_eq_false_iff_not, Bool.not_true, Bool.not_false, List.length_cons, List.length_nil, sizeLine_eq, Nat.reduceAdd, Nat.reduceLeDiff, Nat.reduceLT, Int.reduceLT, Int.reduceLE, Int.emod_nonneg, ne_eq, Int.reduceEq, not_false_eq_true, not_true_eq_false, k1, k2, k3, k4, k5, k6, k7, k8, hkv, mul_one, mul_zero, mulOk_one, mulOk_zero, app_empty, empty_app]
      exact ⟨hl, ⟨_, rfl⟩, h1, h2⟩
    rintro a1 σ H1 ⟨⟨v, rfl⟩, h1, h2⟩
    dsimp only
    simp only [RDa]
    refine for_lcut (fun a H2 => Same H H2 ∧ H2 a = some (.lst [.bl false, .bl false, .bl false])) [.bl false, .bl false, .bl false] (fun Z hZ => ?_)
      (fun a i σ H' => (∃ v, σ = [some (.ref p.1), some (.str "line"), v]) ∧ Same H H' ∧ H' a = some (.lst [.bl false, .bl false, .bl false])) ?_ ?_ ?_ ?_
    · simp only [RDa, RDb, RDv, RDk, RDx, RDe, RDd, RDp, RDq, List.getElem?_cons_zero, List.getElem?_cons_succ, List.set_cons_zero, List.set_cons_succ, List.cons.injEq, List.cons_ne_nil, reduceCtorEq, exists_eq_left', exists_eq_left, exists_and_left, and_assoc, exists_const, true_and, and_true, if_true, if_false, false_and, and_false, exists_false, false_or, or_false, true_implies, false_implies, implies_true, forall_eq, forall_eq', Bool.false_eq_true, if_neg, decide_eq_true_eq, Bool.not_eq_true', decide_eq_false_iff_not, Bool.not_true, Bool.not_false, List.length_cons, List.length_nil, sizeLine_eq, Nat.reduceAdd, Nat.reduceLeDiff, Nat.reduceLT, Int.reduceLT, Int.reduceLE, Int.emod_nonneg, ne_eq, Int.reduceEq, not_false_eq_true, not_true_eq_false, k1, k2, k3, k4, k5, k6, k7, k8, hkv, mul_one, mul_zero, mulOk_one, mulOk_zero, app_empty, empty_app]
      exact fun a ha => hZ a _ ⟨h1.trans (same_new ha), upd_same⟩
    · rintro a H2 ⟨h3, h4⟩
      exact ⟨SqL.of h4, ⟨v, rfl⟩, h3, h4⟩
    · rintro a i σ H2 _ ⟨_, _, h4⟩
      exact SqL.of h4
    · rintro a i x σ H2 hx ⟨⟨v, rfl⟩, h3, h4⟩
      rw [bl_rep (n := 3) hx]
      simp only [RDa, RDb, RDv, RDk, RDx, RDe, RDd, RDp, RDq, List.getElem?_cons_zero, List.getElem?_cons_succ, List.set_cons_zero, List.set_cons_succ, List.cons.injEq, List.cons_ne_nil, reduceCtorEq, exists_eq_left', exists_eq_left, exists_and_left, and_assoc, exists_const, true_and, and_true, if_true, if_false, false_and, and_false, exists_false, false_or, or_false, true_implies, false_implies, implies_true, forall_eq, forall_eq', Bool.false_eq_true, if_neg, decide_eq_true_eq, Bool.not_eq_true', decide_eq_false_iff_not, Bool.not_true, Bool.not_false, List.length_cons, List.length_nil, sizeLine_eq, Nat.reduceAdd, Nat.reduceLeDiff, Nat.reduceLT, Int.reduceLT, Int.reduceLE, Int.emod_nonneg, ne_eq, Int.reduceEq, not_false_eq_true, not_true_eq_false, k1, k2, k3, k4, k5, k6, k7, k8, hkv, mul_one, mul_zero, mulOk_one, mulOk_zero, app_empty, empty_app]
      exact ⟨hl, ⟨_, rfl⟩, h3, h4⟩
    rintro a2 σ H2 ⟨⟨v, rfl⟩, h3, h4⟩
    simp only [RDa, RDb, RDv, RDk, RDx, RDe, RDd, RDp, RDq, List.getElem?_cons_zero, List.getElem?_cons_succ, List.set_cons_zero, List.set_cons_succ, List.cons.injEq, List.cons_ne_nil, reduceCtorEq, exists_eq_left', exists_eq_left, exists_and_left, and_assoc, exists_const, true_and, and_true, if_true, if_false, false_and, and_false, exists_false, false_or, or_false, true_implies, false_implies, implies_true, forall_eq, forall_eq', Bool.false_eq_true, if_neg, decide_eq_true_eq, Bool.not_eq_true', decide_eq_false_iff_not, Bool.not_true, Bool.not_false, List.length_cons, List.length_nil, sizeLine_eq, Nat.reduceAdd, Nat.reduceLeDiff, Nat.reduceLT, Int.reduceLT, Int.reduceLE, Int.emod_nonneg, ne_eq, Int.reduceEq, not_false_eq_true, not_true_eq_false, k1, k2, k3, k4, k5, k6, k7, k8, hkv, mul_one, mul_zero, mulOk_one, mulOk_zero, app_empty, empty_app]
    exact q H2 h3
  · have hE := hEBadStep
    have hkv := hkvBadStep
    have k1 := hkfBadStep ("BadBounds", false) (by decide)
    have k2 := hkfBadStep ("BadRing", false) (by decide)
    have k3 := hkfBadStep ("BadTexts", false) (by decide)
    have k4 := hkfBadStep ("BadStep", true) (by decide)
    have k5 := hkfBadStep ("NotNow", false) (by decide)
    have k6 := hkfBadStep ("NoLetter", false) (by decide)
    have k7 := hkfBadStep ("Safe", false) (by decide)
    have k8 := hkfBadStep ("NoLine", false) (by decide)
    refine ⟨_, (pss_cons (ps_set (i := 1) sc__law_word.nd rfl (Or.inl rfl) (pe_op op_add_str (pe_op op_mul_str pe_str (pe_callTy call_int1 (by rfl) (bl.int) (by decide +kernel) (pa_cons (pe_callB (isE hE (a := p.1) (oe := p.2) List.mem_cons_self hz rfl rfl hfl) (by rfl) (bl.isi) (by decide +kernel) (pa_cons (pv 0) (pa_cons (pe_glob (v := .ref (He.ga K "NoLine")) rfl e_NoLine.g rfl) pa_nil))) pa_nil))) (pe_op op_mul_str pe_str (pe_callTy call_int1 (by rfl) (bl.int) (by decide +kernel) (pa_cons (pe_callB (isE hE (a := p.1) (oe := p.2) List.mem_cons_self hz rfl rfl hfl) (by rfl) (bl.isi) (by decide +kernel) (pa_cons (pv 0) (pa_cons (pe_glob (v := .ref (He.ga K "BadStep")) rfl e_BadStep.g rfl) pa_nil))) pa_nil)))))
  (pss_cons (L2H.ps_forH (passes_of rfl) ⟨p, hot, List.mem_cons_self⟩ (pi_listH (pe_lst (pa_cons (pe_callB (isE hE (a := p.1) (oe := p.2) List.mem_cons_self hz rfl rfl hfl) (by rfl) (bl.isi) (by decide +kernel) (pa_cons (pv 0) (pa_cons (pe_glob (v := .ref (He.ga K "BadBounds")) rfl e_BadBounds.g rfl) pa_nil))) (pa_cons (pe_callB (isE hE (a := p.1) (oe := p.2) List.mem_cons_self hz rfl rfl hfl) (by rfl) (bl.isi) (by decide +kernel) (pa_cons (pv 0) (pa_cons (pe_glob (v := .ref (He.ga K "BadRing")) rfl e_BadRing.g rfl) pa_nil))) (pa_cons (pe_callB (isE hE (a := p.1) (oe := p.2) List.mem_cons_self hz rfl rfl hfl) (by rfl) (bl.isi) (by decide +kernel) (pa_cons (pv 0) (pa_cons (pe_glob (v := .ref (He.ga K "BadTexts")) rfl e_BadTexts.g rfl) pa_nil))) pa_nil))))) (pg_name (i := 2) sc__law_word.nd rfl (Or.inl rfl))
  (pss_one (ps_set (i := 1) sc__law_word.nd rfl (Or.inl rfl) (pe_op op_add_str (pv 1) (pe_op op_mul_str pe_str (pe_callTy call_int1 (by rfl) (bl.int) (by decide +kernel) (pa_cons (pv 2) pa_nil)))))))
  (pss_cons (L2H.ps_forH (passes_of rfl) ⟨p, hot, List.mem_cons_self⟩ (pi_listH (pe_lst (pa_cons (pe_callB (isE hE (a := p.1) (oe := p.2) List.mem_cons_self hz rfl rfl hfl) (by rfl) (bl.isi) (by decide +kernel) (pa_cons (pv 0) (pa_cons (pe_glob (v := .ref (He.ga K "NotNow")) rfl e_NotNow.g rfl) pa_nil))) (pa_cons (pe_callB (isE hE (a := p.1) (oe := p.2) List.mem_cons_self hz rfl rfl hfl) (by rfl) (bl.isi) (by decide +kernel) (pa_cons (pv 0) (pa_cons (pe_glob (v := .ref (He.ga K "NoLetter")) rfl e_NoLetter.g rfl) pa_nil))) (pa_cons (pe_callB (isE hE (a := p.1) (oe := p.2) List.mem_cons_self hz rfl rfl hfl) (by rfl) (bl.isi) (by decide +kernel) (pa_cons (pv 0) (pa_cons (pe_glob (v := .ref (He.ga K "Safe")) rfl e_Safe.g rfl) pa_nil))) pa_nil))))) (pg_name (i := 2) sc__law_word.nd rfl (Or.inl rfl))
  (pss_one (ps_set (i := 1) sc__law_word.nd rfl (Or.inl rfl) (pe_op op_add_str (pv 1) (pe_op op_mul_str pe_str (pe_callTy call_int1 (by rfl) (bl.int) (by decide +kernel) (pa_cons (pv 2) pa_nil)))))))
  (pss_one (ps_ret (pe_op op_mul_str (pv 1) (pe_callTy call_int1 (by rfl) (bl.int) (by decide +kernel) (pa_cons (pe_callB (isE hE (a := p.1) (oe := p.2) List.mem_cons_self hz rfl rfl hfl) (by rfl) (bl.isi) (by decide +kernel) (pa_cons (pv 0) (pa_cons (pe_bltn (v := .ty "ValueError") (u := .type "ValueError") rfl (bl.ValueError) (by decide +kernel) rfl) pa_nil))) pa_nil)))))))), ?_⟩
    walk_at "st0"
    simp only [RDa, RDb, RDv, RDk, RDx, RDe, RDd, RDp, RDq, List.getElem?_cons_zero, List.getElem?_cons_succ, List.set_cons_zero, List.set_cons_succ, List.cons.injEq, List.cons_ne_nil, reduceCtorEq, exists_eq_left', exists_eq_left, exists_and_left, and_assoc, exists_const, true_and, and_true, if_true, if_false, false_and, and_false, exists_false, false_or, or_false, true_implies, false_implies, implies_true, forall_eq, forall_eq', Bool.false_eq_true, if_neg, decide_eq_true_eq, Bool.not_eq_true', decide_eq_false_iff_not, Bool.not_true, Bool.not_false, List.length_cons, List.length_nil, sizeLine_eq, Nat.reduceAdd, Nat.reduceLeDiff, Nat.reduceLT, Int.reduceLT, Int.reduceLE, Int.emod_nonneg, ne_eq, Int.reduceEq, not_false_eq_true, not_true_eq_false, k1, k2, k3, k4, k5, k6, k7, k8, hkv, mul_one, mul_zero, mulOk_one, mulOk_zero, app_empty, empty_app]
    have hl : ("step" : Str).length + Str.empty.length ≤ 16777216 := by decide +kernel
    refine ⟨by decide +kernel, ?_⟩
    refine for_lcut (fun a H2 => Same H H2 ∧ H2 a = some (.lst [.bl false, .bl false, .bl false])) [.bl false, .bl false, .bl false] (fun Z hZ => ?_)
      (fun a i σ H' => (∃ v, σ = [some (.ref p.1), some (.str "step"), v]) ∧ Same H H' ∧ H' a = some (.lst [.bl false, .bl false, .bl false])) ?_ ?_ ?_ ?_
    · simp only [RDa, RDb, RDv, RDk, RDx, RDe, RDd, RDp, RDq, List.getElem?_cons_zero, List.getElem?_cons_succ, List.set_cons_zero, List.set_cons_succ, List.cons.injEq, List.cons_ne_nil, reduceCtorEq, exists_eq_left', exists_eq_left, exists_and_left, and_assoc, exists_const, true_and, and_true, if_true, if_false, false_and, and_false, exists_false, false_or, or_false, true_implies, false_implies, implies_true, forall_eq, forall_eq', Bool.false_eq_true, if_neg, decide_eq_true_eq, Bool.not_eq_true', decide_eq_false_iff_not, Bool.not_true, Bool.not_false, List.length_cons, List.length_nil, sizeLine_eq, Nat.reduceAdd, Nat.reduceLeDiff, Nat.reduceLT, Int.reduceLT, Int.reduceLE, Int.emod_nonneg, ne_eq, Int.reduceEq, not_false_eq_true, not_true_eq_false, k1, k2, k3, k4, k5, k6, k7, k8, hkv, mul_one, mul_zero, mulOk_one, mulOk_zero, app_empty, empty_app]
      exact fun a ha => hZ a _ ⟨same_new ha, upd_same⟩
    · rintro a H1 ⟨h1, h2⟩
      exact ⟨SqL.of h2, ⟨none, rfl⟩, h1, h2⟩
    · rintro a i σ H1 _ ⟨_, _, h2⟩
      exact SqL.of h2
    · rintro a i x σ H1 hx ⟨⟨v, rfl⟩, h1, h2⟩
      rw [bl_rep (n := 3) hx]
      simp only [RDa, RDb, RDv, RDk, RDx, RDe, RDd, RDp, RDq, List.getElem?_cons_zero, List.getElem?_cons_succ, List.set_cons_zero, List.set_cons_succ, List.cons.injEq, List.cons_ne_nil, reduceCtorEq, exists_eq_left', exists_eq_left, exists_and_left, and_assoc, exists_const, true_and, and_true, if_true, if_false, false_and, and_false, exists_false, false_or, or_false, true_implies, false_implies, implies_true, forall_eq, forall_eq', Bool.false_eq_true, if_neg, decide_eq_true_eq, Bool.not_eq_true', decide_eq_false_iff_not, Bool.not_true, Bool.not_false, List.length_cons, List.length_nil, sizeLine_eq, Nat.reduceAdd, Nat.reduceLeDiff, Nat.reduceLT, Int.reduceLT, Int.reduceLE, Int.emod_nonneg, ne_eq, Int.reduceEq, not_false_eq_true, not_true_eq_false, k1, k2, k3, k4, k5, k6, k7, k8, hkv, mul_one, mul_zero, mulOk_one, mulOk_zero, app_empty, empty_app]
      exact ⟨hl, ⟨_, rfl⟩, h1, h2⟩
    rintro a1 σ H1 ⟨⟨v, rfl⟩, h1, h2⟩
    dsimp only
    simp only [RDa]
    refine for_lcut (fun a H2 => Same H H2 ∧ H2 a = some (.lst [.bl false, .bl false, .bl false])) [.bl false, .bl false, .bl false] (fun Z hZ => ?_)
      (fun a i σ H' => (∃ v, σ = [some (.ref p.1), some (.str "step"), v]) ∧ Same H H' ∧ H' a = some (.lst [.bl false, .bl false, .bl false])) ?_ ?_ ?_ ?_
    · simp only [RDa, RDb, RDv, RDk, RDx, RDe, RDd, RDp, RDq, List.getElem?_cons_zero, List.getElem?_cons_succ, List.set_cons_zero, List.set_cons_succ, List.cons.injEq, List.cons_ne_nil, reduceCtorEq, exists_eq_left', exists_eq_left, exists_and_left, and_assoc, exists_const, true_and, and_true, if_true, if_false, false_and, and_false, exists_false, false_or, or_false, true_implies, false_implies, implies_true, forall_eq, forall_eq', Bool.false_eq_true, if_neg, decide_eq_true_eq, Bool.not_eq_true', decide_eq_false_iff_not, Bool.not_true, Bool.not_false, List.length_cons, List.length_nil, sizeLine_eq, Nat.reduceAdd, Nat.reduceLeDiff, Nat.reduceLT, Int.reduceLT, Int.reduceLE, Int.emod_nonneg, ne_eq, Int.reduceEq, not_false_eq_true, not_true_eq_false, k1, k2, k3, k4, k5, k6, k7, k8, hkv, mul_one, mul_zero, mulOk_one, mulOk_zero, app_empty, empty_app]
      exact fun a ha => hZ a _ ⟨h1.trans (same_new ha), upd_same⟩
    · rintro a H2 ⟨h3, h4⟩
      exact ⟨SqL.of h4, ⟨v, rfl⟩, h3, h4⟩
    · rintro a i σ H2 _ ⟨_, _, h4⟩
      exact SqL.of h4
    · rintro a i x σ H2 hx ⟨⟨v, rfl⟩, h3, h4⟩
      rw [bl_rep (n := 3) hx]
      simp only [RDa, RDb, RDv, RDk, RDx, RDe, RDd, RDp, RDq, List.getElem?_cons_zero, List.getElem?_cons_succ, List.set_cons_zero, List.set_cons_succ, List.cons.injEq, List.cons_ne_nil, reduceCtorEq, exists_eq_left', exists_eq_left, exists_and_left, and_assoc, exists_const, true_and, and_true, if_true, if_false, false_and, and_false, exists_false, false_or, or_false, true_implies, false_implies, implies_true, forall_eq, forall_eq', Bool.false_eq_true, if_neg, decide_eq_true_eq, Bool.not_eq_true', decide_eq_false_iff_not, Bool.not_true, Bool.not_false, List.length_cons, List.length_nil, sizeLine_eq, Nat.reduceAdd, Nat.reduceLeDiff, Nat.reduceLT, Int.reduceLT, Int.reduceLE, Int.emod_nonneg, ne_eq, Int.reduceEq, not_false_eq_true, not_true_eq_false, k1, k2, k3, k4, k5, k6, k7, k8, hkv, mul_one, mul_zero, mulOk_one, mulOk_zero, app_empty, empty_app]
      exact ⟨hl, ⟨_, rfl⟩, h3, h4⟩
    rintro a2 σ H2 ⟨⟨v, rfl⟩, h3, h4⟩
    simp only [RDa, RDb, RDv, RDk, RDx, RDe, RDd, RDp, RDq, List.getElem?_cons_zero, List.getElem?_cons_succ, List.set_cons_zero, List.set_cons_succ, List.cons.injEq, List.cons_ne_nil, reduceCtorEq, exists_eq_left', exists_eq_left, exists_and_left, and_assoc, exists_const, true_and, and_true, if_true, if_false, false_and, and_false, exists_false, false_or, or_false, true_implies, false_implies, implies_true, forall_eq, forall_eq', Bool.false_eq_true, if_neg, decide_eq_true_eq, Bool.not_eq_true', decide_eq_false_iff_not, Bool.not_true, Bool.not_false, List.length_cons, List.length_nil, sizeLine_eq, Nat.reduceAdd, Nat.reduceLeDiff, Nat.reduceLT, Int.reduceLT, Int.reduceLE, Int.emod_nonneg, ne_eq, Int.reduceEq, not_false_eq_true, not_true_eq_false, k1, k2, k3, k4, k5, k6, k7, k8, hkv, mul_one, mul_zero, mulOk_one, mulOk_zero, app_empty, empty_app]
    exact q H2 h3
end RP

namespace RP
open PySem PySem.Spec PyProof.Rows L2 L2H
/-- for c in a text -/
theorem for_scut {te : TE} {g : TG} {tb : TS} {D : Ends} {σ : L2.St} {H : Hp} (x : Str) (G : Hp → Prop) (h1 : ∀ Z : VK, (∀ H1, G H1 → Z (.str x) H1) → te σ H Z) (Pv : Nat → L2.St → Hp → Prop) (h0 : ∀ H1, G H1 → Pv 0 σ H1)
    (hs : ∀ i c σ H, x.cps.toList[i]? = some c → Pv i σ H → g (.str ⟨#[c]⟩) σ H fun σ2 H2 => tb { D with nx := Pv (i + 1), ct := Pv (i + 1), bk := D.nx } σ2 H2) (hd : ∀ σ H, Pv x.length σ H → D.nx σ H) : tFor (iStr te) g tb D σ H := by
  refine h1 _ fun H1 q => ⟨x, rfl, fun i m σ H => m = x.length - i ∧ i ≤ x.length ∧ Pv i σ H, ⟨x.length, by simp, Nat.zero_le _, h0 H1 q⟩, ?_⟩
  rintro i m σ H ⟨rfl, hi, p⟩
  by_cases hlt : i < x.length
  · refine .inr ⟨hlt, Pv (i + 1), fun σ' H' p' => ⟨x.length - (i + 1), by omega, rfl, hlt, p'⟩, fun v H' y => ?_⟩
    obtain ⟨rfl, c, hc, rfl⟩ := y
    exact hs i c σ _ (by rw [Array.getElem?_toList]; exact hc) p
  · have e : i = x.length := by omega
    subst e
    exact .inl ⟨Nat.le_refl _, hd σ H p⟩
/-- figures, one to six, none ahead that is 0 but "0" -/
def figs (z : Str) : Bool := decide (1 ≤ z.length) && decide (z.length ≤ 6) && (!decide (z.cps.toList.head? = some 48) || decide (z = "0")) && z.cps.toList.all fun c => decide (48 ≤ c) && decide (c ≤ 57)
abbrev s_number_of : Stmt := top 20
abbrev N_number_of : List Str := ["word", "sign"]
theorem sc_number_of : FnScope N_number_of ["word"] (defScope s_number_of) := ⟨rfl, rfl, rfl, by decide +kernel, rfl, by decide +kernel, by decide +kernel⟩
def sp_number_of (K : PySem.W.Frag) : Sp := fun vs H Q E => ∃ z : Str, vs = [.str z] ∧ z.length ≤ 1000 ∧ (∀ n, figs z = true → PySem.intText? z = some n → Q (.int n) H) ∧ (figs z = false → E (.ref (He.ga K "NoLine")) none H)
theorem ok_number_of {P : Program} {w : World} {K : PySem.W.Frag} {mg : Str → Option Value} {base : Heap} (F : FnP K ("number_of", none) "number_of" "number_of" s_number_of) (hm : mg "number_of" = some (.ref (He.ga K "number_of"))) (bl : Blt mg) (e_NoLine : ErrC K mg "NoLine") (G_FIGURES : ∃ t, mg "FIGURES" = some (.str "0123456789" t)) (G_MOST_FIGURES : ∃ t, mg "MOST_FIGURES" = some (.int 6 t)) : Cal P w K mg base 1 "number_of" (sp_number_of K) := by
  refine fn_cal F hm sc_number_of (fun vs H Q E => by walk_at "len") (fun _ _ _ _ _ _ us hl => match us, hl with | [_], _ => rfl) (fun f cdv A outer s H vs Q E hr h => ?_)
  have hu := hu_of hr
  obtain ⟨t_FIGURES, g_FIGURES⟩ := G_FIGURES
  obtain ⟨t_MOST_FIGURES, g_MOST_FIGURES⟩ := G_MOST_FIGURES
  obtain ⟨z, rfl, hl, q1, q2⟩ := h
  refine ⟨_, (pss_cons (ps_if (PW.pt (pw_or (pt_not (pt_chain op_le op_le pe_int (pe_callB call_len_str (by rfl) (bl.len) (by decide +kernel) (pa_cons (pv 0) pa_nil)) (pe_glob (v := .int 6) rfl g_MOST_FIGURES ⟨_, rfl⟩))) (pw_or1 (PW.pt (pw_and (pt_cmpR op_eq (pe_ix ix_strC (pv 0) pe_int (fun _ _ => rfl)) pe_str (nomark _)) (pw_and1 (pt_cmpR op_ne (pv 0) pe_str (nomark _))))))))
  (pss_one (L2N.ps_raise rfl (L2N.takes_of rfl rfl rfl rfl) (L2N.pmk_own PySem.F.excBase_ValueError e_NoLine.ex e_NoLine.g e_NoLine.k (raises_own e_NoLine.s e_NoLine.t) rfl)))
  pss_nil)
  (pss_cons (ps_for (passes_of rfl) rfl (pi_str (pv 0)) (pg_name (i := 1) sc_number_of.nd rfl (Or.inl rfl))
  (pss_one (ps_if (pt_cmpR op_notIn_sign (pv 1) (pe_glob (v := .str "0123456789") rfl g_FIGURES ⟨_, rfl⟩) (by rfl))
  (pss_one (L2N.ps_raise rfl (L2N.takes_of rfl rfl rfl rfl) (L2N.pmk_own PySem.F.excBase_ValueError e_NoLine.ex e_NoLine.g e_NoLine.k (raises_own e_NoLine.s e_NoLine.t) rfl)))
  pss_nil)))
  (pss_one (ps_ret (pe_callTy call_int_str (by rfl) (bl.int) (by decide +kernel) (pa_cons (pv 0) pa_nil)))))), ?_⟩
  walk_at "st0"
  have hlz : z.cps.toList.length = z.length := Array.length_toList
  have hF : ("0123456789" : Str).cps.toList = [48, 49, 50, 51, 52, 53, 54, 55, 56, 57] := by decide +kernel
  have h0s : ("0" : Str) = ⟨#[48]⟩ := by decide +kernel
  refine seq_gen fun N_a h_a => ?_
  simp only [RDa, RDb, RDv, RDk, RDx, RDe, RDd, RDp, RDq, List.getElem?_cons_zero, List.getElem?_cons_succ, List.set_cons_zero, List.set_cons_succ, List.cons.injEq, List.cons_ne_nil, reduceCtorEq, exists_eq_left', exists_eq_left, exists_and_left, and_assoc, exists_const, true_and, and_true, if_true, if_false, false_and, and_false, exists_false, false_or, or_false, true_implies, false_implies, implies_true, forall_eq, forall_eq', Bool.false_eq_true, if_neg, decide_eq_true_eq, Bool.not_eq_true', decide_eq_false_iff_not, Bool.not_true, Bool.not_false, List.length_cons, List.length_nil, sizeLine_eq, Nat.reduceAdd, Nat.reduceLeDiff, Nat.reduceLT, Int.reduceLT, Int.reduceLE, Int.emod_nonneg, ne_eq, Int.reduceEq, not_false_eq_true, not_true_eq_false]
  refine ⟨by omega, ?_⟩
  by_cases l1 : 1 ≤ z.length
  · rw [if_pos (by omega)]
    by_cases l6 : z.length ≤ 6
    · rw [if_neg (by omega)]
      obtain ⟨c0, r, hz⟩ : ∃ c0 r, z.cps.toList = c0 :: r := by
        cases e : z.cps.toList with
        | nil => rw [e] at hlz; simp at hlz; omega
        | cons c r => exact ⟨c, r, rfl⟩
      have ed : figs z = ((!decide (c0 = 48) || decide (z = "0")) && z.cps.toList.all fun c => decide (48 ≤ c) && decide (c ≤ 57)) := by
        unfold figs
        rw [decide_eq_true l1, decide_eq_true l6, hz]
        simp
      have go : (!decide (c0 = 48) || decide (z = "0")) = true → N_a [some (.str z), none] H := fun hh => by
        rw [hh, Bool.true_and] at ed
        refine h_a _ _ ?_
        refine for_scut z (fun H1 => H = H1) (fun Z hZ => ?_) (fun i σ H1 => H = H1 ∧ (∃ u, σ = [some (.str z), u]) ∧ ∀ c ∈ z.cps.toList.take i, 48 ≤ c ∧ c ≤ 57) ?_ ?_ ?_
        · simp only [RDa, RDb, RDv, RDk, RDx, RDe, RDd, RDp, RDq, List.getElem?_cons_zero, List.getElem?_cons_succ, List.set_cons_zero, List.set_cons_succ, List.cons.injEq, List.cons_ne_nil, reduceCtorEq, exists_eq_left', exists_eq_left, exists_and_left, and_assoc, exists_const, true_and, and_true, if_true, if_false, false_and, and_false, exists_false, false_or, or_false, true_implies, false_implies, implies_true, forall_eq, forall_eq', Bool.false_eq_true, if_neg, decide_eq_true_eq, Bool.not_eq_true', decide_eq_false_iff_not, Bool.not_true, Bool.not_false, List.length_cons, List.length_nil, sizeLine_eq, Nat.reduceAdd, Nat.reduceLeDiff, Nat.reduceLT, Int.reduceLT, Int.reduceLE, Int.emod_nonneg, ne_eq, Int.reduceEq, not_false_eq_true, not_true_eq_false]
          exact hZ _ rfl
        · rintro H1 rfl
          exact ⟨rfl, ⟨_, rfl⟩, by simp⟩
        · rintro i c σ H1 hc ⟨rfl, ⟨u, rfl⟩, all⟩
          simp only [RDa, RDb, RDv, RDk, RDx, RDe, RDd, RDp, RDq, List.getElem?_cons_zero, List.getElem?_cons_succ, List.set_cons_zero, List.set_cons_succ, List.cons.injEq, List.cons_ne_nil, reduceCtorEq, exists_eq_left', exists_eq_left, exists_and_left, and_assoc, exists_const, true_and, and_true, if_true, if_false, false_and, and_false, exists_false, false_or, or_false, true_implies, false_implies, implies_true, forall_eq, forall_eq', Bool.false_eq_true, if_neg, decide_eq_true_eq, Bool.not_eq_true', decide_eq_false_iff_not, Bool.not_true, Bool.not_false, List.length_cons, List.length_nil, sizeLine_eq, Nat.reduceAdd, Nat.reduceLeDiff, Nat.reduceLT, Int.reduceLT, Int.reduceLE, Int.emod_nonneg, ne_eq, Int.reduceEq, not_false_eq_true, not_true_eq_false, hF]
          have hdig : c ∈ [48, 49, 50, 51, 52, 53, 54, 55, 56, 57] ↔ 48 ≤ c ∧ c ≤ 57 := by
            simp only [List.mem_cons, List.not_mem_nil, or_false]
            omega
          refine ⟨c, rfl, ?_⟩
          by_cases hm : 48 ≤ c ∧ c ≤ 57
          · rw [if_neg (fun h => h (hdig.mpr hm))]
            refine ⟨⟨_, rfl⟩, fun c' hc' => ?_⟩
            rw [List.take_succ, hc] at hc'
            rcases List.mem_append.mp hc' with h | h
            · exact all c' h
            · have e : c' = c := by simpa using h
              rw [e]; exact hm
          · rw [if_pos (fun h => hm (hdig.mp h))]
            refine q2 (ed.trans ?_)
            rw [List.all_eq_false]
            exact ⟨c, List.mem_of_getElem? hc, by simpa using hm⟩
        · rintro σ H1 ⟨rfl, ⟨u, rfl⟩, all⟩
          simp only [RDa, RDb, RDv, RDk, RDx, RDe, RDd, RDp, RDq, List.getElem?_cons_zero, List.getElem?_cons_succ, List.set_cons_zero, List.set_cons_succ, List.cons.injEq, List.cons_ne_nil, reduceCtorEq, exists_eq_left', exists_eq_left, exists_and_left, and_assoc, exists_const, true_and, and_true, if_true, if_false, false_and, and_false, exists_false, false_or, or_false, true_implies, false_implies, implies_true, forall_eq, forall_eq', Bool.false_eq_true, if_neg, decide_eq_true_eq, Bool.not_eq_true', decide_eq_false_iff_not, Bool.not_true, Bool.not_false, List.length_cons, List.length_nil, sizeLine_eq, Nat.reduceAdd, Nat.reduceLeDiff, Nat.reduceLT, Int.reduceLT, Int.reduceLE, Int.emod_nonneg, ne_eq, Int.reduceEq, not_false_eq_true, not_true_eq_false]
          rw [← hlz, List.take_length] at all
          have hi := intText_digits (x := z) all (by rw [hz]; exact List.cons_ne_nil _ _) (by omega)
          exact ⟨_, hi, by omega, q1 _ (ed.trans (List.all_eq_true.mpr fun c hc => by simpa using all c hc)) hi⟩
      have e5 : atI z.cps.toList 0 = some c0 := by rw [hz]; exact atI_nat (j := 0) rfl
      refine ⟨by omega, c0, e5, ?_⟩
      rw [h0s]
      by_cases c48 : c0 = 48
      · rw [if_pos (by rw [c48])]
        by_cases z0 : z = ⟨#[48]⟩
        · rw [if_neg (fun h => h z0)]
          exact go (by rw [h0s, decide_eq_true z0, Bool.or_true])
        · rw [if_pos z0]
          refine q2 (ed.trans ?_)
          rw [h0s, decide_eq_false z0, decide_eq_true c48]
          rfl
      · rw [if_neg (fun h => c48 (by injection h with h; injection h with h; injection h))]
        exact go (by rw [decide_eq_false c48]; rfl)
    · rw [if_pos (by omega)]
      refine q2 ?_
      unfold figs
      rw [decide_eq_false l6]
      simp
  · rw [if_neg (by omega)]
    refine q2 ?_
    unfold figs
    rw [decide_eq_false l1]
    simp
def wordB (z : Str) : Bool := decide (z = "send") || decide (z = "hand") || decide (z = "tell")
/-- a line that is a step's -/
def readV (x : V) : Bool := match x with
  | .str z => wordB (Txt.partition z " ").1 && figs (Txt.partition z " ").2.2
  | _ => false
abbrev s_read : Stmt := top 21
abbrev N_read : List Str := ["line", "word", "blank", "rest"]
theorem sc_read : FnScope N_read ["line"] (defScope s_read) := ⟨rfl, rfl, rfl, by decide +kernel, rfl, by decide +kernel, by decide +kernel⟩
def sp_read (K : PySem.W.Frag) : Sp := fun vs H Q E => ∃ x, vs = [x] ∧ Kn H x ∧ (∀ z, x = .str z → z.length ≤ 1000 ∧ (Txt.partition z " ").2.2.length ≤ 1000) ∧
  (∀ z n q H', x = .str z → readV x = true → PySem.intText? (Txt.partition z " ").2.2 = some n → Same H H' → H q = none → H' q = some (.tup [.str (Txt.partition z " ").1, .int n]) → Q (.ref q) H') ∧ (readV x = false → ∀ H', Same H H' → E (.ref (He.ga K "NoLine")) none H')
theorem ok_read {P : Program} {w : World} {K : PySem.W.Frag} {mg : Str → Option Value} {base : Heap} (F : FnP K ("read", none) "read" "read" s_read) (hm : mg "read" = some (.ref (He.ga K "read"))) (bl : Blt mg) (c_number_of : Cal P w K mg base 1 "number_of" (sp_number_of K)) (e_NoLine : ErrC K mg "NoLine") (g_WORDS : mg "WORDS" = some (.ref (He.ga K "WORDS"))) (hW : ∀ H, SqT K H (He.ga K "WORDS") [.str "send", .str "hand", .str "tell"]) : Cal P w K mg base 2 "read" (sp_read K) := by
  refine fn_cal F hm sc_read (fun vs H Q E => by walk_at "len") (fun _ _ _ _ _ _ us hl => match us, hl with | [_], _ => rfl) (fun f cdv A outer s H vs Q E hr h => ?_)
  have hu := hu_of hr
  obtain ⟨x, rfl, hk, hl, q1, q2⟩ := h
  refine ⟨_, (pss_cons (ps_if (pt_not (pt_val (pe_callB call_isC (by rfl) (bl.isi) (by decide +kernel) (pa_cons (pv 0) (pa_cons (pe_bltn (v := .ty "str") (u := .type "str") rfl (bl.str) (by decide +kernel) rfl) pa_nil)))))
  (pss_one (L2N.ps_raise rfl (L2N.takes_of rfl rfl rfl rfl) (L2N.pmk_own PySem.F.excBase_ValueError e_NoLine.ex e_NoLine.g e_NoLine.k (raises_own e_NoLine.s e_NoLine.t) rfl)))
  pss_nil)
  (pss_cons (ps_asg (pe_partition (pv 0) pe_str) (pg_tupC (n := 3) rfl (pgs_cons (pg_name (i := 1) sc_read.nd rfl (Or.inl rfl)) (pgs_cons (pg_name (i := 2) sc_read.nd rfl (Or.inl rfl)) (pgs_cons (pg_name (i := 3) sc_read.nd rfl (Or.inl rfl)) pgs_nil)))))
  (pss_cons (ps_if (pt_cmpR op_notIn_seq (pv 1) (pe_glob (v := .ref (He.ga K "WORDS")) rfl g_WORDS rfl) (by rfl))
  (pss_one (L2N.ps_raise rfl (L2N.takes_of rfl rfl rfl rfl) (L2N.pmk_own PySem.F.excBase_ValueError e_NoLine.ex e_NoLine.g e_NoLine.k (raises_own e_NoLine.s e_NoLine.t) rfl)))
  pss_nil)
  (pss_one (ps_ret (pe_tup (pa_cons (pv 1) (pa_cons (pe_fn c_number_of (hr.mono (by decide)) (L2N.takes_of rfl rfl rfl rfl) (pa_cons (pv 3) pa_nil)) pa_nil)))))))), ?_⟩
  walk_at "st0"
  refine seq_gen fun N_a h_a => ?_
  simp only [RDa, RDb, RDv, RDk, RDx, RDe, RDd, RDp, RDq, List.getElem?_cons_zero, List.getElem?_cons_succ, List.set_cons_zero, List.set_cons_succ, List.cons.injEq, List.cons_ne_nil, reduceCtorEq, exists_eq_left', exists_eq_left, exists_and_left, and_assoc, exists_const, true_and, and_true, if_true, if_false, false_and, and_false, exists_false, false_or, or_false, true_implies, false_implies, implies_true, forall_eq, forall_eq', Bool.false_eq_true, if_neg, decide_eq_true_eq, Bool.not_eq_true', decide_eq_false_iff_not, Bool.not_true, Bool.not_false, List.length_cons, List.length_nil, sizeLine_eq, Nat.reduceAdd, Nat.reduceLeDiff, Nat.reduceLT, Int.reduceLT, Int.reduceLE, Int.emod_nonneg, ne_eq, Int.reduceEq, not_false_eq_true, not_true_eq_false]
  rcases hk.cases with rfl | ⟨b, rfl⟩ | ⟨n, rfl⟩ | ⟨z, rfl⟩ | ⟨a, t, rfl, ht, rfl | rfl | rfl⟩
  · simp only [RDa, RDb, RDv, RDk, RDx, RDe, RDd, RDp, RDq, List.getElem?_cons_zero, List.getElem?_cons_succ, List.set_cons_zero, List.set_cons_succ, List.cons.injEq, List.cons_ne_nil, reduceCtorEq, exists_eq_left', exists_eq_left, exists_and_left, and_assoc, exists_const, true_and, and_true, if_true, if_false, false_and, and_false, exists_false, false_or, or_false, true_implies, false_implies, implies_true, forall_eq, forall_eq', Bool.false_eq_true, if_neg, decide_eq_true_eq, Bool.not_eq_true', decide_eq_false_iff_not, Bool.not_true, Bool.not_false, List.length_cons, List.length_nil, sizeLine_eq, Nat.reduceAdd, Nat.reduceLeDiff, Nat.reduceLT, Int.reduceLT, Int.reduceLE, Int.emod_nonneg, ne_eq, Int.reduceEq, not_false_eq_true, not_true_eq_false]
    exact q2 rfl _ (Same.refl _)
  · simp only [RDa, RDb, RDv, RDk, RDx, RDe, RDd, RDp, RDq, List.getElem?_cons_zero, List.getElem?_cons_succ, List.set_cons_zero, List.set_cons_succ, List.cons.injEq, List.cons_ne_nil, reduceCtorEq, exists_eq_left', exists_eq_left, exists_and_left, and_assoc, exists_const, true_and, and_true, if_true, if_false, false_and, and_false, exists_false, false_or, or_false, true_implies, false_implies, implies_true, forall_eq, forall_eq', Bool.false_eq_true, if_neg, decide_eq_true_eq, Bool.not_eq_true', decide_eq_false_iff_not, Bool.not_true, Bool.not_false, List.length_cons, List.length_nil, sizeLine_eq, Nat.reduceAdd, Nat.reduceLeDiff, Nat.reduceLT, Int.reduceLT, Int.reduceLE, Int.emod_nonneg, ne_eq, Int.reduceEq, not_false_eq_true, not_true_eq_false]
    exact q2 rfl _ (Same.refl _)
  · simp only [RDa, RDb, RDv, RDk, RDx, RDe, RDd, RDp, RDq, List.getElem?_cons_zero, List.getElem?_cons_succ, List.set_cons_zero, List.set_cons_succ, List.cons.injEq, List.cons_ne_nil, reduceCtorEq, exists_eq_left', exists_eq_left, exists_and_left, and_assoc, exists_const, true_and, and_true, if_true, if_false, false_and, and_false, exists_false, false_or, or_false, true_implies, false_implies, implies_true, forall_eq, forall_eq', Bool.false_eq_true, if_neg, decide_eq_true_eq, Bool.not_eq_true', decide_eq_false_iff_not, Bool.not_true, Bool.not_false, List.length_cons, List.length_nil, sizeLine_eq, Nat.reduceAdd, Nat.reduceLeDiff, Nat.reduceLT, Int.reduceLT, Int.reduceLE, Int.emod_nonneg, ne_eq, Int.reduceEq, not_false_eq_true, not_true_eq_false]
    exact q2 rfl _ (Same.refl _)
  · simp only [RDa, RDb, RDv, RDk, RDx, RDe, RDd, RDp, RDq, List.getElem?_cons_zero, List.getElem?_cons_succ, List.set_cons_zero, List.set_cons_succ, List.cons.injEq, List.cons_ne_nil, reduceCtorEq, exists_eq_left', exists_eq_left, exists_and_left, and_assoc, exists_const, true_and, and_true, if_true, if_false, false_and, and_false, exists_false, false_or, or_false, true_implies, false_implies, implies_true, forall_eq, forall_eq', Bool.false_eq_true, if_neg, decide_eq_true_eq, Bool.not_eq_true', decide_eq_false_iff_not, Bool.not_true, Bool.not_false, List.length_cons, List.length_nil, sizeLine_eq, Nat.reduceAdd, Nat.reduceLeDiff, Nat.reduceLT, Int.reduceLT, Int.reduceLE, Int.emod_nonneg, ne_eq, Int.reduceEq, not_false_eq_true, not_true_eq_false]
    refine h_a _ _ ?_
    simp only [RDa, RDb, RDv, RDk, RDx, RDe, RDd, RDp, RDq, List.getElem?_cons_zero, List.getElem?_cons_succ, List.set_cons_zero, List.set_cons_succ, List.cons.injEq, List.cons_ne_nil, reduceCtorEq, exists_eq_left', exists_eq_left, exists_and_left, and_assoc, exists_const, true_and, and_true, if_true, if_false, false_and, and_false, exists_false, false_or, or_false, true_implies, false_implies, implies_true, forall_eq, forall_eq', Bool.false_eq_true, if_neg, decide_eq_true_eq, Bool.not_eq_true', decide_eq_false_iff_not, Bool.not_true, Bool.not_false, List.length_cons, List.length_nil, sizeLine_eq, Nat.reduceAdd, Nat.reduceLeDiff, Nat.reduceLT, Int.reduceLT, Int.reduceLE, Int.emod_nonneg, ne_eq, Int.reduceEq, not_false_eq_true, not_true_eq_false]
    obtain ⟨l1, l2⟩ := hl z rfl
    have lb : ((" " : Str).length == 0) = false := by decide +kernel
    refine ⟨⟨_, rfl⟩, lb, by omega, ?_⟩
    generalize ep : Txt.partition z " " = pt at l2
    intro t1 n_t1
    generalize e_H1 : upd H t1 (.tup [.str pt.1, .str pt.2.1, .str pt.2.2]) = H1
    have a_H1 : H1 t1 = some (.tup [.str pt.1, .str pt.2.1, .str pt.2.2]) := by rw [← e_H1]; exact upd_same
    have s_H1 : Same H H1 := by rw [← e_H1]; exact same_new n_t1
    refine ⟨_, a_H1, rfl, _, _, rfl, _, _, rfl, _, _, rfl, rfl, _, .inr (hW H1), rfl, rfl, ?_⟩
    have ei : inV (.str pt.1) [.str "send", .str "hand", .str "tell"] = wordB pt.1 := by
      have bd : ∀ u : Str, (u == pt.1) = decide (pt.1 = u) := fun u => by
        rw [Bool.eq_iff_iff, beq_iff_eq, decide_eq_true_eq]
        exact eq_comm
      simp only [inV, List.any_cons, List.any_nil, eqV, bd, Bool.or_false, Bool.or_assoc, wordB]
    have er : readV (.str z) = (wordB pt.1 && figs pt.2.2) := by
      unfold readV
      dsimp only
      rw [ep]
    rw [ei]
    cases hw : wordB pt.1 with
    | false =>
      rw [hw, Bool.false_and] at er
      rw [if_pos rfl]
      exact q2 er _ s_H1
    | true =>
      rw [hw, Bool.true_and] at er
      rw [if_neg (by decide)]
      exact ⟨_, rfl, l2, fun n hf hn p np => q1 z n p _ rfl (er.trans hf) (by rw [ep]; exact hn) (s_H1.trans (same_new np)) (s_H1.free np) (by rw [ep]; exact upd_same), fun hf => q2 (er.trans hf) _ s_H1⟩
  · simp only [RDa, RDb, RDv, RDk, RDx, RDe, RDd, RDp, RDq, List.getElem?_cons_zero, List.getElem?_cons_succ, List.set_cons_zero, List.set_cons_succ, List.cons.injEq, List.cons_ne_nil, reduceCtorEq, exists_eq_left', exists_eq_left, exists_and_left, and_assoc, exists_const, true_and, and_true, if_true, if_false, false_and, and_false, exists_false, false_or, or_false, true_implies, false_implies, implies_true, forall_eq, forall_eq', Bool.false_eq_true, if_neg, decide_eq_true_eq, Bool.not_eq_true', decide_eq_false_iff_not, Bool.not_true, Bool.not_false, List.length_cons, List.length_nil, sizeLine_eq, Nat.reduceAdd, Nat.reduceLeDiff, Nat.reduceLT, Int.reduceLT, Int.reduceLE, Int.emod_nonneg, ne_eq, Int.reduceEq, not_false_eq_true, not_true_eq_false, ht]
    exact q2 rfl _ (Same.refl _)
  · simp only [RDa, RDb, RDv, RDk, RDx, RDe, RDd, RDp, RDq, List.getElem?_cons_zero, List.getElem?_cons_succ, List.set_cons_zero, List.set_cons_succ, List.cons.injEq, List.cons_ne_nil, reduceCtorEq, exists_eq_left', exists_eq_left, exists_and_left, and_assoc, exists_const, true_and, and_true, if_true, if_false, false_and, and_false, exists_false, false_or, or_false, true_implies, false_implies, implies_true, forall_eq, forall_eq', Bool.false_eq_true, if_neg, decide_eq_true_eq, Bool.not_eq_true', decide_eq_false_iff_not, Bool.not_true, Bool.not_false, List.length_cons, List.length_nil, sizeLine_eq, Nat.reduceAdd, Nat.reduceLeDiff, Nat.reduceLT, Int.reduceLT, Int.reduceLE, Int.emod_nonneg, ne_eq, Int.reduceEq, not_false_eq_true, not_true_eq_false, ht]
    exact q2 rfl _ (Same.refl _)
  · simp only [RDa, RDb, RDv, RDk, RDx, RDe, RDd, RDp, RDq, List.getElem?_cons_zero, List.getElem?_cons_succ, List.set_cons_zero, List.set_cons_succ, List.cons.injEq, List.cons_ne_nil, reduceCtorEq, exists_eq_left', exists_eq_left, exists_and_left, and_assoc, exists_const, true_and, and_true, if_true, if_false, false_and, and_false, exists_false, false_or, or_false, true_implies, false_implies, implies_true, forall_eq, forall_eq', Bool.false_eq_true, if_neg, decide_eq_true_eq, Bool.not_eq_true', decide_eq_false_iff_not, Bool.not_true, Bool.not_false, List.length_cons, List.length_nil, sizeLine_eq, Nat.reduceAdd, Nat.reduceLeDiff, Nat.reduceLT, Int.reduceLT, Int.reduceLE, Int.emod_nonneg, ne_eq, Int.reduceEq, not_false_eq_true, not_true_eq_false, ht]
    exact q2 rfl _ (Same.refl _)
end RP

namespace RP
open PySem PySem.Spec PyProof.Rows L2 L2H
abbrev s__law_shown : Stmt := top 30
abbrev N__law_shown : List Str := ["_law_step", "_law_error"]
theorem sc__law_shown : FnScope N__law_shown ["_law_step"] (defScope s__law_shown) := ⟨rfl, rfl, rfl, by decide +kernel, rfl, by decide +kernel, by decide +kernel⟩
def sp__law_shown (K : PySem.W.Frag) : Sp := fun vs H Q E => ∃ x, vs = [x] ∧ KnI H x ∧ (∀ a z n q H', x = .ref a → H a = some (.tup [.str z, .int n]) → stepV H x = true → Same H H' → H q = none → H' q = some (.tup [.str "told", .str (lineOf z n)]) → Q (.ref q) H') ∧
  (stepV H x = false → ∀ q H', Same H H' → H q = none → H' q = some (.tup [.str "refused", .str "step"]) → Q (.ref q) H')
theorem ok__law_shown {P : Program} {w : World} {K : PySem.W.Frag} {mg : Str → Option Value} {base : Heap} (F : FnP K ("_law_shown", none) "_law_shown" "_law_shown" s__law_shown) (hm : mg "_law_shown" = some (.ref (He.ga K "_law_shown"))) (bl : Blt mg) (c__law_word : CalE P w K mg base 1 "_law_word" (sp__law_word K)) (c_shown : Cal P w K mg base 3 "shown" (sp_shown K)) (e_PostError : ErrC K mg "PostError") (hx1 : PySem.W.exmOne K (.ref (He.ga K "BadStep")) (.ref (He.ga K "PostError")) = some true) : Cal P w K mg base 4 "_law_shown" (sp__law_shown K) := by
  refine fn_cal F hm sc__law_shown (fun vs H Q E => by walk_at "len") (fun _ _ _ _ _ _ us hl => match us, hl with | [_], _ => rfl) (fun f cdv A outer s H vs Q E hr h => ?_)
  have hu := hu_of hr
  obtain ⟨x, rfl, hk, q1, q2⟩ := h
  refine ⟨_, (pss_one (L2N.ps_try_as (i := 1) rfl rfl sc__law_shown.nd rfl rfl ⟨rfl, by decide, .inl e_PostError.g⟩ (L2N.takes_of rfl rfl rfl rfl)
  (fun W pn xe tk po => (pss_one (ps_ret (pe_tup (pa_cons pe_str (pa_cons (pe_fn c_shown (hr.mono (by decide)) tk (pa_cons (pv 0) pa_nil)) pa_nil))))))
  (fun a oe cls d pn hz hf => (pss_one (ps_ret (pe_tup (pa_cons pe_str (pa_cons (by exact (pe_fnE c__law_word (roomS hr (by decide)) ⟨rfl, hf.elim fun vs e => ⟨vs, e, hz.2.2 vs e⟩⟩ hz List.mem_cons_self tkN (pa_cons (pv 1) pa_nil))) pa_nil)))))))), ?_⟩
  walk_at "st0"
  simp only [RDa, RDb, RDv, RDk, RDx, RDe, RDd, RDp, RDq, List.getElem?_cons_zero, List.getElem?_cons_succ, List.set_cons_zero, List.set_cons_succ, List.cons.injEq, List.cons_ne_nil, reduceCtorEq, exists_eq_left', exists_eq_left, exists_and_left, and_assoc, exists_const, true_and, and_true, if_true, if_false, false_and, and_false, exists_false, false_or, or_false, true_implies, false_implies, implies_true, forall_eq, forall_eq', Bool.false_eq_true, if_neg, decide_eq_true_eq, Bool.not_eq_true', decide_eq_false_iff_not, Bool.not_true, Bool.not_false, List.length_cons, List.length_nil, sizeLine_eq, Nat.reduceAdd, Nat.reduceLeDiff, Nat.reduceLT, Int.reduceLT, Int.reduceLE, Int.emod_nonneg, ne_eq, Int.reduceEq, not_false_eq_true, not_true_eq_false, hk, sp_shown, hx1]
  refine ⟨fun a z n e ha hs p np => q1 a z n p _ e ha hs (same_new np) np upd_same, fun hs a na => ⟨"BadStep", "step", rfl, rfl, .inr ⟨rfl, rfl⟩, rfl, fun H' s p np => q2 hs p _ (s.trans (same_new np)) (s.free np) upd_same⟩⟩
abbrev s__law_read : Stmt := top 29
abbrev N__law_read : List Str := ["_law_line", "_law_found", "_law_error"]
theorem sc__law_read : FnScope N__law_read ["_law_line"] (defScope s__law_read) := ⟨rfl, rfl, rfl, by decide +kernel, rfl, by decide +kernel, by decide +kernel⟩
def sp__law_read (K : PySem.W.Frag) : Sp := fun vs H Q E => ∃ x, vs = [x] ∧ Kn H x ∧ (∀ z, x = .str z → z.length ≤ 1000 ∧ (Txt.partition z " ").2.2.length ≤ 1000) ∧
  (∀ z n t q H', x = .str z → readV x = true → PySem.intText? (Txt.partition z " ").2.2 = some n → Same H H' → H q = none → H' t = some (.tup [.str (Txt.partition z " ").1, .int n]) → H' q = some (.tup [.str "told", .ref t]) → Q (.ref q) H') ∧
  (readV x = false → ∀ q H', Same H H' → H q = none → H' q = some (.tup [.str "refused", .str "line"]) → Q (.ref q) H')
theorem ok__law_read {P : Program} {w : World} {K : PySem.W.Frag} {mg : Str → Option Value} {base : Heap} (F : FnP K ("_law_read", none) "_law_read" "_law_read" s__law_read) (hm : mg "_law_read" = some (.ref (He.ga K "_law_read"))) (bl : Blt mg) (c__law_whole : Cal P w K mg base 1 "_law_whole" (sp__law_whole K)) (c__law_word : CalE P w K mg base 1 "_law_word" (sp__law_word K)) (c_read : Cal P w K mg base 2 "read" (sp_read K)) (e_PostError : ErrC K mg "PostError") (hx1 : PySem.W.exmOne K (.ref (He.ga K "NoLine")) (.ref (He.ga K "PostError")) = some true) : Cal P w K mg base 3 "_law_read" (sp__law_read K) := by
  refine fn_cal F hm sc__law_read (fun vs H Q E => by walk_at "len") (fun _ _ _ _ _ _ us hl => match us, hl with | [_], _ => rfl) (fun f cdv A outer s H vs Q E hr h => ?_)
  have hu := hu_of hr
  obtain ⟨x, rfl, hk, hl, q1, q2⟩ := h
  refine ⟨_, (pss_cons (L2N.ps_try_as (i := 2) rfl rfl sc__law_read.nd rfl rfl ⟨rfl, by decide, .inl e_PostError.g⟩ (L2N.takes_of rfl rfl rfl rfl)
  (fun W pn xe tk po => (pss_one (ps_set (i := 1) sc__law_read.nd rfl (Or.inl rfl) (pe_fn c_read (hr.mono (by decide)) tk (pa_cons (pv 0) pa_nil)))))
  (fun a oe cls d pn hz hf => (pss_one (ps_ret (pe_tup (pa_cons pe_str (pa_cons (by exact (pe_fnE c__law_word (roomS hr (by decide)) ⟨rfl, hf.elim fun vs e => ⟨vs, e, hz.2.2 vs e⟩⟩ hz List.mem_cons_self tkN (pa_cons (pv 2) pa_nil))) pa_nil)))))))
  (pss_cons (ps_if (PW.pt (pw_or (pt_not (pt_val (pe_callB call_isC (by rfl) (bl.isi) (by decide +kernel) (pa_cons (pv 1) (pa_cons (pe_bltn (v := .ty "tuple") (u := .type "tuple") rfl (bl.tuple) (by decide +kernel) rfl) pa_nil))))) (pw_or (pt_cmpR op_ne (pe_callB call_lenC (by rfl) (bl.len) (by decide +kernel) (pa_cons (pv 1) pa_nil)) pe_int (nomark _)) (pw_or1 (pt_not (pt_val (pe_fn c__law_whole (hr.mono (by decide)) (L2N.takes_of rfl rfl rfl rfl) (pa_cons (pe_ix ix_C (pv 1) pe_int (fun _ _ => rfl)) pa_nil))))))))
  (pss_one (ps_ret (pe_tup (pa_cons pe_str (pa_cons pe_str pa_nil)))))
  pss_nil)
  (pss_one (ps_ret (pe_tup (pa_cons pe_str (pa_cons (pv 1) pa_nil))))))), ?_⟩
  walk_at "st0"
  refine seq_gen fun N_a h_a => ?_
  simp only [RDa, RDb, RDv, RDk, RDx, RDe, RDd, RDp, RDq, List.getElem?_cons_zero, List.getElem?_cons_succ, List.set_cons_zero, List.set_cons_succ, List.cons.injEq, List.cons_ne_nil, reduceCtorEq, exists_eq_left', exists_eq_left, exists_and_left, and_assoc, exists_const, true_and, and_true, if_true, if_false, false_and, and_false, exists_false, false_or, or_false, true_implies, false_implies, implies_true, forall_eq, forall_eq', Bool.false_eq_true, if_neg, decide_eq_true_eq, Bool.not_eq_true', decide_eq_false_iff_not, Bool.not_true, Bool.not_false, List.length_cons, List.length_nil, sizeLine_eq, Nat.reduceAdd, Nat.reduceLeDiff, Nat.reduceLT, Int.reduceLT, Int.reduceLE, Int.emod_nonneg, ne_eq, Int.reduceEq, not_false_eq_true, not_true_eq_false]
  refine ⟨x, rfl, hk, hl, fun z n q' H' ex hr hn s1 nq hq => h_a _ _ ?_, fun hr H' s1 => ?_⟩
  · have kn : Kn H' (.int n) := rfl
    simp only [RDa, RDb, RDv, RDk, RDx, RDe, RDd, RDp, RDq, List.getElem?_cons_zero, List.getElem?_cons_succ, List.set_cons_zero, List.set_cons_succ, List.cons.injEq, List.cons_ne_nil, reduceCtorEq, exists_eq_left', exists_eq_left, exists_and_left, and_assoc, exists_const, true_and, and_true, if_true, if_false, false_and, and_false, exists_false, false_or, or_false, true_implies, false_implies, implies_true, forall_eq, forall_eq', Bool.false_eq_true, if_neg, decide_eq_true_eq, Bool.not_eq_true', decide_eq_false_iff_not, Bool.not_true, Bool.not_false, List.length_cons, List.length_nil, sizeLine_eq, Nat.reduceAdd, Nat.reduceLeDiff, Nat.reduceLT, Int.reduceLT, Int.reduceLE, Int.emod_nonneg, ne_eq, Int.reduceEq, not_false_eq_true, not_true_eq_false, tyN_tup hq, lenO_tup hq, seqO_tup hq, sp__law_whole, kn, wholeV]
    exact fun p np => q1 z n q' p _ ex hr hn (s1.trans (same_new np)) (s1.free np) (by rw [upd_ne (ne_of_none hq np)]; exact hq) upd_same
  · simp only [RDa, RDb, RDv, RDk, RDx, RDe, RDd, RDp, RDq, List.getElem?_cons_zero, List.getElem?_cons_succ, List.set_cons_zero, List.set_cons_succ, List.cons.injEq, List.cons_ne_nil, reduceCtorEq, exists_eq_left', exists_eq_left, exists_and_left, and_assoc, exists_const, true_and, and_true, if_true, if_false, false_and, and_false, exists_false, false_or, or_false, true_implies, false_implies, implies_true, forall_eq, forall_eq', Bool.false_eq_true, if_neg, decide_eq_true_eq, Bool.not_eq_true', decide_eq_false_iff_not, Bool.not_true, Bool.not_false, List.length_cons, List.length_nil, sizeLine_eq, Nat.reduceAdd, Nat.reduceLeDiff, Nat.reduceLT, Int.reduceLT, Int.reduceLE, Int.emod_nonneg, ne_eq, Int.reduceEq, not_false_eq_true, not_true_eq_false, hx1, sp__law_word]
    refine fun a na => ⟨"NoLine", rfl, "line", .inl ⟨rfl, rfl⟩, fun H2 s2 p np => q2 hr p _ (s1.trans (s2.trans (same_new np))) (s1.free (s2.free np)) upd_same⟩
end RP

namespace RP
open PySem PySem.Spec PyProof.Rows L2 L2H PySem.NumText
/-- the figures of a number -/
def dg (n : Nat) : List Nat := (Nat.toDigits 10 n).map Char.toNat
theorem dgc : ∀ d : Nat, d < 10 → (Nat.digitChar d).toNat = 48 + d := by decide
theorem dg_small {n : Nat} (h : n < 10) : dg n = [48 + n] := by
  unfold dg
  rw [Nat.toDigits_of_lt_base h, List.map_cons, List.map_nil, dgc n h]
theorem dg_step {n : Nat} (h : 10 ≤ n) : dg n = dg (n / 10) ++ [48 + n % 10] := by
  have hm : n % 10 < 10 := Nat.mod_lt n (by decide)
  have t : Nat.toDigits 10 (n / 10) ++ Nat.toDigits 10 (n % 10) = Nat.toDigits 10 (10 * (n / 10) + n % 10) := Nat.toDigits_append_toDigits (by decide) (by omega) hm
  rw [Nat.div_add_mod] at t
  unfold dg
  rw [← t, List.map_append, Nat.toDigits_of_lt_base hm, List.map_cons, List.map_nil, dgc _ hm]
theorem dg_txt (n : Nat) : (Str.ofString (toString (n : Int))).cps.toList = dg n := PySem.W.KIN.signs_num n
theorem dv_snoc (l : List Nat) (c : Nat) : digitsVal (l ++ [c]) = digitsVal l * 10 + (c - 48) := by
  unfold digitsVal
  rw [List.foldl_append]
  rfl
theorem dg_ne (n : Nat) : dg n ≠ [] := by
  by_cases h : n < 10
  · rw [dg_small h]; simp
  · rw [dg_step (by omega)]; simp
theorem dg_digits (n : Nat) : AllDigits (dg n) := by
  induction n using Nat.strongRecOn with
  | _ m ih =>
    by_cases h : m < 10
    · rw [dg_small h]
      intro c hc
      have : c = 48 + m := by simpa using hc
      omega
    · rw [dg_step (by omega)]
      intro c hc
      rcases List.mem_append.mp hc with h1 | h1
      · exact ih (m / 10) (by omega) c h1
      · have : c = 48 + m % 10 := by simpa using h1
        omega
theorem dg_head {n : Nat} (h : 0 < n) : (dg n).head? ≠ some 48 := by
  induction n using Nat.strongRecOn with
  | _ m ih =>
    by_cases h1 : m < 10
    · rw [dg_small h1]
      simp only [List.head?_cons, ne_eq, Option.some.injEq]
      omega
    · rw [dg_step (by omega), List.head?_append]
      have := ih (m / 10) (by omega) (by omega)
      cases e : dg (m / 10) with
      | nil => exact absurd e (dg_ne _)
      | cons a r => rw [e] at this; exact this
theorem dv_dg (n : Nat) : digitsVal (dg n) = n := by
  induction n using Nat.strongRecOn with
  | _ m ih =>
    by_cases h : m < 10
    · rw [dg_small h]
      show 0 * 10 + (48 + m - 48) = m
      omega
    · rw [dg_step (by omega), dv_snoc, ih (m / 10) (by omega)]
      omega
theorem dv_uniq : ∀ (k : Nat) (ds : List Nat), ds.length = k → AllDigits ds → ds ≠ [] → ds.head? ≠ some 48 → 0 < digitsVal ds ∧ dg (digitsVal ds) = ds
  | 0, ds, hl, _, hn, _ => absurd (List.length_eq_zero_iff.mp hl) hn
  | k + 1, ds, hl, ha, hn, hh => by
    obtain ⟨l, c, rfl⟩ : ∃ l c, ds = l ++ [c] := ⟨ds.dropLast, ds.getLast hn, (List.dropLast_concat_getLast hn).symm⟩
    have hc := ha c (by simp)
    rw [dv_snoc]
    cases l with
    | nil =>
      have h48 : c ≠ 48 := fun e => hh (by rw [e]; rfl)
      have e0 : digitsVal [] = 0 := rfl
      rw [e0]
      refine ⟨by omega, ?_⟩
      rw [dg_small (by omega)]
      show [48 + (0 * 10 + (c - 48))] = [c]
      congr 1
      omega
    | cons b r =>
      have hl2 : (b :: r).length = k := by simpa using hl
      obtain ⟨h1, h2⟩ := dv_uniq k (b :: r) hl2 (fun d hd => ha d (by simp only [List.mem_append]; exact .inl hd)) (List.cons_ne_nil _ _) hh
      refine ⟨by omega, ?_⟩
      rw [dg_step (by omega)]
      rw [show (digitsVal (b :: r) * 10 + (c - 48)) / 10 = digitsVal (b :: r) by omega, show 48 + (digitsVal (b :: r) * 10 + (c - 48)) % 10 = c by omega, h2]
theorem dv_lt : ∀ (k : Nat) (ds : List Nat), ds.length = k → AllDigits ds → digitsVal ds < 10 ^ k
  | 0, ds, hl, _ => by rw [List.length_eq_zero_iff.mp hl]; decide
  | k + 1, ds, hl, ha => by
    have hn : ds ≠ [] := fun e => by rw [e] at hl; cases hl
    obtain ⟨l, c, rfl⟩ : ∃ l c, ds = l ++ [c] := ⟨ds.dropLast, ds.getLast hn, (List.dropLast_concat_getLast hn).symm⟩
    have hc := ha c (by simp)
    have h := dv_lt k l (by simpa using hl) (fun d hd => ha d (by simp only [List.mem_append]; exact .inl hd))
    rw [dv_snoc, Nat.pow_succ]
    omega
theorem figs_dg {z : Str} (ha : AllDigits z.cps.toList) (h1 : 1 ≤ z.length) (h6 : z.length ≤ 6) : figs z = decide (Str.ofString (toString ((digitsVal z.cps.toList : Nat) : Int)) = z) := by
  have hlz : z.cps.toList.length = z.length := Array.length_toList
  have hne : z.cps.toList ≠ [] := fun e => by rw [e] at hlz; simp at hlz; omega
  have e : figs z = (!decide (z.cps.toList.head? = some 48) || decide (z = "0")) := by
    unfold figs
    rw [decide_eq_true h1, decide_eq_true h6, List.all_eq_true.mpr (fun c hc => by simpa using ha c hc)]
    simp
  rw [e, Bool.eq_iff_iff, decide_eq_true_eq, Bool.or_eq_true, decide_eq_true_eq, Bool.not_eq_true', decide_eq_false_iff_not]
  constructor
  · rintro (h | rfl)
    · refine str_ext ?_
      rw [dg_txt]
      exact (dv_uniq _ _ rfl ha hne h).2
    · decide +kernel
  · intro h
    by_cases hz : 0 < digitsVal z.cps.toList
    · refine .inl ?_
      have h2 := dg_head hz
      rw [← dg_txt, h] at h2
      exact h2
    · refine .inr ?_
      rw [show digitsVal z.cps.toList = 0 by omega] at h
      rw [← h]
      decide +kernel
theorem figs_num {n : Int} (h0 : 0 ≤ n) (h1 : n < 1000000) : figs (Str.ofString (toString n)) = true ∧ PySem.intText? (Str.ofString (toString n)) = some n := by
  refine ⟨?_, PySem.W.KIN.num_reads h0 (by omega)⟩
  have hl := (int_txt h0 h1).2
  obtain ⟨m, rfl⟩ := Int.eq_ofNat_of_zero_le h0
  have e := dg_txt m
  have hn : 1 ≤ (Str.ofString (toString (m : Int))).length := by
    have : (Str.ofString (toString (m : Int))).cps.toList.length = (Str.ofString (toString (m : Int))).length := Array.length_toList
    rw [e] at this
    have h2 := dg_ne m
    cases h3 : dg m with
    | nil => exact absurd h3 h2
    | cons a r => rw [h3, List.length_cons] at this; omega
  rw [figs_dg (by rw [e]; exact dg_digits m) hn hl, e, dv_dg]
  exact decide_eq_true rfl
theorem figs_all {z : Str} (h : figs z = true) : AllDigits z.cps.toList ∧ 1 ≤ z.length ∧ z.length ≤ 6 := by
  unfold figs at h
  simp only [Bool.and_eq_true, decide_eq_true_eq, List.all_eq_true] at h
  exact ⟨fun c hc => h.2 c hc, h.1.1.1, h.1.1.2⟩
/-! #### a line's two parts -/
theorem sp1 : (" " : Str) = ⟨#[32]⟩ := by decide +kernel
theorem part_cases (z : Str) : ((∀ i : Nat, z.cps.toList[i]? ≠ some 32) ∧ Txt.partition z " " = (z, Str.empty, Str.empty)) ∨ ∃ i : Nat, z.cps.toList[i]? = some 32 ∧ (∀ k, k < i → z.cps.toList[k]? ≠ some 32) ∧ (Txt.partition z " ").1.cps.toList = z.cps.toList.take i ∧ (Txt.partition z " ").2.2.cps.toList = z.cps.toList.drop (i + 1) := by
  rw [sp1]
  have hlz : z.cps.toList.length = z.length := Array.length_toList
  rcases partition_whole z ⟨#[32]⟩ with ⟨h, hn⟩ | ⟨i, h, hi, hn⟩
  · exact .inl ⟨fun i e => hn i ((StrLaws.subAt_one z 32 i).mpr e), h⟩
  · refine .inr ⟨i, (StrLaws.subAt_one z 32 i).mp hi, fun k hk e => hn k hk ((StrLaws.subAt_one z 32 k).mpr e), ?_, ?_⟩
    · rw [h]
      show (Builtin.Str.strSub z 0 i).cps.toList = _
      unfold Builtin.Str.strSub
      simp
    · rw [h]
      show (Builtin.Str.strSub z (i + (⟨#[32]⟩ : Str).length) z.length).cps.toList = _
      have e1 : (⟨#[32]⟩ : Str).length = 1 := rfl
      rw [e1]
      unfold Builtin.Str.strSub
      rw [Array.toList_extract]
      rw [List.extract_eq_drop_take, List.take_of_length_le]
      rw [List.length_drop]
      omega
theorem wordB_iff {w : Str} : wordB w = true ↔ isWord w := by
  unfold wordB isWord
  simp only [Bool.or_eq_true, decide_eq_true_eq, or_assoc]
theorem cut5 (z : Str) : (cutS z none (some 5)).cps.toList = z.cps.toList.take 5 := by
  have hlz : z.cps.toList.length = z.length := Array.length_toList
  unfold cutS
  show (z.cps.toList.drop (HT.sIx z.length 0 none)).take (HT.sIx z.length z.length (some ((5 : Nat) : Int)) - HT.sIx z.length 0 none) = _
  rw [HT.sIx_nat]
  show (z.cps.toList.drop 0).take (min 5 z.length - 0) = _
  rw [List.drop_zero, Nat.sub_zero, ← hlz, List.take_eq_take_iff]
  omega
theorem cut5r (z : Str) : (cutS z (some 5) none).cps.toList = z.cps.toList.drop 5 := by
  have hlz : z.cps.toList.length = z.length := Array.length_toList
  unfold cutS
  show (z.cps.toList.drop (HT.sIx z.length 0 (some ((5 : Nat) : Int)))).take (HT.sIx z.length z.length none - HT.sIx z.length 0 (some ((5 : Nat) : Int))) = _
  rw [HT.sIx_nat]
  show (z.cps.toList.drop (min 5 z.length)).take (z.length - min 5 z.length) = _
  rw [List.take_of_length_le (by rw [List.length_drop]; omega)]
  by_cases h : 5 ≤ z.length
  · rw [Nat.min_eq_left h]
  · rw [Nat.min_eq_right (by omega), List.drop_eq_nil_of_le (by omega), List.drop_eq_nil_of_le (by omega)]
theorem due_at {z w : Str} (hw : isWord w) (h : cutS z none (some 5) = w ++ " ") : (Txt.partition z " ").1 = w ∧ (Txt.partition z " ").2.2 = cutS z (some 5) none := by
  obtain ⟨l4, n32⟩ := isWord_len hw
  have e : z.cps.toList.take 5 = w.cps.toList ++ [32] := by
    rw [← cut5, h, append_cps, sp1]
  have h4 : z.cps.toList[4]? = some 32 := by
    have : (z.cps.toList.take 5)[4]? = some 32 := by
      rw [e, List.getElem?_append_right (by omega), l4]
      rfl
    rw [List.getElem?_take_of_lt (by decide)] at this
    exact this
  have hk : ∀ k, k < 4 → z.cps.toList[k]? ≠ some 32 := fun k hk e2 => by
    have : (z.cps.toList.take 5)[k]? = some 32 := by
      rw [List.getElem?_take_of_lt (by omega)]
      exact e2
    rw [e, List.getElem?_append_left (by omega)] at this
    exact n32 (List.mem_of_getElem? this)
  have t4 : z.cps.toList.take 4 = w.cps.toList := by
    have := congrArg (List.take 4) e
    rw [List.take_take] at this
    simpa [List.take_append, l4, List.take_of_length_le (Nat.le_of_eq l4)] using this
  rcases part_cases z with ⟨hn, _⟩ | ⟨i, hi, hn, p1, p2⟩
  · exact absurd h4 (hn 4)
  · have i4 : i = 4 := by
      rcases Nat.lt_trichotomy i 4 with h | h | h
      · exact absurd hi (hk i h)
      · exact h
      · exact absurd h4 (hn 4 h)
    subst i4
    exact ⟨str_ext (p1.trans t4), str_ext (p2.trans (cut5r z).symm)⟩
theorem read_at {z w : Str} (hw : isWord w) (h : cutS z none (some 5) = w ++ " ") : readV (.str z) = figs (cutS z (some 5) none) := by
  obtain ⟨h1, h2⟩ := due_at hw h
  unfold readV
  dsimp only
  rw [h1, h2, wordB_iff.mpr hw, Bool.true_and]
theorem read_no {z : Str} (h : ∀ w, isWord w → cutS z none (some 5) ≠ w ++ " ") : readV (.str z) = false := by
  cases e : readV (.str z) with
  | false => rfl
  | true =>
    unfold readV at e
    dsimp only at e
    rw [Bool.and_eq_true] at e
    have hw := wordB_iff.mp e.1
    obtain ⟨l4, n32⟩ := isWord_len hw
    rcases part_cases z with ⟨hn, hp⟩ | ⟨i, hi, hn, p1, p2⟩
    · have := (figs_all e.2).2.1
      rw [hp] at this
      exact absurd (show 1 ≤ Str.empty.length from this) (by decide)
    · refine absurd ?_ (h _ hw)
      refine str_ext ?_
      have hi2 := (List.getElem?_eq_some_iff.mp hi).1
      have i4 : i = 4 := by
        have := congrArg List.length p1
        rw [l4, List.length_take] at this
        omega
      subst i4
      rw [cut5, append_cps, p1, sp1]
      rw [List.take_succ, hi]
      rfl
/-- a step's line -/
theorem read_line {w : Str} {n : Int} (hw : isWord w) (h0 : 0 ≤ n) (h1 : n < 1000000) : readV (.str (lineOf w n)) = true ∧ (Txt.partition (lineOf w n) " ").1 = w ∧ (Txt.partition (lineOf w n) " ").2.2 = Str.ofString (toString n) ∧ (lineOf w n).length ≤ 11 := by
  obtain ⟨l4, n32⟩ := isWord_len hw
  have e : (lineOf w n).cps.toList = w.cps.toList ++ [32] ++ (Str.ofString (toString n)).cps.toList := by
    unfold lineOf
    rw [append_cps, append_cps, sp1]
  have c1 : cutS (lineOf w n) none (some 5) = w ++ " " := by
    refine str_ext ?_
    rw [cut5, append_cps, sp1, e]
    exact List.take_left' (by rw [List.length_append, l4]; rfl)
  have c2 : cutS (lineOf w n) (some 5) none = Str.ofString (toString n) := by
    refine str_ext ?_
    rw [cut5r, e]
    exact List.drop_left' (by rw [List.length_append, l4]; rfl)
  obtain ⟨d1, d2⟩ := due_at hw c1
  refine ⟨?_, d1, d2.trans c2, ?_⟩
  · rw [read_at hw c1, c2]
    exact (figs_num h0 h1).1
  · have : (lineOf w n).cps.toList.length = (lineOf w n).length := Array.length_toList
    rw [e] at this
    simp only [List.length_append, l4, List.length_cons, List.length_nil] at this
    have h2 := (int_txt h0 h1).2
    have h3 : (Str.ofString (toString n)).cps.toList.length = (Str.ofString (toString n)).length := Array.length_toList
    omega
end RP

namespace RP
open PySem PySem.Spec PyProof.Rows L2 L2H PySem.NumText
def rSix : V → List V → Hp → VK → Prop := fun x xs H Q => ∃ (a b : Str) (k : Nat) (rest : List Nat), x = .str a ∧ xs = [.str b] ∧ Builtin.Str.occurrences a b 0 a.length 1 = k :: rest ∧ Q (.int (k : Int)) H
theorem mt_six {X : Cx} : MtR X "str.index" rSix := by
  intro pins s σ H x xs v us Q I rx rs h
  obtain ⟨a, b, k, rest, rfl, rfl, q, w⟩ := h
  obtain ⟨t, rfl⟩ := rx
  cases rs with
  | cons r1 rs =>
    cases rs
    obtain ⟨u, rfl⟩ := r1
    exact PySem.SC.index q ⟨.int (k : Nat), H, I.tok _, ⟨_, rfl⟩, w⟩
theorem pe_sindex {X : Cx} {o e : Expr} {to te : TE} {apos pos : Pos} (ho : PE X o to) (he : PE X e te) (hs : starEach [e] X.env = [(false, eval e X.env)] := by rfl) (hbase : attributeBase o "index" X.env (eval o X.env) = eval o X.env := by rfl) (hline : (apos.endLine == pos.line) = true := by rfl) :
    PE X (.Call (.Attribute o "index" apos) [e] [] pos) (tM1 rSix to te) := pe_m1 PySem.F.slot_str_index PySem.F.type_str_index mt_six ho he hs hbase hline
theorem RDi : ∀ (x : V) (xs : List V) (H : Hp) (Q : VK), rSix x xs H Q = ∃ (a b : Str) (k : Nat) (rest : List Nat), x = .str a ∧ xs = [.str b] ∧ Builtin.Str.occurrences a b 0 a.length 1 = k :: rest ∧ Q (.int (k : Int)) H := fun _ _ _ _ => rfl
/-- for x in a tuple -/
theorem for_tcut {K : PySem.W.Frag} {tl : TE} {g : TG} {tb : TS} {D : Ends} {σ : L2.St} {H : Hp} (G : Addr → Hp → Prop) (xs : List V) (h1 : ∀ Z : VK, (∀ a H1, G a H1 → Z (.ref a) H1) → tl σ H Z) (Pv : Addr → Nat → L2.St → Hp → Prop) (h0 : ∀ a H1, G a H1 → SqT K H1 a xs ∧ Pv a 0 σ H1) (hl : ∀ a i σ H, i ≤ xs.length → Pv a i σ H → SqT K H a xs)
    (hs : ∀ a i x σ H, xs[i]? = some x → Pv a i σ H → g x σ H fun σ2 H2 => tb { D with nx := Pv a (i + 1), ct := Pv a (i + 1), bk := D.nx } σ2 H2) (hd : ∀ a σ H, Pv a xs.length σ H → D.nx σ H) : tFor (iTup K tl) g tb D σ H :=
  h1 _ fun a H1 q => ⟨a, rfl, ⟨xs, (h0 a H1 q).1⟩, for_tup (Pv a) (h0 a H1 q).2 (hl a) (hs a) (hd a)⟩
theorem tens : ∀ d : Nat, d < 10 → atI ("0123456789" : Str).cps.toList (d : Int) = some (48 + d) := by decide +kernel
theorem tensI : ∀ d : Nat, d < 10 → Builtin.Str.occurrences "0123456789" ⟨#[48 + d]⟩ 0 ("0123456789" : Str).length 1 = [d] := by decide +kernel
theorem dg_un (k : Nat) : dg k = (if k / 10 = 0 then [] else dg (k / 10)) ++ [48 + k % 10] := by
  by_cases h : k < 10
  · rw [dg_small h, if_pos (by omega), Nat.mod_eq_of_lt h]
    rfl
  · rw [if_neg (by omega)]
    exact dg_step (by omega)
theorem empty_iff {z : Str} : z = "" ↔ z.cps.toList = [] := by
  have e : ("" : Str).cps.toList = [] := by decide +kernel
  constructor
  · rintro rfl
    exact e
  · intro h
    exact str_ext (h.trans e.symm)
theorem fig_step {m k : Nat} {z : Str} (hm : m < 1000000) (hz : z.cps.toList = [] ∧ k = m ∨ z.cps.toList ≠ [] ∧ dg m = (if k = 0 then [] else dg k) ++ z.cps.toList) (hgo : 0 < k ∨ z.cps.toList = []) :
    atI ("0123456789" : Str).cps.toList ((k : Int) % 10) = some (48 + k % 10) ∧ (⟨#[48 + k % 10]⟩ : Str).length + z.length ≤ 16777216 ∧ ¬ ((⟨#[48 + k % 10]⟩ : Str) ++ z).cps.toList = [] ∧ dg m = (if k / 10 = 0 then [] else dg (k / 10)) ++ ((⟨#[48 + k % 10]⟩ : Str) ++ z).cps.toList ∧ k / 10 < k + (if z.cps.toList = [] then 1 else 0) := by
  have ec : ((⟨#[48 + k % 10]⟩ : Str) ++ z).cps.toList = [48 + k % 10] ++ z.cps.toList := append_cps _ _
  have l1 : (⟨#[48 + k % 10]⟩ : Str).length = 1 := rfl
  have lm : (dg m).length ≤ 6 := by
    rw [← dg_txt, Array.length_toList]
    exact (int_txt (i := (m : Int)) (by omega) (by omega)).2
  have lz : z.cps.toList.length = z.length := Array.length_toList
  refine ⟨?_, ?_, ?_, ?_, ?_⟩
  · have := tens (k % 10) (Nat.mod_lt _ (by decide))
    rw [← this]
    congr 1
  · rw [l1]
    rcases hz with ⟨h, _⟩ | ⟨_, h⟩
    · rw [h] at lz
      rw [← lz]
      decide
    · have := congrArg List.length h
      rw [List.length_append] at this
      omega
  · rw [ec]
    simp
  · rw [ec, ← List.append_assoc, ← dg_un]
    rcases hz with ⟨h, e⟩ | ⟨hn, h⟩
    · rw [h, e, List.append_nil]
    · have k0 := hgo.resolve_right hn
      rw [h, if_neg (by omega)]
  · rcases hgo with h | h
    · split <;> omega
    · rw [if_pos h]
      omega
abbrev s__law_figures : Stmt := top 26
abbrev N__law_figures : List Str := ["_law_number", "_law_figures_here"]
theorem sc__law_figures : FnScope N__law_figures ["_law_number"] (defScope s__law_figures) := ⟨rfl, rfl, rfl, by decide +kernel, rfl, by decide +kernel, by decide +kernel⟩
def sp__law_figures (K : PySem.W.Frag) : Sp := fun vs H Q E => ∃ n : Int, vs = [.int n] ∧ 0 ≤ n ∧ n < 1000000 ∧ Q (.str (Str.ofString (toString n))) H
theorem ok__law_figures {P : Program} {w : World} {K : PySem.W.Frag} {mg : Str → Option Value} {base : Heap} (F : FnP K ("_law_figures", none) "_law_figures" "_law_figures" s__law_figures) (hm : mg "_law_figures" = some (.ref (He.ga K "_law_figures"))) (bl : Blt mg) : Cal P w K mg base 1 "_law_figures" (sp__law_figures K) := by
  refine fn_cal F hm sc__law_figures (fun vs H Q E => by walk_at "len") (fun _ _ _ _ _ _ us hl => match us, hl with | [_], _ => rfl) (fun f cdv A outer s H vs Q E hr h => ?_)
  have hu := hu_of hr
  obtain ⟨n, rfl, h0, h1, q⟩ := h
  refine ⟨_, (pss_cons (ps_set (i := 1) sc__law_figures.nd rfl (Or.inl rfl) pe_str)
  (pss_cons (ps_while (passes_of rfl) (PW.pt (pw_or (pt_cmpR op_gt (pv 0) pe_int (nomark _)) (pw_or1 (pt_cmpR op_eq (pv 1) pe_str (nomark _)))))
  (pss_cons (ps_set (i := 1) sc__law_figures.nd rfl (Or.inl rfl) (pe_op op_add_str (pe_ix ix_strC pe_str (pe_op op_mod (pv 0) pe_int) (fun _ _ => rfl)) (pv 1)))
  (pss_one (ps_set (i := 0) sc__law_figures.nd rfl (Or.inl rfl) (pe_op op_fdiv (pv 0) pe_int)))))
  (pss_one (ps_ret (pv 1))))), ?_⟩
  walk_at "st0"
  obtain ⟨m, rfl⟩ := Int.eq_ofNat_of_zero_le h0
  refine seq_gen fun N_a h_a => ?_
  simp only [RDa, RDb, RDv, RDk, RDx, RDe, RDd, RDp, RDq, List.getElem?_cons_zero, List.getElem?_cons_succ, List.set_cons_zero, List.set_cons_succ, List.cons.injEq, List.cons_ne_nil, reduceCtorEq, exists_eq_left', exists_eq_left, exists_and_left, and_assoc, exists_const, true_and, and_true, if_true, if_false, false_and, and_false, exists_false, false_or, or_false, true_implies, false_implies, implies_true, forall_eq, forall_eq', Bool.false_eq_true, if_neg, decide_eq_true_eq, Bool.not_eq_true', decide_eq_false_iff_not, Bool.not_true, Bool.not_false, List.length_cons, List.length_nil, sizeLine_eq, Nat.reduceAdd, Nat.reduceLeDiff, Nat.reduceLT, Int.reduceLT, Int.reduceLE, Int.emod_nonneg, ne_eq, Int.reduceEq, not_false_eq_true, not_true_eq_false]
  refine h_a _ _ ?_
  refine seq_rel (fun σ1 H1 => H1 = H ∧ σ1 = [some (.int 0), some (.str (Str.ofString (toString (m : Int))))]) (fun N_b h_b => ?_) ?_
  · refine while_by (fun σ1 H1 => H1 = H ∧ ∃ (k : Nat) (z : Str), σ1 = [some (.int (k : Int)), some (.str z)] ∧ ((z.cps.toList = [] ∧ k = m) ∨ (z.cps.toList ≠ [] ∧ dg m = (if k = 0 then [] else dg k) ++ z.cps.toList)))
      (fun σ1 _ => match σ1 with | [some (.int k), some (.str z)] => k.toNat + (if z.cps.toList = [] then 1 else 0) | _ => 0) ?_ ?_ ?_
    · exact ⟨rfl, m, "", rfl, .inl ⟨by decide +kernel, rfl⟩⟩
    · rintro σ1 H1 ⟨rfl, k, z, rfl, hz⟩
      simp only [RDa, RDb, RDv, RDk, RDx, RDe, RDd, RDp, RDq, List.getElem?_cons_zero, List.getElem?_cons_succ, List.set_cons_zero, List.set_cons_succ, List.cons.injEq, List.cons_ne_nil, reduceCtorEq, exists_eq_left', exists_eq_left, exists_and_left, and_assoc, exists_const, true_and, and_true, if_true, if_false, false_and, and_false, exists_false, false_or, or_false, true_implies, false_implies, implies_true, forall_eq, forall_eq', Bool.false_eq_true, if_neg, decide_eq_true_eq, Bool.not_eq_true', decide_eq_false_iff_not, Bool.not_true, Bool.not_false, List.length_cons, List.length_nil, sizeLine_eq, Nat.reduceAdd, Nat.reduceLeDiff, Nat.reduceLT, Int.reduceLT, Int.reduceLE, Int.emod_nonneg, ne_eq, Int.reduceEq, not_false_eq_true, not_true_eq_false]
      have hm6 : m < 1000000 := by omega
      have l10 : ("0123456789" : Str).length ≤ 16777216 := by decide +kernel
      have kd : ((k : Int) / 10).toNat = k / 10 := by omega
      by_cases k0 : 0 < k
      · rw [if_pos (by omega)]
        obtain ⟨s1, s2, s3, s4, s5⟩ := fig_step hm6 hz (.inl k0)
        refine ⟨l10, _, s1, s2, ⟨k / 10, by omega, .inr ⟨s3, s4⟩⟩, ?_⟩
        rw [if_neg s3, kd, Int.toNat_natCast]
        exact s5
      · rw [if_neg (by omega)]
        by_cases z0 : z = ""
        · rw [if_pos z0]
          obtain ⟨s1, s2, s3, s4, s5⟩ := fig_step hm6 hz (.inr (empty_iff.mp z0))
          refine ⟨l10, _, s1, s2, ⟨k / 10, by omega, .inr ⟨s3, s4⟩⟩, ?_⟩
          rw [if_neg s3, kd, Int.toNat_natCast]
          exact s5
        · rw [if_neg z0]
          have e0 : k = 0 := by omega
          subst e0
          refine h_b _ _ ⟨rfl, ?_⟩
          have hz2 := hz.resolve_left fun h => z0 (empty_iff.mpr h.1)
          have : z = Str.ofString (toString (m : Int)) := str_ext (by rw [dg_txt, hz2.2]; rfl)
          rw [this]
          rfl
    · intro σ1 H1 Q1 Q2 hq hc
      simp only [RDa, RDb, RDv, RDk, RDx, RDe, RDd, RDp, RDq, List.getElem?_cons_zero, List.getElem?_cons_succ, List.set_cons_zero, List.set_cons_succ, List.cons.injEq, List.cons_ne_nil, reduceCtorEq, exists_eq_left', exists_eq_left, exists_and_left, and_assoc, exists_const, true_and, and_true, if_true, if_false, false_and, and_false, exists_false, false_or, or_false, true_implies, false_implies, implies_true, forall_eq, forall_eq', Bool.false_eq_true, if_neg, decide_eq_true_eq, Bool.not_eq_true', decide_eq_false_iff_not, Bool.not_true, Bool.not_false, List.length_cons, List.length_nil, sizeLine_eq, Nat.reduceAdd, Nat.reduceLeDiff, Nat.reduceLT, Int.reduceLT, Int.reduceLE, Int.emod_nonneg, ne_eq, Int.reduceEq, not_false_eq_true, not_true_eq_false] at hc
      simp only [RDa, RDb, RDv, RDk, RDx, RDe, RDd, RDp, RDq, List.getElem?_cons_zero, List.getElem?_cons_succ, List.set_cons_zero, List.set_cons_succ, List.cons.injEq, List.cons_ne_nil, reduceCtorEq, exists_eq_left', exists_eq_left, exists_and_left, and_assoc, exists_const, true_and, and_true, if_true, if_false, false_and, and_false, exists_false, false_or, or_false, true_implies, false_implies, implies_true, forall_eq, forall_eq', Bool.false_eq_true, if_neg, decide_eq_true_eq, Bool.not_eq_true', decide_eq_false_iff_not, Bool.not_true, Bool.not_false, List.length_cons, List.length_nil, sizeLine_eq, Nat.reduceAdd, Nat.reduceLeDiff, Nat.reduceLT, Int.reduceLT, Int.reduceLE, Int.emod_nonneg, ne_eq, Int.reduceEq, not_false_eq_true, not_true_eq_false]
      obtain ⟨v, e, i, rfl, h⟩ := hc
      refine ⟨_, e, i, rfl, ?_⟩
      by_cases c : 0 < i
      · rw [if_pos c] at h ⊢
        exact hq _ _ h
      · rw [if_neg c] at h ⊢
        obtain ⟨v, e2, sc, h⟩ := h
        exact ⟨v, e2, sc, hq _ _ h⟩
  rintro _ _ ⟨rfl, rfl⟩
  simp only [RDa, RDb, RDv, RDk, RDx, RDe, RDd, RDp, RDq, List.getElem?_cons_zero, List.getElem?_cons_succ, List.set_cons_zero, List.set_cons_succ, List.cons.injEq, List.cons_ne_nil, reduceCtorEq, exists_eq_left', exists_eq_left, exists_and_left, and_assoc, exists_const, true_and, and_true, if_true, if_false, false_and, and_false, exists_false, false_or, or_false, true_implies, false_implies, implies_true, forall_eq, forall_eq', Bool.false_eq_true, if_neg, decide_eq_true_eq, Bool.not_eq_true', decide_eq_false_iff_not, Bool.not_true, Bool.not_false, List.length_cons, List.length_nil, sizeLine_eq, Nat.reduceAdd, Nat.reduceLeDiff, Nat.reduceLT, Int.reduceLT, Int.reduceLE, Int.emod_nonneg, ne_eq, Int.reduceEq, not_false_eq_true, not_true_eq_false]
  exact q
abbrev s__law_spoilt : Stmt := top 31
abbrev N__law_spoilt : List Str := ["_law_line", "_law_cell", "_law_some", "_law_at_here", "_law_sign"]
theorem sc__law_spoilt : FnScope N__law_spoilt ["_law_line", "_law_cell"] (defScope s__law_spoilt) := ⟨rfl, rfl, rfl, by decide +kernel, rfl, by decide +kernel, by decide +kernel⟩
def sp__law_spoilt (K : PySem.W.Frag) : Sp := fun vs H Q E => ∃ (z : Str) (c : Int), vs = [.str z, .int c] ∧ z.length ≤ 20 ∧ 0 ≤ c ∧ c < 2147483647 ∧ ∀ y : Str, y.length ≤ 41 → Q (.str y) H
theorem ok__law_spoilt {P : Program} {w : World} {K : PySem.W.Frag} {mg : Str → Option Value} {base : Heap} (F : FnP K ("_law_spoilt", none) "_law_spoilt" "_law_spoilt" s__law_spoilt) (hm : mg "_law_spoilt" = some (.ref (He.ga K "_law_spoilt"))) (bl : Blt mg) : Cal P w K mg base 1 "_law_spoilt" (sp__law_spoilt K) := by
  refine fn_cal F hm sc__law_spoilt (fun vs H Q E => by walk_at "len") (fun _ _ _ _ _ _ us hl => match us, hl with | [_, _], _ => rfl) (fun f cdv A outer s H vs Q E hr h => ?_)
  have hu := hu_of hr
  obtain ⟨z, c, rfl, hl, h0, h1, q⟩ := h
  refine ⟨_, (pss_cons (ps_set (i := 2) sc__law_spoilt.nd rfl (Or.inl rfl) pe_str)
  (pss_cons (ps_set (i := 3) sc__law_spoilt.nd rfl (Or.inl rfl) (pe_op op_mod (pe_op op_fdiv (pv 1) pe_int) (pe_op op_add (pe_callB call_len_str (by rfl) (bl.len) (by decide +kernel) (pa_cons (pv 0) pa_nil)) pe_int)))
  (pss_cons (ps_set (i := 4) sc__law_spoilt.nd rfl (Or.inl rfl) (pe_ix ix_strC (pv 2) (pe_op op_mod (pe_op op_fdiv (pv 1) pe_int) (pe_callB call_len_str (by rfl) (bl.len) (by decide +kernel) (pa_cons (pv 2) pa_nil))) (fun _ _ => rfl)))
  (pss_cons (ps_if (pt_cmpR op_eq (pe_op op_mod (pv 1) pe_int) pe_int (nomark _))
  (pss_one (ps_ret (pe_op op_add_str (pe_op op_add_str (pe_slice sl_str (pv 0) po_none (po_some (pv 3))) (pv 4)) (pe_slice sl_str (pv 0) (po_some (pv 3)) po_none))))
  pss_nil)
  (pss_cons (ps_if (pt_cmpR op_eq (pe_op op_mod (pv 1) pe_int) pe_int (nomark _))
  (pss_one (ps_ret (pe_op op_add_str (pe_slice sl_str (pv 0) po_none (po_some (pv 3))) (pe_slice sl_str (pv 0) (po_some (pe_op op_add (pv 3) pe_int)) po_none))))
  pss_nil)
  (pss_cons (ps_if (pt_cmpR op_eq (pe_op op_mod (pv 1) pe_int) pe_int (nomark _))
  (pss_one (ps_ret (pe_op op_add_str (pe_op op_add_str (pe_slice sl_str (pv 0) po_none (po_some (pv 3))) (pv 4)) (pe_slice sl_str (pv 0) (po_some (pe_op op_add (pv 3) pe_int)) po_none))))
  pss_nil)
  (pss_one (ps_ret (pv 0))))))))), ?_⟩
  walk_at "st0"
  refine seq_gen fun N_a h_a => ?_
  simp only [RDa, RDb, RDv, RDk, RDx, RDe, RDd, RDp, RDq, List.getElem?_cons_zero, List.getElem?_cons_succ, List.set_cons_zero, List.set_cons_succ, List.cons.injEq, List.cons_ne_nil, reduceCtorEq, exists_eq_left', exists_eq_left, exists_and_left, and_assoc, exists_const, true_and, and_true, if_true, if_false, false_and, and_false, exists_false, false_or, or_false, true_implies, false_implies, implies_true, forall_eq, forall_eq', Bool.false_eq_true, if_neg, decide_eq_true_eq, Bool.not_eq_true', decide_eq_false_iff_not, Bool.not_true, Bool.not_false, List.length_cons, List.length_nil, sizeLine_eq, Nat.reduceAdd, Nat.reduceLeDiff, Nat.reduceLT, Int.reduceLT, Int.reduceLE, Int.emod_nonneg, ne_eq, Int.reduceEq, not_false_eq_true, not_true_eq_false]
  refine h_a _ _ ?_
  have hL : (" \n\t!\"#$&'()*+,-./0123456789:;<=>?@ABCDEFGHIJKLMNOPQRSTUVWXYZ[\\]^_abcdefghijklmnopqrstuvwxyz{|}~" : Str).length = 95 := by decide +kernel
  generalize (" \n\t!\"#$&'()*+,-./0123456789:;<=>?@ABCDEFGHIJKLMNOPQRSTUVWXYZ[\\]^_abcdefghijklmnopqrstuvwxyz{|}~" : Str) = L at *
  have cl : ∀ lo hi, (cutS z lo hi).length ≤ 20 := fun lo hi => by
    refine Nat.le_trans ?_ hl
    show (cutS z lo hi).cps.size ≤ z.cps.size
    unfold cutS
    rw [List.size_toArray, List.length_take, List.length_drop, Array.length_toList]
    omega
  simp only [RDa, RDb, RDv, RDk, RDx, RDe, RDd, RDp, RDq, List.getElem?_cons_zero, List.getElem?_cons_succ, List.set_cons_zero, List.set_cons_succ, List.cons.injEq, List.cons_ne_nil, reduceCtorEq, exists_eq_left', exists_eq_left, exists_and_left, and_assoc, exists_const, true_and, and_true, if_true, if_false, false_and, and_false, exists_false, false_or, or_false, true_implies, false_implies, implies_true, forall_eq, forall_eq', Bool.false_eq_true, if_neg, decide_eq_true_eq, Bool.not_eq_true', decide_eq_false_iff_not, Bool.not_true, Bool.not_false, List.length_cons, List.length_nil, sizeLine_eq, Nat.reduceAdd, Nat.reduceLeDiff, Nat.reduceLT, Int.reduceLT, Int.reduceLE, Int.emod_nonneg, ne_eq, Int.reduceEq, not_false_eq_true, not_true_eq_false]
  obtain ⟨s, hs⟩ : ∃ s, atI L.cps.toList (c / 80 % L.length) = some s := by
    have h3 := md_rng (c / 80) (show (0 : Int) < L.length by omega)
    generalize c / 80 % (L.length : Int) = k at h3
    obtain ⟨j, rfl⟩ := Int.eq_ofNat_of_zero_le h3.1
    have h4 : j < L.cps.toList.length := by
      rw [Array.length_toList]
      show j < L.length
      omega
    exact ⟨_, atI_nat (List.getElem?_eq_getElem h4)⟩
  refine ⟨by omega, by omega, by omega, by omega, by omega, s, hs, ?_⟩
  have ls : (⟨#[s]⟩ : Str).length = 1 := rfl
  generalize (⟨#[s]⟩ : Str) = y at ls
  have c1 := cl none (some (c / 4 % ((z.length : Int) + 1)))
  have c2 := cl (some (c / 4 % ((z.length : Int) + 1))) none
  have c3 := cl (some (c / 4 % ((z.length : Int) + 1) + 1)) none
  split
  · exact ⟨by omega, by omega, by omega, by rw [length_append]; omega, q _ (by rw [length_append, length_append]; omega)⟩
  split
  · exact ⟨by omega, by omega, by omega, q _ (by rw [length_append]; omega)⟩
  split
  · exact ⟨by omega, by omega, by omega, by rw [length_append]; omega, q _ (by rw [length_append, length_append]; omega)⟩
  exact q _ (by omega)
abbrev s__law_due : Stmt := top 27
abbrev N__law_due : List Str := ["_law_line", "_law_word_here", "_law_number", "_law_figures_here", "_law_sign"]
theorem sc__law_due : FnScope N__law_due ["_law_line"] (defScope s__law_due) := ⟨rfl, rfl, rfl, by decide +kernel, rfl, by decide +kernel, by decide +kernel⟩
def sp__law_due (K : PySem.W.Frag) : Sp := fun vs H Q E => ∃ z : Str, vs = [.str z] ∧ z.length ≤ 50 ∧
  (∀ n q H', readV (.str z) = true → PySem.intText? (Txt.partition z " ").2.2 = some n → Same H H' → H q = none → H' q = some (.tup [.str (Txt.partition z " ").1, .int n]) → Q (.ref q) H') ∧ (readV (.str z) = false → ∀ H', Same H H' → Q .non H')
theorem ok__law_due {P : Program} {w : World} {K : PySem.W.Frag} {mg : Str → Option Value} {base : Heap} (F : FnP K ("_law_due", none) "_law_due" "_law_due" s__law_due) (hm : mg "_law_due" = some (.ref (He.ga K "_law_due"))) (bl : Blt mg) (c__law_figures : Cal P w K mg base 1 "_law_figures" (sp__law_figures K)) : Cal P w K mg base 2 "_law_due" (sp__law_due K) := by
  refine fn_cal F hm sc__law_due (fun vs H Q E => by walk_at "len") (fun _ _ _ _ _ _ us hl => match us, hl with | [_], _ => rfl) (fun f cdv A outer s H vs Q E hr h => ?_)
  have hu := hu_of hr
  obtain ⟨z, rfl, hl, q1, q2⟩ := h
  refine ⟨_, (pss_cons (ps_for (passes_of rfl) rfl (pi_tup (pe_tup (pa_cons pe_str (pa_cons pe_str (pa_cons pe_str pa_nil))))) (pg_name (i := 1) sc__law_due.nd rfl (Or.inl rfl))
  (pss_one (ps_if (pt_cmpR op_eq (pe_slice sl_str (pv 0) po_none (po_some pe_int)) (pe_op op_add_str (pv 1) pe_str) (nomark _))
  (pss_cons (ps_set (i := 2) sc__law_due.nd rfl (Or.inl rfl) pe_int)
  (pss_cons (ps_set (i := 3) sc__law_due.nd rfl (Or.inl rfl) (pe_slice sl_str (pv 0) (po_some pe_int) po_none))
  (pss_cons (ps_for (passes_of rfl) rfl (pi_str (pv 3)) (pg_name (i := 4) sc__law_due.nd rfl (Or.inl rfl))
  (pss_cons (ps_if (pt_cmpR op_notIn_sign (pv 4) pe_str (by rfl))
  (pss_one (ps_ret pe_non))
  pss_nil)
  (pss_one (ps_set (i := 2) sc__law_due.nd rfl (Or.inl rfl) (pe_op op_add (pe_op op_mul pe_int (pv 2)) (pe_sindex pe_str (pv 4)))))))
  (pss_one (ps_if (PW.pt (pw_and (pt_chain op_le op_le pe_int (pe_callB call_len_str (by rfl) (bl.len) (by decide +kernel) (pa_cons (pv 3) pa_nil)) pe_int) (pw_and1 (pt_cmpR op_eq (pe_fn c__law_figures (hr.mono (by decide)) (L2N.takes_of rfl rfl rfl rfl) (pa_cons (pv 2) pa_nil)) (pv 3) (nomark _)))))
  (pss_one (ps_ret (pe_tup (pa_cons (pv 1) (pa_cons (pv 2) pa_nil)))))
  pss_nil)))))
  pss_nil)))
  (pss_one (ps_ret pe_non))), ?_⟩
  walk_at "st0"
  refine seq_rel (fun σ1 H1 => readV (.str z) = false ∧ Same H H1) (fun N_a h_a => ?_) ?_
  · refine for_tcut (fun a H2 => Same H H2 ∧ H2 a = some (.tup [.str "send", .str "hand", .str "tell"])) [.str "send", .str "hand", .str "tell"] (fun Z hZ => ?_)
      (fun a i σ H' => (∃ u1 u2 u3 u4, σ = [some (.str z), u1, u2, u3, u4]) ∧ Same H H' ∧ H' a = some (.tup [.str "send", .str "hand", .str "tell"]) ∧ ∀ w ∈ (["send", "hand", "tell"] : List Str).take i, cutS z none (some 5) ≠ w ++ " " ∨ readV (.str z) = false) ?_ ?_ ?_ ?_
    · simp only [RDa, RDb, RDv, RDk, RDx, RDe, RDd, RDp, RDq, List.getElem?_cons_zero, List.getElem?_cons_succ, List.set_cons_zero, List.set_cons_succ, List.cons.injEq, List.cons_ne_nil, reduceCtorEq, exists_eq_left', exists_eq_left, exists_and_left, and_assoc, exists_const, true_and, and_true, if_true, if_false, false_and, and_false, exists_false, false_or, or_false, true_implies, false_implies, implies_true, forall_eq, forall_eq', Bool.false_eq_true, if_neg, decide_eq_true_eq, Bool.not_eq_true', decide_eq_false_iff_not, Bool.not_true, Bool.not_false, List.length_cons, List.length_nil, sizeLine_eq, Nat.reduceAdd, Nat.reduceLeDiff, Nat.reduceLT, Int.reduceLT, Int.reduceLE, Int.emod_nonneg, ne_eq, Int.reduceEq, not_false_eq_true, not_true_eq_false]
      exact fun p np => hZ _ _ ⟨same_new np, upd_same⟩
    · rintro a H2 ⟨s2, h2⟩
      exact ⟨SqT.of h2, ⟨_, _, _, _, rfl⟩, s2, h2, by simp⟩
    · rintro a i σ H2 _ ⟨_, _, h2, _⟩
      exact SqT.of h2
    · rintro a i x σ H2 hx ⟨⟨u1, u2, u3, u4, rfl⟩, s2, h2, hall⟩
      obtain ⟨w, rfl, hw⟩ : ∃ w : Str, x = .str w ∧ (["send", "hand", "tell"] : List Str)[i]? = some w := by
        have : (["send", "hand", "tell"] : List Str)[i]?.map V.str = some x := by rw [← List.getElem?_map]; exact hx
        obtain ⟨w, h1, h2⟩ := Option.map_eq_some_iff.mp this
        exact ⟨w, h2.symm, h1⟩
      have iw : isWord w := by
        have := List.mem_of_getElem? hw
        simpa [isWord] using this
      simp only [RDa, RDb, RDv, RDk, RDx, RDe, RDd, RDp, RDq, List.getElem?_cons_zero, List.getElem?_cons_succ, List.set_cons_zero, List.set_cons_succ, List.cons.injEq, List.cons_ne_nil, reduceCtorEq, exists_eq_left', exists_eq_left, exists_and_left, and_assoc, exists_const, true_and, and_true, if_true, if_false, false_and, and_false, exists_false, false_or, or_false, true_implies, false_implies, implies_true, forall_eq, forall_eq', Bool.false_eq_true, if_neg, decide_eq_true_eq, Bool.not_eq_true', decide_eq_false_iff_not, Bool.not_true, Bool.not_false, List.length_cons, List.length_nil, sizeLine_eq, Nat.reduceAdd, Nat.reduceLeDiff, Nat.reduceLT, Int.reduceLT, Int.reduceLE, Int.emod_nonneg, ne_eq, Int.reduceEq, not_false_eq_true, not_true_eq_false]
      have hF : ("0123456789" : Str).cps.toList = [48, 49, 50, 51, 52, 53, 54, 55, 56, 57] := by decide +kernel
      have l4 : w.length = 4 := by
        have e4 := (isWord_len iw).1
        rw [Array.length_toList] at e4
        exact e4
      have lb : (" " : Str).length = 1 := by decide +kernel
      have lc : (cutS z (some 5) none).length ≤ z.length := by
        have e1 : (cutS z (some 5) none).cps.toList.length = (cutS z (some 5) none).length := Array.length_toList
        have e2 : z.cps.toList.length = z.length := Array.length_toList
        rw [← e1, cut5r, List.length_drop]
        omega
      have snoc : ∀ w' ∈ (["send", "hand", "tell"] : List Str).take (i + 1), w' ∈ (["send", "hand", "tell"] : List Str).take i ∨ w' = w := fun w' hm => by
        rw [List.take_succ, hw] at hm
        rcases List.mem_append.mp hm with h | h
        · exact .inl h
        · exact .inr (by simpa using h)
      refine ⟨by omega, by omega, ?_⟩
      by_cases hc : cutS z none (some 5) = w ++ " "
      · rw [if_pos hc]
        refine ⟨by omega, ?_⟩
        have hread := read_at iw hc
        obtain ⟨dp1, dp2⟩ := due_at iw hc
        have nxt : readV (.str z) = false → ∀ w' ∈ (["send", "hand", "tell"] : List Str).take (i + 1), ¬ cutS z none (some 5) = w' ++ " " ∨ readV (.str z) = false := fun h _ _ => .inr h
        have hlr : (cutS z (some 5) none).cps.toList.length = (cutS z (some 5) none).length := Array.length_toList
        generalize cutS z (some 5) none = y at *
        refine for_scut y (fun H3 => H2 = H3) (fun Z hZ => ?_) (fun j σ H3 => H2 = H3 ∧ (∃ u, σ = [some (.str z), some (.str w), some (.int ((digitsVal (y.cps.toList.take j) : Nat) : Int)), some (.str y), u]) ∧ AllDigits (y.cps.toList.take j)) ?_ ?_ ?_
        · simp only [RDa, RDb, RDv, RDk, RDx, RDe, RDd, RDp, RDq, List.getElem?_cons_zero, List.getElem?_cons_succ, List.set_cons_zero, List.set_cons_succ, List.cons.injEq, List.cons_ne_nil, reduceCtorEq, exists_eq_left', exists_eq_left, exists_and_left, and_assoc, exists_const, true_and, and_true, if_true, if_false, false_and, and_false, exists_false, false_or, or_false, true_implies, false_implies, implies_true, forall_eq, forall_eq', Bool.false_eq_true, if_neg, decide_eq_true_eq, Bool.not_eq_true', decide_eq_false_iff_not, Bool.not_true, Bool.not_false, List.length_cons, List.length_nil, sizeLine_eq, Nat.reduceAdd, Nat.reduceLeDiff, Nat.reduceLT, Int.reduceLT, Int.reduceLE, Int.emod_nonneg, ne_eq, Int.reduceEq, not_false_eq_true, not_true_eq_false]
          exact hZ _ rfl
        · rintro H3 rfl
          exact ⟨rfl, ⟨_, rfl⟩, by simp [AllDigits]⟩
        · rintro j c σ H3 hcj ⟨rfl, ⟨u, rfl⟩, all⟩
          simp only [RDa, RDb, RDv, RDk, RDx, RDe, RDd, RDp, RDq, List.getElem?_cons_zero, List.getElem?_cons_succ, List.set_cons_zero, List.set_cons_succ, List.cons.injEq, List.cons_ne_nil, reduceCtorEq, exists_eq_left', exists_eq_left, exists_and_left, and_assoc, exists_const, true_and, and_true, if_true, if_false, false_and, and_false, exists_false, false_or, or_false, true_implies, false_implies, implies_true, forall_eq, forall_eq', Bool.false_eq_true, if_neg, decide_eq_true_eq, Bool.not_eq_true', decide_eq_false_iff_not, Bool.not_true, Bool.not_false, List.length_cons, List.length_nil, sizeLine_eq, Nat.reduceAdd, Nat.reduceLeDiff, Nat.reduceLT, Int.reduceLT, Int.reduceLE, Int.emod_nonneg, ne_eq, Int.reduceEq, not_false_eq_true, not_true_eq_false, hF, RDi]
          have hdig : c ∈ [48, 49, 50, 51, 52, 53, 54, 55, 56, 57] ↔ 48 ≤ c ∧ c ≤ 57 := by
            simp only [List.mem_cons, List.not_mem_nil, or_false]
            omega
          refine ⟨c, rfl, ?_⟩
          by_cases hm : 48 ≤ c ∧ c ≤ 57
          · rw [if_neg (fun h => h (hdig.mpr hm))]
            have et : y.cps.toList.take (j + 1) = y.cps.toList.take j ++ [c] := by
              rw [List.take_succ, hcj]
              rfl
            obtain ⟨d, hd, rfl⟩ : ∃ d, d < 10 ∧ c = 48 + d := ⟨c - 48, by omega, by omega⟩
            rw [et, dv_snoc]
            refine ⟨.inl (by decide), ⟨_, rfl⟩, _, _, tensI d hd, by omega, ⟨_, rfl⟩, fun c' hc' => ?_⟩
            rcases List.mem_append.mp hc' with h | h
            · exact all c' h
            · have : c' = 48 + d := by simpa using h
              omega
          · rw [if_pos (fun h => hm (hdig.mp h))]
            refine q2 (hread.trans ?_) _ s2
            cases e : figs y with
            | false => rfl
            | true => exact absurd ((figs_all e).1 c (List.mem_of_getElem? hcj)) hm
        · rintro σ H3 ⟨rfl, ⟨u, rfl⟩, all⟩
          have all2 : AllDigits y.cps.toList := by rw [← hlr, List.take_length] at all; exact all
          rw [← hlr, List.take_length]
          simp only [RDa, RDb, RDv, RDk, RDx, RDe, RDd, RDp, RDq, List.getElem?_cons_zero, List.getElem?_cons_succ, List.set_cons_zero, List.set_cons_succ, List.cons.injEq, List.cons_ne_nil, reduceCtorEq, exists_eq_left', exists_eq_left, exists_and_left, and_assoc, exists_const, true_and, and_true, if_true, if_false, false_and, and_false, exists_false, false_or, or_false, true_implies, false_implies, implies_true, forall_eq, forall_eq', Bool.false_eq_true, if_neg, decide_eq_true_eq, Bool.not_eq_true', decide_eq_false_iff_not, Bool.not_true, Bool.not_false, List.length_cons, List.length_nil, sizeLine_eq, Nat.reduceAdd, Nat.reduceLeDiff, Nat.reduceLT, Int.reduceLT, Int.reduceLE, Int.emod_nonneg, ne_eq, Int.reduceEq, not_false_eq_true, not_true_eq_false, sp__law_figures]
          refine ⟨by omega, ?_⟩
          have out : readV (.str z) = false → (∃ x, u = x) ∧ Same H H2 ∧ H2 a = some (.tup [.str "send", .str "hand", .str "tell"]) ∧ ∀ w' ∈ (["send", "hand", "tell"] : List Str).take (i + 1), ¬ cutS z none (some 5) = w' ++ " " ∨ readV (.str z) = false := fun h => ⟨⟨_, rfl⟩, s2, h2, nxt h⟩
          by_cases y1 : 1 ≤ y.length
          · rw [if_pos (by omega)]
            by_cases y6 : y.length ≤ 6
            · rw [if_pos (by omega)]
              have lt := dv_lt _ _ rfl all2
              have le6 : 10 ^ y.cps.toList.length ≤ 10 ^ 6 := Nat.pow_le_pow_right (by decide) (by omega)
              refine ⟨by omega, by omega, ?_⟩
              have fd := figs_dg all2 y1 y6
              by_cases ey : Str.ofString (toString ((digitsVal y.cps.toList : Nat) : Int)) = y
              · rw [if_pos ey]
                rw [decide_eq_true ey] at fd
                refine fun p np => q1 _ _ _ (hread.trans fd) ?_ (s2.trans (same_new np)) (s2.free np) (by rw [dp1]; exact upd_same)
                rw [dp2]
                exact intText_digits all2 (fun e => by rw [e] at hlr; simp at hlr; omega) (by omega)
              · rw [if_neg ey]
                rw [decide_eq_false ey] at fd
                exact out (hread.trans fd)
            · rw [if_neg (by omega)]
              refine out (hread.trans ?_)
              cases e : figs y with
              | false => rfl
              | true => exact absurd (figs_all e).2.2 y6
          · rw [if_neg (by omega)]
            refine out (hread.trans ?_)
            cases e : figs y with
            | false => rfl
            | true => exact absurd (figs_all e).2.1 y1
      · rw [if_neg hc]
        refine ⟨⟨_, rfl⟩, s2, h2, fun w' hm => ?_⟩
        rcases snoc w' hm with h | rfl
        · exact hall w' h
        · exact .inl hc
    · rintro a σ H2 ⟨⟨u1, u2, u3, u4, rfl⟩, s2, h2, hall⟩
      refine h_a _ _ ⟨?_, s2⟩
      cases e : readV (.str z) with
      | false => rfl
      | true =>
        rw [e] at hall
        refine absurd (read_no fun w hw => ?_) (by rw [e]; decide)
        refine (hall w ?_).resolve_right (by decide)
        simpa [isWord] using hw
  rintro σ1 H1 ⟨hr, s1⟩
  simp only [RDa, RDb, RDv, RDk, RDx, RDe, RDd, RDp, RDq, List.getElem?_cons_zero, List.getElem?_cons_succ, List.set_cons_zero, List.set_cons_succ, List.cons.injEq, List.cons_ne_nil, reduceCtorEq, exists_eq_left', exists_eq_left, exists_and_left, and_assoc, exists_const, true_and, and_true, if_true, if_false, false_and, and_false, exists_false, false_or, or_false, true_implies, false_implies, implies_true, forall_eq, forall_eq', Bool.false_eq_true, if_neg, decide_eq_true_eq, Bool.not_eq_true', decide_eq_false_iff_not, Bool.not_true, Bool.not_false, List.length_cons, List.length_nil, sizeLine_eq, Nat.reduceAdd, Nat.reduceLeDiff, Nat.reduceLT, Int.reduceLT, Int.reduceLE, Int.emod_nonneg, ne_eq, Int.reduceEq, not_false_eq_true, not_true_eq_false]
  exact q2 hr _ s1
end RP

namespace RP
open PySem PySem.Spec PyProof.Rows L2 L2H
abbrev s_law : Stmt := top 32
abbrev N_law : List Str := ["_law_script", "_law_number", "_law_step", "_law_line", "_law_spoilt_here", "_law_odd", "_law_one", "_law_due_here"]
theorem sc_law : FnScope N_law ["_law_script"] (defScope s_law) := ⟨rfl, rfl, rfl, by decide +kernel, rfl, by decide +kernel, by decide +kernel⟩
theorem pick4 {x0 x1 x2 x3 : Int} {k : Int} (h0 : 0 ≤ k) (h1 : k < 4) : ∃ y, atI [V.int x0, .int x1, .int x2, .int x3] k = some (.int y) ∧ (y = x0 ∨ y = x1 ∨ y = x2 ∨ y = x3) := by
  rcases (show k = 0 ∨ k = 1 ∨ k = 2 ∨ k = 3 by omega) with rfl | rfl | rfl | rfl
  · exact ⟨_, rfl, .inl rfl⟩
  · exact ⟨_, rfl, .inr (.inl rfl)⟩
  · exact ⟨_, rfl, .inr (.inr (.inl rfl))⟩
  · exact ⟨_, rfl, .inr (.inr (.inr rfl))⟩
abbrev odd1 : List V := [.str "", .str "send", .str "send ", .str " send 1", .str "send 01", .str "send -1", .str "send +1", .str "send 1000000", .str "Send 1", .str "send 1 "]
abbrev odd2 : List V := [.str "tell 1 2", .str "hand  1", .str "hand one", .str "0 send", .str "send 1_0", .str "told 1"]
theorem part_len (z : Str) : (Txt.partition z " ").2.2.length ≤ z.length := by
  have e2 : z.cps.toList.length = z.length := Array.length_toList
  rcases part_cases z with ⟨_, h⟩ | ⟨i, _, _, _, h⟩
  · rw [h]
    exact Nat.zero_le _
  · have e1 : (Txt.partition z " ").2.2.cps.toList.length = (Txt.partition z " ").2.2.length := Array.length_toList
    rw [← e1, h, List.length_drop]
    omega
def shortV : V → Bool
  | .str z => decide (z.length ≤ 41)
  | _ => false
theorem odd_tup {H : Hp} {p : Addr} {xs : List V} (h : H p = some (.tup xs)) (hk : ∀ y ∈ xs, Kn H y) (hs : stepV H (.ref p) = false) : KnI H (.ref p) ∧ stepV H (.ref p) = false := by
  refine ⟨⟨by unfold Kn; rw [tyN_tup h]; rfl, fun a xs' e h2 y hy => ?_⟩, hs⟩
  cases e
  rw [seqO_tup h] at h2
  cases h2
  exact hk y hy
theorem odd_lst {H : Hp} {p : Addr} {xs : List V} (h : H p = some (.lst xs)) (hk : ∀ y ∈ xs, Kn H y) : KnI H (.ref p) ∧ stepV H (.ref p) = false := by
  refine ⟨⟨by unfold Kn; rw [tyN_lst h]; rfl, fun a xs' e h2 y hy => ?_⟩, ?_⟩
  · cases e
    rw [seqO_lst h] at h2
    cases h2
    exact hk y hy
  · unfold stepV
    dsimp only
    rw [h]
def sp_law (K : PySem.W.Frag) : Sp := fun vs H Q E => ∃ (a : Addr) (ns : List Int), vs = [.ref a] ∧ SqL K H a (ns.map V.int) ∧ ∀ H', Q (.bl true) H'
theorem ok_law {P : Program} {w : World} {K : PySem.W.Frag} {mg : Str → Option Value} {base : Heap} {f0 : Addr} {fd : FuncData} (F : FunD K "law" "law" (defArgs s_law) (defBody s_law) (defScope s_law) [] [] f0 fd) (bl : Blt mg) (c__law_at : ∀ (a : Addr) (ns : List Int), Cal P w K mg base 1 "_law_at" (sp__law_at K a ns)) (c__law_due : Cal P w K mg base 2 "_law_due" (sp__law_due K)) (c__law_figures : Cal P w K mg base 1 "_law_figures" (sp__law_figures K)) (c__law_mixed : Cal P w K mg base 1 "_law_mixed" (sp__law_mixed K)) (c__law_read : Cal P w K mg base 3 "_law_read" (sp__law_read K)) (c__law_shown : Cal P w K mg base 4 "_law_shown" (sp__law_shown K)) (c__law_spoilt : Cal P w K mg base 1 "_law_spoilt" (sp__law_spoilt K)) : FnOk P w K mg base (L2N.CX P w) 5 f0 fd ["_law_script"] (sp_law K) := by
  refine fn_law F sc_law (fun vs H Q E => by walk_at "len") (fun f cdv A outer s H vs Q E hr h => ?_)
  have hu := hu_of hr
  obtain ⟨a, ns, rfl, hS, q⟩ := h
  have so : PyData.strOk "told" = true ∧ PyData.strOk "refused" = true ∧ PyData.strOk "line" = true ∧ PyData.strOk "step" = true := by decide +kernel
  refine ⟨_, (pss_cons (ps_set (i := 1) sc_law.nd rfl (Or.inl rfl) (pe_op op_mod (pe_fn c__law_mixed (hr.mono (by decide)) (L2N.takes_of rfl rfl rfl rfl) (pa_cons (pe_fn (c__law_at a ns) (hr.mono (by decide)) (L2N.takes_of rfl rfl rfl rfl) (pa_cons (pv 0) (pa_cons pe_int pa_nil))) (pa_cons pe_int pa_nil))) (pe_pick (pa_cons pe_int (pa_cons pe_int (pa_cons pe_int (pa_cons pe_int pa_nil)))) (pe_op op_mod (pe_op op_fdiv (pe_fn (c__law_at a ns) (hr.mono (by decide)) (L2N.takes_of rfl rfl rfl rfl) (pa_cons (pv 0) (pa_cons pe_int pa_nil))) pe_int) pe_int) (fun _ _ => rfl))))
  (pss_cons (ps_set (i := 2) sc_law.nd rfl (Or.inl rfl) (pe_tup (pa_cons (pe_pick (pa_cons pe_str (pa_cons pe_str (pa_cons pe_str pa_nil))) (pe_op op_mod (pe_fn (c__law_at a ns) (hr.mono (by decide)) (L2N.takes_of rfl rfl rfl rfl) (pa_cons (pv 0) (pa_cons pe_int pa_nil))) pe_int) (fun _ _ => rfl)) (pa_cons (pv 1) pa_nil))))
  (pss_cons (ps_set (i := 3) sc_law.nd rfl (Or.inl rfl) (pe_op op_add_str (pe_op op_add_str (pe_ix ix_C (pv 2) pe_int (fun _ _ => rfl)) pe_str) (pe_fn c__law_figures (hr.mono (by decide)) (L2N.takes_of rfl rfl rfl rfl) (pa_cons (pv 1) pa_nil))))
  (pss_cons (ps_if (PW.pt (pw_or (pt_cmp (pc_neT hr.units (pe_fn c__law_shown (hr.mono (by decide)) (L2N.takes_of rfl rfl rfl rfl) (pa_cons (pv 2) pa_nil)) (pa_cons pe_str (pa_cons (pv 3) pa_nil)))) (pw_or1 (pt_cmp (pc_neT hr.units (pe_fn c__law_read (hr.mono (by decide)) (L2N.takes_of rfl rfl rfl rfl) (pa_cons (pv 3) pa_nil)) (pa_cons pe_str (pa_cons (pv 2) pa_nil)))))))
  (pss_one (ps_ret pe_bl))
  pss_nil)
  (pss_cons (ps_set (i := 4) sc_law.nd rfl (Or.inl rfl) (pe_fn c__law_spoilt (hr.mono (by decide)) (L2N.takes_of rfl rfl rfl rfl) (pa_cons (pv 3) (pa_cons (pe_fn c__law_mixed (hr.mono (by decide)) (L2N.takes_of rfl rfl rfl rfl) (pa_cons (pe_fn (c__law_at a ns) (hr.mono (by decide)) (L2N.takes_of rfl rfl rfl rfl) (pa_cons (pv 0) (pa_cons pe_int pa_nil))) (pa_cons pe_int pa_nil))) pa_nil))))
  (pss_cons (ps_set (i := 5) sc_law.nd rfl (Or.inl rfl) (pe_lst (pa_cons pe_str (pa_cons pe_str (pa_cons pe_str (pa_cons pe_str (pa_cons pe_str (pa_cons pe_str (pa_cons pe_str (pa_cons pe_str (pa_cons pe_str (pa_cons pe_str pa_nil))))))))))))
  (pss_cons (ps_set (i := 5) sc_law.nd rfl (Or.inl rfl) (pe_op op_cat (pv 5) (pe_lst (pa_cons pe_str (pa_cons pe_str (pa_cons pe_str (pa_cons pe_str (pa_cons pe_str (pa_cons pe_str pa_nil)))))))))
  (pss_cons (ps_for (passes_of rfl) rfl (pi_list (pe_lst (pa_cons (pv 4) (pa_cons (pe_ix ix_C (pv 5) (pe_op op_mod (pe_fn (c__law_at a ns) (hr.mono (by decide)) (L2N.takes_of rfl rfl rfl rfl) (pa_cons (pv 0) (pa_cons pe_int pa_nil))) pe_int) (fun _ _ => rfl)) pa_nil)))) (pg_name (i := 6) sc_law.nd rfl (Or.inl rfl))
  (pss_cons (ps_set (i := 7) sc_law.nd rfl (Or.inl rfl) (pe_tup (pa_cons pe_str (pa_cons pe_str pa_nil))))
  (pss_cons (ps_if (pt_cmpR op_notN (pe_fn c__law_due (hr.mono (by decide)) (L2N.takes_of rfl rfl rfl rfl) (pa_cons (pv 6) pa_nil)) pe_non (nomark _))
  (pss_one (ps_set (i := 7) sc_law.nd rfl (Or.inl rfl) (pe_tup (pa_cons pe_str (pa_cons (pe_fn c__law_due (hr.mono (by decide)) (L2N.takes_of rfl rfl rfl rfl) (pa_cons (pv 6) pa_nil)) pa_nil)))))
  pss_nil)
  (pss_one (ps_if (PW.pt (pw_or (pt_cmpR (op_neC hr.units) (pe_fn c__law_read (hr.mono (by decide)) (L2N.takes_of rfl rfl rfl rfl) (pa_cons (pv 6) pa_nil)) (pv 7) (nomark _)) (pw_or1 (pt_cmpR (op_neC hr.units) (pe_fn c__law_read (hr.mono (by decide)) (L2N.takes_of rfl rfl rfl rfl) (pa_cons (pv 6) pa_nil)) (pv 7) (nomark _)))))
  (pss_one (ps_ret pe_bl))
  pss_nil)))))
  (pss_cons (ps_set (i := 5) sc_law.nd rfl (Or.inl rfl) (pe_pick (pa_cons pe_non (pa_cons pe_int (pa_cons (pe_lst (pa_cons pe_str pa_nil)) (pa_cons (pe_tup (pa_cons pe_str (pa_cons pe_int pa_nil))) (pa_cons pe_bl (pa_cons pe_dnewK pa_nil)))))) (pe_op op_mod (pe_op op_fdiv (pe_fn (c__law_at a ns) (hr.mono (by decide)) (L2N.takes_of rfl rfl rfl rfl) (pa_cons (pv 0) (pa_cons pe_int pa_nil))) pe_int) pe_int) (fun _ _ => rfl)))
  (pss_cons (ps_if (pt_cmp (pc_neT hr.units (pe_fn c__law_read (hr.mono (by decide)) (L2N.takes_of rfl rfl rfl rfl) (pa_cons (pv 5) pa_nil)) (pa_cons pe_str (pa_cons pe_str pa_nil))))
  (pss_one (ps_ret pe_bl))
  pss_nil)
  (pss_cons (ps_set (i := 5) sc_law.nd rfl (Or.inl rfl) (pe_lst (pa_cons pe_non (pa_cons (pe_tup pa_nil) (pa_cons (pe_tup (pa_cons pe_str pa_nil)) (pa_cons (pe_tup (pa_cons pe_str (pa_cons pe_int (pa_cons pe_int pa_nil)))) (pa_cons (pe_lst (pa_cons pe_str (pa_cons pe_int pa_nil))) (pa_cons pe_str (pa_cons (pe_tup (pa_cons pe_str (pa_cons pe_int pa_nil))) (pa_cons (pe_tup (pa_cons pe_str (pa_cons pe_str pa_nil))) (pa_cons (pe_tup (pa_cons pe_str (pa_cons pe_non pa_nil))) pa_nil)))))))))))
  (pss_cons (ps_set (i := 5) sc_law.nd rfl (Or.inl rfl) (pe_op op_cat (pv 5) (pe_lst (pa_cons (pe_tup (pa_cons pe_str (pa_cons pe_bl pa_nil))) (pa_cons (pe_tup (pa_cons pe_str (pa_cons (pe_un un_neg pe_int) pa_nil))) (pa_cons (pe_tup (pa_cons pe_str (pa_cons pe_int pa_nil))) (pa_cons (pe_tup (pa_cons pe_str (pa_cons pe_int pa_nil))) (pa_cons (pe_tup (pa_cons pe_non (pa_cons pe_int pa_nil))) (pa_cons (pe_tup (pa_cons (pe_lst (pa_cons pe_str pa_nil)) (pa_cons pe_int pa_nil))) (pa_cons (pe_tup (pa_cons pe_str (pa_cons (pe_tup (pa_cons pe_int pa_nil)) pa_nil))) pa_nil))))))))))
  (pss_one (ps_ret (pe_cmp (pc_eqT hr.units (pe_fn c__law_shown (hr.mono (by decide)) (L2N.takes_of rfl rfl rfl rfl) (pa_cons (pe_ix ix_C (pv 5) (pe_op op_mod (pe_op op_fdiv (pe_fn (c__law_at a ns) (hr.mono (by decide)) (L2N.takes_of rfl rfl rfl rfl) (pa_cons (pv 0) (pa_cons pe_int pa_nil))) pe_int) pe_int) (fun _ _ => rfl)) pa_nil)) (pa_cons pe_str (pa_cons pe_str pa_nil)))))))))))))))))), ?_⟩
  walk_at "st0"
  refine seq_rel (fun σ1 H1 => ∃ n : Int, σ1 = [some (.ref a), some (.int n), none, none, none, none, none, none] ∧ 0 ≤ n ∧ n < 1000000 ∧ Same H H1) (fun N_a h_a => ?_) ?_
  · simp only [RDa, RDb, RDv, RDk, RDx, RDe, RDd, RDp, RDq, List.getElem?_cons_zero, List.getElem?_cons_succ, List.set_cons_zero, List.set_cons_succ, List.cons.injEq, List.cons_ne_nil, reduceCtorEq, exists_eq_left', exists_eq_left, exists_and_left, and_assoc, exists_const, true_and, and_true, if_true, if_false, false_and, and_false, exists_false, false_or, or_false, true_implies, false_implies, implies_true, forall_eq, forall_eq', Bool.false_eq_true, if_neg, decide_eq_true_eq, Bool.not_eq_true', decide_eq_false_iff_not, Bool.not_true, Bool.not_false, List.length_cons, List.length_nil, sizeLine_eq, Nat.reduceAdd, Nat.reduceLeDiff, Nat.reduceLT, Int.reduceLT, Int.reduceLE, Int.emod_nonneg, ne_eq, Int.reduceEq, not_false_eq_true, not_true_eq_false, sp__law_at, sp__law_mixed, hS]
    have h4 := md_rng (cell ns 0 / 3) (show (0 : Int) < 4 by decide)
    obtain ⟨y, hy, hc⟩ := pick4 (x0 := 10) (x1 := 1000) (x2 := 1000000) (x3 := 1) h4.1 h4.2
    have hm0 := mixed_pos (cell ns 1) 1
    have h5 : 0 < y ∧ y ≤ 1000000 := by omega
    have h6 := md_rng (mixed (cell ns 1) 1) h5.1
    exact ⟨_, hy, _, rfl, h5.1, h_a _ _ ⟨_, rfl, h6.1, by omega, Same.refl _⟩⟩
  rintro _ H1 ⟨n, rfl, n0, n1, s1⟩
  refine seq_rel (fun σ1 H2 => ∃ (z : Str) (t : Addr), σ1 = [some (.ref a), some (.int n), some (.ref t), none, none, none, none, none] ∧ isWord z ∧ H2 t = some (.tup [.str z, .int n]) ∧ Same H H2) (fun N_b h_b => ?_) ?_
  · simp only [RDa, RDb, RDv, RDk, RDx, RDe, RDd, RDp, RDq, List.getElem?_cons_zero, List.getElem?_cons_succ, List.set_cons_zero, List.set_cons_succ, List.cons.injEq, List.cons_ne_nil, reduceCtorEq, exists_eq_left', exists_eq_left, exists_and_left, and_assoc, exists_const, true_and, and_true, if_true, if_false, false_and, and_false, exists_false, false_or, or_false, true_implies, false_implies, implies_true, forall_eq, forall_eq', Bool.false_eq_true, if_neg, decide_eq_true_eq, Bool.not_eq_true', decide_eq_false_iff_not, Bool.not_true, Bool.not_false, List.length_cons, List.length_nil, sizeLine_eq, Nat.reduceAdd, Nat.reduceLeDiff, Nat.reduceLT, Int.reduceLT, Int.reduceLE, Int.emod_nonneg, ne_eq, Int.reduceEq, not_false_eq_true, not_true_eq_false, sp__law_at, s1.seq hS]
    have h3 := md_rng (cell ns 0) (show (0 : Int) < 3 by decide)
    obtain ⟨z, hz, hc⟩ : ∃ z : Str, atI [V.str "send", .str "hand", .str "tell"] (cell ns 0 % 3) = some (.str z) ∧ isWord z := by
      generalize cell ns 0 % 3 = k at h3
      rcases (show k = 0 ∨ k = 1 ∨ k = 2 by omega) with rfl | rfl | rfl
      · exact ⟨_, rfl, .inl rfl⟩
      · exact ⟨_, rfl, .inr (.inl rfl)⟩
      · exact ⟨_, rfl, .inr (.inr rfl)⟩
    exact ⟨_, hz, fun p np => h_b _ _ ⟨z, p, rfl, hc, upd_same, s1.trans (same_new np)⟩⟩
  rintro _ H2 ⟨z, t, rfl, hz, ht, s2⟩
  refine seq_gen fun N_c h_c => ?_
  simp only [RDa, RDb, RDv, RDk, RDx, RDe, RDd, RDp, RDq, List.getElem?_cons_zero, List.getElem?_cons_succ, List.set_cons_zero, List.set_cons_succ, List.cons.injEq, List.cons_ne_nil, reduceCtorEq, exists_eq_left', exists_eq_left, exists_and_left, and_assoc, exists_const, true_and, and_true, if_true, if_false, false_and, and_false, exists_false, false_or, or_false, true_implies, false_implies, implies_true, forall_eq, forall_eq', Bool.false_eq_true, if_neg, decide_eq_true_eq, Bool.not_eq_true', decide_eq_false_iff_not, Bool.not_true, Bool.not_false, List.length_cons, List.length_nil, sizeLine_eq, Nat.reduceAdd, Nat.reduceLeDiff, Nat.reduceLT, Int.reduceLT, Int.reduceLE, Int.emod_nonneg, ne_eq, Int.reduceEq, not_false_eq_true, not_true_eq_false, seqO_tup ht, sp__law_figures]
  obtain ⟨r1, r2, r3, r4⟩ := read_line hz n0 n1
  obtain ⟨r5, r6⟩ := figs_num n0 n1
  have l4 : z.length = 4 := by
    have e4 := (isWord_len hz).1
    rw [Array.length_toList] at e4
    exact e4
  have lb : (" " : Str).length = 1 := by decide +kernel
  have l6 := (int_txt n0 n1).2
  refine ⟨by omega, n0, n1, by rw [length_append]; omega, h_c _ _ ?_⟩
  clear h_c
  have el : z ++ " " ++ Str.ofString (toString n) = lineOf z n := rfl
  rw [el]
  have okl : PyData.strOk (lineOf z n) = true := by
    have o1 : PyData.strOk z = true := by rcases hz with rfl | rfl | rfl <;> decide +kernel
    have o2 : PyData.strOk " " = true := by decide +kernel
    have t1 : TxtOk 4 z := ⟨o1, by omega⟩
    have t2 : TxtOk 1 " " := ⟨o2, by omega⟩
    exact ((t1.app t2).app (int_txt n0 n1)).1
  have okz : PyData.strOk z = true := by rcases hz with rfl | rfl | rfl <;> decide +kernel
  have sv : stepV H2 (.ref t) = true := by
    unfold stepV
    dsimp only
    rw [ht]
    dsimp only
    rw [Bool.and_eq_true]
    refine ⟨?_, ?_⟩
    · rcases hz with rfl | rfl | rfl <;> decide +kernel
    · simp only [amongV, Bool.and_eq_true, decide_eq_true_eq]
      omega
  have kt : ∀ H', Same H2 H' → KnI H' (.ref t) := fun H' s => by
    refine ⟨by unfold Kn; rw [tyN_tup (s _ _ ht)]; rfl, fun a' xs e hx y hy => ?_⟩
    cases e
    rw [seqO_tup (s _ _ ht)] at hx
    cases hx
    simp only [List.mem_cons, List.not_mem_nil, or_false] at hy
    rcases hy with rfl | rfl <;> rfl
  refine seq_rel (fun σ1 H3 => σ1 = [some (.ref a), some (.int n), some (.ref t), some (.str (lineOf z n)), none, none, none, none] ∧ Same H2 H3) (fun N_d h_d => ?_) ?_
  · have kl : ∀ H' z', Kn H' (.str z') := fun _ _ => rfl
    have sh : SeqAt.shaped (.tuple [.str "told", .str (lineOf z n)]) = true := by simp [SeqAt.shaped, PyData.canLay0, PyData.canLayAll0, PyData.depth, PyData.depthAll, so, okl]
    have sh2 : SeqAt.shaped (.tuple [.str "told", .tuple [.str z, .int n]]) = true := by simp [SeqAt.shaped, PyData.canLay0, PyData.canLayAll0, PyData.depth, PyData.depthAll, so, okz]
    simp only [RDa, RDb, RDv, RDk, RDx, RDe, RDd, RDp, RDq, List.getElem?_cons_zero, List.getElem?_cons_succ, List.set_cons_zero, List.set_cons_succ, List.cons.injEq, List.cons_ne_nil, reduceCtorEq, exists_eq_left', exists_eq_left, exists_and_left, and_assoc, exists_const, true_and, and_true, if_true, if_false, false_and, and_false, exists_false, false_or, or_false, true_implies, false_implies, implies_true, forall_eq, forall_eq', Bool.false_eq_true, if_neg, decide_eq_true_eq, Bool.not_eq_true', decide_eq_false_iff_not, Bool.not_true, Bool.not_false, List.length_cons, List.length_nil, sizeLine_eq, Nat.reduceAdd, Nat.reduceLeDiff, Nat.reduceLT, Int.reduceLT, Int.reduceLE, Int.emod_nonneg, ne_eq, Int.reduceEq, not_false_eq_true, not_true_eq_false]
    refine ⟨.ref t, rfl, kt _ (Same.refl _), fun a' z' n' q1 H3 e ha hs s3 nq hq => ?_, fun hs => by rw [sv] at hs; cases hs⟩
    cases e
    rw [ht] at ha
    cases ha
    simp only [RDa, RDb, RDv, RDk, RDx, RDe, RDd, RDp, RDq, List.getElem?_cons_zero, List.getElem?_cons_succ, List.set_cons_zero, List.set_cons_succ, List.cons.injEq, List.cons_ne_nil, reduceCtorEq, exists_eq_left', exists_eq_left, exists_and_left, and_assoc, exists_const, true_and, and_true, if_true, if_false, false_and, and_false, exists_false, false_or, or_false, true_implies, false_implies, implies_true, forall_eq, forall_eq', Bool.false_eq_true, if_neg, decide_eq_true_eq, Bool.not_eq_true', decide_eq_false_iff_not, Bool.not_true, Bool.not_false, List.length_cons, List.length_nil, sizeLine_eq, Nat.reduceAdd, Nat.reduceLeDiff, Nat.reduceLT, Int.reduceLT, Int.reduceLE, Int.emod_nonneg, ne_eq, Int.reduceEq, not_false_eq_true, not_true_eq_false, dat_tup hq, sh, eqv_self, PyData.canLay0, PyData.canLayAll0, Bool.and_self, so, okl]
    refine ⟨.str (lineOf z n), rfl, kl _ _, fun z' e => ?_, fun z' n' t2 q2 H4 e hr hn s4 nq2 ht2 hq2 => ?_, fun hr => by rw [r1] at hr; cases hr⟩
    · cases e
      have : (Txt.partition (lineOf z n) " ").2.2.length ≤ 1000 := by rw [r3]; omega
      exact ⟨by omega, this⟩
    · cases e
      rw [r3, r6] at hn
      cases hn
      rw [r2] at ht2
      simp only [RDa, RDb, RDv, RDk, RDx, RDe, RDd, RDp, RDq, List.getElem?_cons_zero, List.getElem?_cons_succ, List.set_cons_zero, List.set_cons_succ, List.cons.injEq, List.cons_ne_nil, reduceCtorEq, exists_eq_left', exists_eq_left, exists_and_left, and_assoc, exists_const, true_and, and_true, if_true, if_false, false_and, and_false, exists_false, false_or, or_false, true_implies, false_implies, implies_true, forall_eq, forall_eq', Bool.false_eq_true, if_neg, decide_eq_true_eq, Bool.not_eq_true', decide_eq_false_iff_not, Bool.not_true, Bool.not_false, List.length_cons, List.length_nil, sizeLine_eq, Nat.reduceAdd, Nat.reduceLeDiff, Nat.reduceLT, Int.reduceLT, Int.reduceLE, Int.emod_nonneg, ne_eq, Int.reduceEq, not_false_eq_true, not_true_eq_false, dat_tup hq2, dat_tup ht2, dat_tup (s4 _ _ (s3 _ _ ht)), sh2, eqv_self, PyData.canLay0, PyData.canLayAll0, Bool.and_self, so, okz]
      exact h_d _ _ ⟨rfl, s3.trans s4⟩
  rintro _ H3 ⟨rfl, s3⟩
  have s13 := s2.trans s3
  refine seq_rel (fun σ1 H4 => ∃ y : Str, σ1 = [some (.ref a), some (.int n), some (.ref t), some (.str (lineOf z n)), some (.str y), none, none, none] ∧ y.length ≤ 41 ∧ Same H3 H4) (fun N_e h_e => ?_) ?_
  · simp only [RDa, RDb, RDv, RDk, RDx, RDe, RDd, RDp, RDq, List.getElem?_cons_zero, List.getElem?_cons_succ, List.set_cons_zero, List.set_cons_succ, List.cons.injEq, List.cons_ne_nil, reduceCtorEq, exists_eq_left', exists_eq_left, exists_and_left, and_assoc, exists_const, true_and, and_true, if_true, if_false, false_and, and_false, exists_false, false_or, or_false, true_implies, false_implies, implies_true, forall_eq, forall_eq', Bool.false_eq_true, if_neg, decide_eq_true_eq, Bool.not_eq_true', decide_eq_false_iff_not, Bool.not_true, Bool.not_false, List.length_cons, List.length_nil, sizeLine_eq, Nat.reduceAdd, Nat.reduceLeDiff, Nat.reduceLT, Int.reduceLT, Int.reduceLE, Int.emod_nonneg, ne_eq, Int.reduceEq, not_false_eq_true, not_true_eq_false, sp__law_at, sp__law_mixed, s13.seq hS, sp__law_spoilt]
    have hm0 := mixed_pos (cell ns 2) 2
    have hm1 : mixed (cell ns 2) 2 < 2147483647 := Int.emod_lt_of_pos _ (by decide)
    exact ⟨by omega, hm0, hm1, fun y hy => h_e _ _ ⟨y, rfl, hy, Same.refl _⟩⟩
  rintro _ H4 ⟨y, rfl, hy, s4⟩
  have s14 := s13.trans s4
  refine seq_gen fun N_f h_f => ?_
  simp only [RDa, RDb, RDv, RDk, RDx, RDe, RDd, RDp, RDq, List.getElem?_cons_zero, List.getElem?_cons_succ, List.set_cons_zero, List.set_cons_succ, List.cons.injEq, List.cons_ne_nil, reduceCtorEq, exists_eq_left', exists_eq_left, exists_and_left, and_assoc, exists_const, true_and, and_true, if_true, if_false, false_and, and_false, exists_false, false_or, or_false, true_implies, false_implies, implies_true, forall_eq, forall_eq', Bool.false_eq_true, if_neg, decide_eq_true_eq, Bool.not_eq_true', decide_eq_false_iff_not, Bool.not_true, Bool.not_false, List.length_cons, List.length_nil, sizeLine_eq, Nat.reduceAdd, Nat.reduceLeDiff, Nat.reduceLT, Int.reduceLT, Int.reduceLE, Int.emod_nonneg, ne_eq, Int.reduceEq, not_false_eq_true, not_true_eq_false]
  intro p1 n_p1
  generalize e_H5 : upd H4 p1 (.lst odd1) = H5
  have a_H5 : H5 p1 = some (.lst odd1) := by rw [← e_H5]; exact upd_same
  have s_H5 : Same H4 H5 := by rw [← e_H5]; exact same_new n_p1
  refine h_f _ _ ?_
  clear h_f
  refine seq_gen fun N_g h_g => ?_
  simp only [RDa, RDb, RDv, RDk, RDx, RDe, RDd, RDp, RDq, List.getElem?_cons_zero, List.getElem?_cons_succ, List.set_cons_zero, List.set_cons_succ, List.cons.injEq, List.cons_ne_nil, reduceCtorEq, exists_eq_left', exists_eq_left, exists_and_left, and_assoc, exists_const, true_and, and_true, if_true, if_false, false_and, and_false, exists_false, false_or, or_false, true_implies, false_implies, implies_true, forall_eq, forall_eq', Bool.false_eq_true, if_neg, decide_eq_true_eq, Bool.not_eq_true', decide_eq_false_iff_not, Bool.not_true, Bool.not_false, List.length_cons, List.length_nil, sizeLine_eq, Nat.reduceAdd, Nat.reduceLeDiff, Nat.reduceLT, Int.reduceLT, Int.reduceLE, Int.emod_nonneg, ne_eq, Int.reduceEq, not_false_eq_true, not_true_eq_false, a_H5]
  intro p2 n_p2
  generalize e_H6 : upd H5 p2 (.lst odd2) = H6
  have a_H6 : H6 p2 = some (.lst odd2) := by rw [← e_H6]; exact upd_same
  have s_H6 : Same H5 H6 := by rw [← e_H6]; exact same_new n_p2
  refine ⟨_, s_H6 _ _ a_H5, _, a_H6, by decide, ?_⟩
  intro p3 n_p3
  generalize e_H7 : upd H6 p3 (.lst (odd1 ++ odd2)) = H7
  have a_H7 : H7 p3 = some (.lst (odd1 ++ odd2)) := by rw [← e_H7]; exact upd_same
  have s_H7 : Same H6 H7 := by rw [← e_H7]; exact same_new n_p3
  refine h_g _ _ ?_
  clear h_g
  have s17 := (s14.trans s_H5).trans (s_H6.trans s_H7)
  have hS7 := s17.seq hS
  obtain ⟨y2, hy2, hy3⟩ : ∃ y2 : Str, atI (odd1 ++ odd2) (cell ns 3 % 16) = some (.str y2) ∧ y2.length ≤ 41 := by
    have h3 := md_rng (cell ns 3) (show (0 : Int) < 16 by decide)
    generalize cell ns 3 % 16 = k at h3
    obtain ⟨j, rfl⟩ := Int.eq_ofNat_of_zero_le h3.1
    have hl : (odd1 ++ odd2).length = 16 := rfl
    have h4 : j < (odd1 ++ odd2).length := by omega
    have hall : (odd1 ++ odd2).all shortV = true := by decide +kernel
    have h5 := List.all_eq_true.mp hall _ (List.getElem_mem h4)
    have h6 := atI_nat (List.getElem?_eq_getElem h4)
    revert h5 h6
    generalize (odd1 ++ odd2)[j] = x
    cases x <;> intro h5 h6
    case str z' => exact ⟨z', h6, by simpa [shortV] using h5⟩
    all_goals cases h5
  refine seq_rel (fun σ1 H8 => (∃ u6 u7, σ1 = [some (.ref a), some (.int n), some (.ref t), some (.str (lineOf z n)), some (.str y), some (.ref p3), u6, u7]) ∧ Same H7 H8) (fun N_h h_h => ?_) ?_
  · refine for_lcut (fun la H8 => Same H7 H8 ∧ H8 la = some (.lst [.str y, .str y2])) [.str y, .str y2] (fun Z hZ => ?_)
      (fun la i σ H8 => (∃ u6 u7, σ = [some (.ref a), some (.int n), some (.ref t), some (.str (lineOf z n)), some (.str y), some (.ref p3), u6, u7]) ∧ Same H7 H8 ∧ H8 la = some (.lst [.str y, .str y2])) ?_ ?_ ?_ ?_
    · simp only [RDa, RDb, RDv, RDk, RDx, RDe, RDd, RDp, RDq, List.getElem?_cons_zero, List.getElem?_cons_succ, List.set_cons_zero, List.set_cons_succ, List.cons.injEq, List.cons_ne_nil, reduceCtorEq, exists_eq_left', exists_eq_left, exists_and_left, and_assoc, exists_const, true_and, and_true, if_true, if_false, false_and, and_false, exists_false, false_or, or_false, true_implies, false_implies, implies_true, forall_eq, forall_eq', Bool.false_eq_true, if_neg, decide_eq_true_eq, Bool.not_eq_true', decide_eq_false_iff_not, Bool.not_true, Bool.not_false, List.length_cons, List.length_nil, sizeLine_eq, Nat.reduceAdd, Nat.reduceLeDiff, Nat.reduceLT, Int.reduceLT, Int.reduceLE, Int.emod_nonneg, ne_eq, Int.reduceEq, not_false_eq_true, not_true_eq_false, sp__law_at, hS7, seqO_lst a_H7, hy2]
      exact fun la nla => hZ _ _ ⟨same_new nla, upd_same⟩
    · rintro la H8 ⟨s8, h8⟩
      exact ⟨SqL.of h8, ⟨_, _, rfl⟩, s8, h8⟩
    · rintro la i σ H8 _ ⟨_, _, h8⟩
      exact SqL.of h8
    · rintro la i x σ H8 hx ⟨⟨u6, u7, rfl⟩, s8, h8⟩
      obtain ⟨y0, rfl, ly⟩ : ∃ y0 : Str, x = .str y0 ∧ y0.length ≤ 41 := by
        have hm := List.mem_of_getElem? hx
        simp only [List.mem_cons, List.not_mem_nil, or_false] at hm
        rcases hm with rfl | rfl
        · exact ⟨_, rfl, hy⟩
        · exact ⟨_, rfl, hy3⟩
      refine seq_gen fun N_i h_i => ?_
      simp only [RDa, RDb, RDv, RDk, RDx, RDe, RDd, RDp, RDq, List.getElem?_cons_zero, List.getElem?_cons_succ, List.set_cons_zero, List.set_cons_succ, List.cons.injEq, List.cons_ne_nil, reduceCtorEq, exists_eq_left', exists_eq_left, exists_and_left, and_assoc, exists_const, true_and, and_true, if_true, if_false, false_and, and_false, exists_false, false_or, or_false, true_implies, false_implies, implies_true, forall_eq, forall_eq', Bool.false_eq_true, if_neg, decide_eq_true_eq, Bool.not_eq_true', decide_eq_false_iff_not, Bool.not_true, Bool.not_false, List.length_cons, List.length_nil, sizeLine_eq, Nat.reduceAdd, Nat.reduceLeDiff, Nat.reduceLT, Int.reduceLT, Int.reduceLE, Int.emod_nonneg, ne_eq, Int.reduceEq, not_false_eq_true, not_true_eq_false]
      intro d0 n_d0
      generalize e_H9 : upd H8 d0 (.tup [.str "refused", .str "line"]) = H9
      have a_H9 : H9 d0 = some (.tup [.str "refused", .str "line"]) := by rw [← e_H9]; exact upd_same
      have s_H9 : Same H8 H9 := by rw [← e_H9]; exact same_new n_d0
      refine h_i _ _ ?_
      clear h_i
      have kl : ∀ H' z', Kn H' (.str z') := fun _ _ => rfl
      have lp : ∀ z', V.str y0 = .str z' → z'.length ≤ 1000 ∧ (Txt.partition z' " ").2.2.length ≤ 1000 := fun z' e => by
        cases e
        exact ⟨by omega, Nat.le_trans (part_len y0) (by omega)⟩
      have shr : SeqAt.shaped (.tuple [.str "refused", .str "line"]) = true := by simp [SeqAt.shaped, PyData.canLay0, PyData.canLayAll0, PyData.depth, PyData.depthAll, so]
      have clr : PyData.canLay0 (.tuple [.str "refused", .str "line"]) = true := by simp [PyData.canLay0, PyData.canLayAll0, so]
      have okp : readV (.str y0) = true → PyData.strOk (Txt.partition y0 " ").1 = true := fun h => by
        unfold readV at h
        dsimp only at h
        rw [Bool.and_eq_true] at h
        rcases wordB_iff.mp h.1 with e | e | e <;> rw [e] <;> decide +kernel
      refine seq_rel (fun σ1 H10 => ∃ dd D, σ1 = [some (.ref a), some (.int n), some (.ref t), some (.str (lineOf z n)), some (.str y), some (.ref p3), some (.str y0), some (.ref dd)] ∧ Same H9 H10 ∧ dat H10 8 (.ref dd) = some D ∧ SeqAt.shaped D = true ∧ PyData.canLay0 D = true ∧
        (readV (.str y0) = false ∧ D = .tuple [.str "refused", .str "line"] ∨ readV (.str y0) = true ∧ ∃ n0, PySem.intText? (Txt.partition y0 " ").2.2 = some n0 ∧ D = .tuple [.str "told", .tuple [.str (Txt.partition y0 " ").1, .int n0]])) (fun N_k h_k => ?_) ?_
      · simp only [RDa, RDb, RDv, RDk, RDx, RDe, RDd, RDp, RDq, List.getElem?_cons_zero, List.getElem?_cons_succ, List.set_cons_zero, List.set_cons_succ, List.cons.injEq, List.cons_ne_nil, reduceCtorEq, exists_eq_left', exists_eq_left, exists_and_left, and_assoc, exists_const, true_and, and_true, if_true, if_false, false_and, and_false, exists_false, false_or, or_false, true_implies, false_implies, implies_true, forall_eq, forall_eq', Bool.false_eq_true, if_neg, decide_eq_true_eq, Bool.not_eq_true', decide_eq_false_iff_not, Bool.not_true, Bool.not_false, List.length_cons, List.length_nil, sizeLine_eq, Nat.reduceAdd, Nat.reduceLeDiff, Nat.reduceLT, Int.reduceLT, Int.reduceLE, Int.emod_nonneg, ne_eq, Int.reduceEq, not_false_eq_true, not_true_eq_false]
        refine ⟨y0, rfl, by omega, fun n0 q0 H10 hr hn s10 nq hq => ?_, fun hr H10 s10 => ?_⟩
        · simp only [RDa, RDb, RDv, RDk, RDx, RDe, RDd, RDp, RDq, List.getElem?_cons_zero, List.getElem?_cons_succ, List.set_cons_zero, List.set_cons_succ, List.cons.injEq, List.cons_ne_nil, reduceCtorEq, exists_eq_left', exists_eq_left, exists_and_left, and_assoc, exists_const, true_and, and_true, if_true, if_false, false_and, and_false, exists_false, false_or, or_false, true_implies, false_implies, implies_true, forall_eq, forall_eq', Bool.false_eq_true, if_neg, decide_eq_true_eq, Bool.not_eq_true', decide_eq_false_iff_not, Bool.not_true, Bool.not_false, List.length_cons, List.length_nil, sizeLine_eq, Nat.reduceAdd, Nat.reduceLeDiff, Nat.reduceLT, Int.reduceLT, Int.reduceLE, Int.emod_nonneg, ne_eq, Int.reduceEq, not_false_eq_true, not_true_eq_false]
          refine ⟨y0, rfl, by omega, fun n1 q1 H11 hr1 hn1 s11 nq1 hq1 => ?_, fun hr1 => by rw [hr] at hr1; cases hr1⟩
          rw [hn] at hn1
          cases hn1
          intro pt n_pt
          generalize e_H12 : upd H11 pt (.tup [.str "told", .ref q1]) = H12
          have a_H12 : H12 pt = some (.tup [.str "told", .ref q1]) := by rw [← e_H12]; exact upd_same
          have s_H12 : Same H11 H12 := by rw [← e_H12]; exact same_new n_pt
          refine h_k _ _ ⟨pt, _, rfl, (s10.trans s11).trans s_H12, ?_, ?_, ?_, .inr ⟨hr, n0, hn, rfl⟩⟩
          · simp only [RDa, RDb, RDv, RDk, RDx, RDe, RDd, RDp, RDq, List.getElem?_cons_zero, List.getElem?_cons_succ, List.set_cons_zero, List.set_cons_succ, List.cons.injEq, List.cons_ne_nil, reduceCtorEq, exists_eq_left', exists_eq_left, exists_and_left, and_assoc, exists_const, true_and, and_true, if_true, if_false, false_and, and_false, exists_false, false_or, or_false, true_implies, false_implies, implies_true, forall_eq, forall_eq', Bool.false_eq_true, if_neg, decide_eq_true_eq, Bool.not_eq_true', decide_eq_false_iff_not, Bool.not_true, Bool.not_false, List.length_cons, List.length_nil, sizeLine_eq, Nat.reduceAdd, Nat.reduceLeDiff, Nat.reduceLT, Int.reduceLT, Int.reduceLE, Int.emod_nonneg, ne_eq, Int.reduceEq, not_false_eq_true, not_true_eq_false, dat_tup a_H12, dat_tup (s_H12 _ _ hq1)]
          · simp [SeqAt.shaped, PyData.canLay0, PyData.canLayAll0, PyData.depth, PyData.depthAll, so, okp hr]
          · simp [PyData.canLay0, PyData.canLayAll0, so, okp hr]
        · simp only [RDa, RDb, RDv, RDk, RDx, RDe, RDd, RDp, RDq, List.getElem?_cons_zero, List.getElem?_cons_succ, List.set_cons_zero, List.set_cons_succ, List.cons.injEq, List.cons_ne_nil, reduceCtorEq, exists_eq_left', exists_eq_left, exists_and_left, and_assoc, exists_const, true_and, and_true, if_true, if_false, false_and, and_false, exists_false, false_or, or_false, true_implies, false_implies, implies_true, forall_eq, forall_eq', Bool.false_eq_true, if_neg, decide_eq_true_eq, Bool.not_eq_true', decide_eq_false_iff_not, Bool.not_true, Bool.not_false, List.length_cons, List.length_nil, sizeLine_eq, Nat.reduceAdd, Nat.reduceLeDiff, Nat.reduceLT, Int.reduceLT, Int.reduceLE, Int.emod_nonneg, ne_eq, Int.reduceEq, not_false_eq_true, not_true_eq_false]
          refine h_k _ _ ⟨d0, _, rfl, s10, ?_, shr, clr, .inl ⟨hr, rfl⟩⟩
          simp only [RDa, RDb, RDv, RDk, RDx, RDe, RDd, RDp, RDq, List.getElem?_cons_zero, List.getElem?_cons_succ, List.set_cons_zero, List.set_cons_succ, List.cons.injEq, List.cons_ne_nil, reduceCtorEq, exists_eq_left', exists_eq_left, exists_and_left, and_assoc, exists_const, true_and, and_true, if_true, if_false, false_and, and_false, exists_false, false_or, or_false, true_implies, false_implies, implies_true, forall_eq, forall_eq', Bool.false_eq_true, if_neg, decide_eq_true_eq, Bool.not_eq_true', decide_eq_false_iff_not, Bool.not_true, Bool.not_false, List.length_cons, List.length_nil, sizeLine_eq, Nat.reduceAdd, Nat.reduceLeDiff, Nat.reduceLT, Int.reduceLT, Int.reduceLE, Int.emod_nonneg, ne_eq, Int.reduceEq, not_false_eq_true, not_true_eq_false, dat_tup (s10 _ _ a_H9)]
      rintro _ H10 ⟨dd, D, rfl, s10, hD, shD, clD, hc⟩
      have h10 : H10 la = some (.lst [.str y, .str y2]) := s10 _ _ (s_H9 _ _ h8)
      have s110 : Same H7 H10 := (s8.trans s_H9).trans s10
      rcases hc with ⟨hr, rfl⟩ | ⟨hr, n0, hn, rfl⟩
      · simp only [RDa, RDb, RDv, RDk, RDx, RDe, RDd, RDp, RDq, List.getElem?_cons_zero, List.getElem?_cons_succ, List.set_cons_zero, List.set_cons_succ, List.cons.injEq, List.cons_ne_nil, reduceCtorEq, exists_eq_left', exists_eq_left, exists_and_left, and_assoc, exists_const, true_and, and_true, if_true, if_false, false_and, and_false, exists_false, false_or, or_false, true_implies, false_implies, implies_true, forall_eq, forall_eq', Bool.false_eq_true, if_neg, decide_eq_true_eq, Bool.not_eq_true', decide_eq_false_iff_not, Bool.not_true, Bool.not_false, List.length_cons, List.length_nil, sizeLine_eq, Nat.reduceAdd, Nat.reduceLeDiff, Nat.reduceLT, Int.reduceLT, Int.reduceLE, Int.emod_nonneg, ne_eq, Int.reduceEq, not_false_eq_true, not_true_eq_false]
        refine ⟨_, rfl, kl _ _, lp, (fun _ _ _ _ _ _ hr2 => by rw [hr] at hr2; cases hr2), fun _ q0 H11 s11 nq hq => ?_⟩
        simp only [RDa, RDb, RDv, RDk, RDx, RDe, RDd, RDp, RDq, List.getElem?_cons_zero, List.getElem?_cons_succ, List.set_cons_zero, List.set_cons_succ, List.cons.injEq, List.cons_ne_nil, reduceCtorEq, exists_eq_left', exists_eq_left, exists_and_left, and_assoc, exists_const, true_and, and_true, if_true, if_false, false_and, and_false, exists_false, false_or, or_false, true_implies, false_implies, implies_true, forall_eq, forall_eq', Bool.false_eq_true, if_neg, decide_eq_true_eq, Bool.not_eq_true', decide_eq_false_iff_not, Bool.not_true, Bool.not_false, List.length_cons, List.length_nil, sizeLine_eq, Nat.reduceAdd, Nat.reduceLeDiff, Nat.reduceLT, Int.reduceLT, Int.reduceLE, Int.emod_nonneg, ne_eq, Int.reduceEq, not_false_eq_true, not_true_eq_false, dat_tup hq, dat_same s11 _ _ _ hD, shr, eqv_self, PyData.canLay0, PyData.canLayAll0, Bool.and_self, so]
        refine ⟨_, rfl, kl _ _, lp, (fun _ _ _ _ _ _ hr2 => by rw [hr] at hr2; cases hr2), fun _ q1 H12 s12 nq1 hq1 => ?_⟩
        simp only [RDa, RDb, RDv, RDk, RDx, RDe, RDd, RDp, RDq, List.getElem?_cons_zero, List.getElem?_cons_succ, List.set_cons_zero, List.set_cons_succ, List.cons.injEq, List.cons_ne_nil, reduceCtorEq, exists_eq_left', exists_eq_left, exists_and_left, and_assoc, exists_const, true_and, and_true, if_true, if_false, false_and, and_false, exists_false, false_or, or_false, true_implies, false_implies, implies_true, forall_eq, forall_eq', Bool.false_eq_true, if_neg, decide_eq_true_eq, Bool.not_eq_true', decide_eq_false_iff_not, Bool.not_true, Bool.not_false, List.length_cons, List.length_nil, sizeLine_eq, Nat.reduceAdd, Nat.reduceLeDiff, Nat.reduceLT, Int.reduceLT, Int.reduceLE, Int.emod_nonneg, ne_eq, Int.reduceEq, not_false_eq_true, not_true_eq_false, dat_tup hq1, dat_same (s11.trans s12) _ _ _ hD, shr, eqv_self, PyData.canLay0, PyData.canLayAll0, Bool.and_self, so]
        refine ⟨?_, s110.trans (s11.trans s12), s12 _ _ (s11 _ _ h10)⟩
        first | rfl | exact ⟨_, rfl⟩ | exact ⟨⟨_, rfl⟩, ⟨_, rfl⟩⟩ | exact ⟨_, _, rfl⟩
      · have ok1 := okp hr
        simp only [RDa, RDb, RDv, RDk, RDx, RDe, RDd, RDp, RDq, List.getElem?_cons_zero, List.getElem?_cons_succ, List.set_cons_zero, List.set_cons_succ, List.cons.injEq, List.cons_ne_nil, reduceCtorEq, exists_eq_left', exists_eq_left, exists_and_left, and_assoc, exists_const, true_and, and_true, if_true, if_false, false_and, and_false, exists_false, false_or, or_false, true_implies, false_implies, implies_true, forall_eq, forall_eq', Bool.false_eq_true, if_neg, decide_eq_true_eq, Bool.not_eq_true', decide_eq_false_iff_not, Bool.not_true, Bool.not_false, List.length_cons, List.length_nil, sizeLine_eq, Nat.reduceAdd, Nat.reduceLeDiff, Nat.reduceLT, Int.reduceLT, Int.reduceLE, Int.emod_nonneg, ne_eq, Int.reduceEq, not_false_eq_true, not_true_eq_false]
        refine ⟨_, rfl, kl _ _, lp, (fun z' n' t2 q0 H11 e _ hn2 s11 nq ht2 hq => ?_), (fun hr2 => by rw [hr] at hr2; cases hr2)⟩
        cases e
        rw [hn] at hn2
        cases hn2
        simp only [RDa, RDb, RDv, RDk, RDx, RDe, RDd, RDp, RDq, List.getElem?_cons_zero, List.getElem?_cons_succ, List.set_cons_zero, List.set_cons_succ, List.cons.injEq, List.cons_ne_nil, reduceCtorEq, exists_eq_left', exists_eq_left, exists_and_left, and_assoc, exists_const, true_and, and_true, if_true, if_false, false_and, and_false, exists_false, false_or, or_false, true_implies, false_implies, implies_true, forall_eq, forall_eq', Bool.false_eq_true, if_neg, decide_eq_true_eq, Bool.not_eq_true', decide_eq_false_iff_not, Bool.not_true, Bool.not_false, List.length_cons, List.length_nil, sizeLine_eq, Nat.reduceAdd, Nat.reduceLeDiff, Nat.reduceLT, Int.reduceLT, Int.reduceLE, Int.emod_nonneg, ne_eq, Int.reduceEq, not_false_eq_true, not_true_eq_false, dat_tup hq, dat_tup ht2, dat_same s11 _ _ _ hD, shD, eqv_self, PyData.canLay0, PyData.canLayAll0, Bool.and_self, so, ok1]
        refine ⟨_, rfl, kl _ _, lp, (fun z' n' t3 q1 H12 e _ hn3 s12 nq1 ht3 hq1 => ?_), (fun hr2 => by rw [hr] at hr2; cases hr2)⟩
        cases e
        rw [hn] at hn3
        cases hn3
        simp only [RDa, RDb, RDv, RDk, RDx, RDe, RDd, RDp, RDq, List.getElem?_cons_zero, List.getElem?_cons_succ, List.set_cons_zero, List.set_cons_succ, List.cons.injEq, List.cons_ne_nil, reduceCtorEq, exists_eq_left', exists_eq_left, exists_and_left, and_assoc, exists_const, true_and, and_true, if_true, if_false, false_and, and_false, exists_false, false_or, or_false, true_implies, false_implies, implies_true, forall_eq, forall_eq', Bool.false_eq_true, if_neg, decide_eq_true_eq, Bool.not_eq_true', decide_eq_false_iff_not, Bool.not_true, Bool.not_false, List.length_cons, List.length_nil, sizeLine_eq, Nat.reduceAdd, Nat.reduceLeDiff, Nat.reduceLT, Int.reduceLT, Int.reduceLE, Int.emod_nonneg, ne_eq, Int.reduceEq, not_false_eq_true, not_true_eq_false, dat_tup hq1, dat_tup ht3, dat_same (s11.trans s12) _ _ _ hD, shD, eqv_self, PyData.canLay0, PyData.canLayAll0, Bool.and_self, so, ok1]
        refine ⟨?_, s110.trans (s11.trans s12), s12 _ _ (s11 _ _ h10)⟩
        first | rfl | exact ⟨_, rfl⟩ | exact ⟨⟨_, rfl⟩, ⟨_, rfl⟩⟩ | exact ⟨_, _, rfl⟩
    · rintro la σ H8 ⟨⟨u6, u7, rfl⟩, s8, h8⟩
      exact h_h _ _ ⟨⟨_, _, rfl⟩, s8⟩
  rintro _ H8 ⟨⟨u6, u7, rfl⟩, s8⟩
  have s18 := s17.trans s8
  have hS8 := s18.seq hS
  refine seq_gen fun N_j h_j => ?_
  simp only [RDa, RDb, RDv, RDk, RDx, RDe, RDd, RDp, RDq, List.getElem?_cons_zero, List.getElem?_cons_succ, List.set_cons_zero, List.set_cons_succ, List.cons.injEq, List.cons_ne_nil, reduceCtorEq, exists_eq_left', exists_eq_left, exists_and_left, and_assoc, exists_const, true_and, and_true, if_true, if_false, false_and, and_false, exists_false, false_or, or_false, true_implies, false_implies, implies_true, forall_eq, forall_eq', Bool.false_eq_true, if_neg, decide_eq_true_eq, Bool.not_eq_true', decide_eq_false_iff_not, Bool.not_true, Bool.not_false, List.length_cons, List.length_nil, sizeLine_eq, Nat.reduceAdd, Nat.reduceLeDiff, Nat.reduceLT, Int.reduceLT, Int.reduceLE, Int.emod_nonneg, ne_eq, Int.reduceEq, not_false_eq_true, not_true_eq_false, sp__law_at, hS8]
  intro q1 n_q1
  generalize e_H9 : upd H8 q1 (.lst [.str "send 1"]) = H9
  have a_H9 : H9 q1 = some (.lst [.str "send 1"]) := by rw [← e_H9]; exact upd_same
  have s_H9 : Same H8 H9 := by rw [← e_H9]; exact same_new n_q1
  intro q2 n_q2
  generalize e_H10 : upd H9 q2 (.tup [.str "send", .int 1]) = H10
  have a_H10 : H10 q2 = some (.tup [.str "send", .int 1]) := by rw [← e_H10]; exact upd_same
  have s_H10 : Same H9 H10 := by rw [← e_H10]; exact same_new n_q2
  intro q3 n_q3
  generalize e_H11 : upd H10 q3 (.dK []) = H11
  have a_H11 : H11 q3 = some (.dK []) := by rw [← e_H11]; exact upd_same
  have s_H11 : Same H10 H11 := by rw [← e_H11]; exact same_new n_q3
  have s811 := (s_H9.trans s_H10).trans s_H11
  have s111 := s18.trans s811
  obtain ⟨x, hx, kx, rx, nx⟩ : ∃ x, atI [.non, .int 5, .ref q1, .ref q2, .bl true, .ref q3] (cell ns 3 / 16 % 6) = some x ∧ Kn H11 x ∧ readV x = false ∧ ∀ z', x ≠ .str z' := by
    have h6 := md_rng (cell ns 3 / 16) (show (0 : Int) < 6 by decide)
    generalize cell ns 3 / 16 % 6 = k at h6
    rcases (show k = 0 ∨ k = 1 ∨ k = 2 ∨ k = 3 ∨ k = 4 ∨ k = 5 by omega) with rfl | rfl | rfl | rfl | rfl | rfl
    · exact ⟨_, rfl, rfl, rfl, fun _ e => (nomatch e)⟩
    · exact ⟨_, rfl, rfl, rfl, fun _ e => (nomatch e)⟩
    · exact ⟨_, rfl, by unfold Kn; rw [tyN_lst (s_H11 _ _ (s_H10 _ _ a_H9))]; rfl, rfl, fun _ e => (nomatch e)⟩
    · exact ⟨_, rfl, by unfold Kn; rw [tyN_tup (s_H11 _ _ a_H10)]; rfl, rfl, fun _ e => (nomatch e)⟩
    · exact ⟨_, rfl, rfl, rfl, fun _ e => (nomatch e)⟩
    · exact ⟨_, rfl, by unfold Kn tyN; dsimp only; rw [a_H11]; rfl, rfl, fun _ e => (nomatch e)⟩
  refine ⟨s111.seq hS, x, hx, h_j _ _ ?_⟩
  clear h_j
  refine seq_rel (fun σ1 H12 => σ1 = [some (.ref a), some (.int n), some (.ref t), some (.str (lineOf z n)), some (.str y), some x, u6, u7] ∧ Same H11 H12) (fun N_k h_k => ?_) ?_
  · have shr : SeqAt.shaped (.tuple [.str "refused", .str "line"]) = true := by simp [SeqAt.shaped, PyData.canLay0, PyData.canLayAll0, PyData.depth, PyData.depthAll, so]
    simp only [RDa, RDb, RDv, RDk, RDx, RDe, RDd, RDp, RDq, List.getElem?_cons_zero, List.getElem?_cons_succ, List.set_cons_zero, List.set_cons_succ, List.cons.injEq, List.cons_ne_nil, reduceCtorEq, exists_eq_left', exists_eq_left, exists_and_left, and_assoc, exists_const, true_and, and_true, if_true, if_false, false_and, and_false, exists_false, false_or, or_false, true_implies, false_implies, implies_true, forall_eq, forall_eq', Bool.false_eq_true, if_neg, decide_eq_true_eq, Bool.not_eq_true', decide_eq_false_iff_not, Bool.not_true, Bool.not_false, List.length_cons, List.length_nil, sizeLine_eq, Nat.reduceAdd, Nat.reduceLeDiff, Nat.reduceLT, Int.reduceLT, Int.reduceLE, Int.emod_nonneg, ne_eq, Int.reduceEq, not_false_eq_true, not_true_eq_false]
    refine ⟨_, rfl, kx, (fun z' e => absurd e (nx z')), (fun z' _ _ _ _ e => absurd e (nx z')), fun _ q0 H12 s12 nq hq => ?_⟩
    simp only [RDa, RDb, RDv, RDk, RDx, RDe, RDd, RDp, RDq, List.getElem?_cons_zero, List.getElem?_cons_succ, List.set_cons_zero, List.set_cons_succ, List.cons.injEq, List.cons_ne_nil, reduceCtorEq, exists_eq_left', exists_eq_left, exists_and_left, and_assoc, exists_const, true_and, and_true, if_true, if_false, false_and, and_false, exists_false, false_or, or_false, true_implies, false_implies, implies_true, forall_eq, forall_eq', Bool.false_eq_true, if_neg, decide_eq_true_eq, Bool.not_eq_true', decide_eq_false_iff_not, Bool.not_true, Bool.not_false, List.length_cons, List.length_nil, sizeLine_eq, Nat.reduceAdd, Nat.reduceLeDiff, Nat.reduceLT, Int.reduceLT, Int.reduceLE, Int.emod_nonneg, ne_eq, Int.reduceEq, not_false_eq_true, not_true_eq_false, dat_tup hq, shr, eqv_self, PyData.canLay0, PyData.canLayAll0, Bool.and_self, so]
    exact h_k _ _ ⟨rfl, s12⟩
  rintro _ H12 ⟨rfl, s12⟩
  have s112 := s111.trans s12
  refine seq_gen fun N_l h_l => ?_
  simp only [RDa, RDb, RDv, RDk, RDx, RDe, RDd, RDp, RDq, List.getElem?_cons_zero, List.getElem?_cons_succ, List.set_cons_zero, List.set_cons_succ, List.cons.injEq, List.cons_ne_nil, reduceCtorEq, exists_eq_left', exists_eq_left, exists_and_left, and_assoc, exists_const, true_and, and_true, if_true, if_false, false_and, and_false, exists_false, false_or, or_false, true_implies, false_implies, implies_true, forall_eq, forall_eq', Bool.false_eq_true, if_neg, decide_eq_true_eq, Bool.not_eq_true', decide_eq_false_iff_not, Bool.not_true, Bool.not_false, List.length_cons, List.length_nil, sizeLine_eq, Nat.reduceAdd, Nat.reduceLeDiff, Nat.reduceLT, Int.reduceLT, Int.reduceLE, Int.emod_nonneg, ne_eq, Int.reduceEq, not_false_eq_true, not_true_eq_false]
  intro o1 n_o1
  generalize e_G1 : upd H12 o1 (.tup []) = G1
  have a_G1 : G1 o1 = some (.tup []) := by rw [← e_G1]; exact upd_same
  have s_G1 : Same H12 G1 := by rw [← e_G1]; exact same_new n_o1
  intro o2 n_o2
  generalize e_G2 : upd G1 o2 (.tup [.str "send"]) = G2
  have a_G2 : G2 o2 = some (.tup [.str "send"]) := by rw [← e_G2]; exact upd_same
  have s_G2 : Same G1 G2 := by rw [← e_G2]; exact same_new n_o2
  intro o3 n_o3
  generalize e_G3 : upd G2 o3 (.tup [.str "send", .int 0, .int 0]) = G3
  have a_G3 : G3 o3 = some (.tup [.str "send", .int 0, .int 0]) := by rw [← e_G3]; exact upd_same
  have s_G3 : Same G2 G3 := by rw [← e_G3]; exact same_new n_o3
  intro o4 n_o4
  generalize e_G4 : upd G3 o4 (.lst [.str "send", .int 0]) = G4
  have a_G4 : G4 o4 = some (.lst [.str "send", .int 0]) := by rw [← e_G4]; exact upd_same
  have s_G4 : Same G3 G4 := by rw [← e_G4]; exact same_new n_o4
  intro o5 n_o5
  generalize e_G5 : upd G4 o5 (.tup [.str "Send", .int 0]) = G5
  have a_G5 : G5 o5 = some (.tup [.str "Send", .int 0]) := by rw [← e_G5]; exact upd_same
  have s_G5 : Same G4 G5 := by rw [← e_G5]; exact same_new n_o5
  intro o6 n_o6
  generalize e_G6 : upd G5 o6 (.tup [.str "send", .str "0"]) = G6
  have a_G6 : G6 o6 = some (.tup [.str "send", .str "0"]) := by rw [← e_G6]; exact upd_same
  have s_G6 : Same G5 G6 := by rw [← e_G6]; exact same_new n_o6
  intro o7 n_o7
  generalize e_G7 : upd G6 o7 (.tup [.str "send", .non]) = G7
  have a_G7 : G7 o7 = some (.tup [.str "send", .non]) := by rw [← e_G7]; exact upd_same
  have s_G7 : Same G6 G7 := by rw [← e_G7]; exact same_new n_o7
  intro l1 n_l1
  generalize e_G8 : upd G7 l1 (.lst [.non, .ref o1, .ref o2, .ref o3, .ref o4, .str "send 0", .ref o5, .ref o6, .ref o7]) = G8
  have a_G8 : G8 l1 = some (.lst [.non, .ref o1, .ref o2, .ref o3, .ref o4, .str "send 0", .ref o5, .ref o6, .ref o7]) := by rw [← e_G8]; exact upd_same
  have s_G8 : Same G7 G8 := by rw [← e_G8]; exact same_new n_l1
  refine h_l _ _ ?_
  clear h_l
  refine seq_gen fun N_m h_m => ?_
  simp only [RDa, RDb, RDv, RDk, RDx, RDe, RDd, RDp, RDq, List.getElem?_cons_zero, List.getElem?_cons_succ, List.set_cons_zero, List.set_cons_succ, List.cons.injEq, List.cons_ne_nil, reduceCtorEq, exists_eq_left', exists_eq_left, exists_and_left, and_assoc, exists_const, true_and, and_true, if_true, if_false, false_and, and_false, exists_false, false_or, or_false, true_implies, false_implies, implies_true, forall_eq, forall_eq', Bool.false_eq_true, if_neg, decide_eq_true_eq, Bool.not_eq_true', decide_eq_false_iff_not, Bool.not_true, Bool.not_false, List.length_cons, List.length_nil, sizeLine_eq, Nat.reduceAdd, Nat.reduceLeDiff, Nat.reduceLT, Int.reduceLT, Int.reduceLE, Int.emod_nonneg, ne_eq, Int.reduceEq, not_false_eq_true, not_true_eq_false, a_G8]
  intro o8 n_o8
  generalize e_G9 : upd G8 o8 (.tup [.str "hand", .bl true]) = G9
  have a_G9 : G9 o8 = some (.tup [.str "hand", .bl true]) := by rw [← e_G9]; exact upd_same
  have s_G9 : Same G8 G9 := by rw [← e_G9]; exact same_new n_o8
  intro o9 n_o9
  generalize e_G10 : upd G9 o9 (.tup [.str "tell", .int (-1)]) = G10
  have a_G10 : G10 o9 = some (.tup [.str "tell", .int (-1)]) := by rw [← e_G10]; exact upd_same
  have s_G10 : Same G9 G10 := by rw [← e_G10]; exact same_new n_o9
  intro o10 n_o10
  generalize e_G11 : upd G10 o10 (.tup [.str "hand", .int 1000000]) = G11
  have a_G11 : G11 o10 = some (.tup [.str "hand", .int 1000000]) := by rw [← e_G11]; exact upd_same
  have s_G11 : Same G10 G11 := by rw [← e_G11]; exact same_new n_o10
  intro o11 n_o11
  generalize e_G12 : upd G11 o11 (.tup [.str "", .int 0]) = G12
  have a_G12 : G12 o11 = some (.tup [.str "", .int 0]) := by rw [← e_G12]; exact upd_same
  have s_G12 : Same G11 G12 := by rw [← e_G12]; exact same_new n_o11
  intro o12 n_o12
  generalize e_G13 : upd G12 o12 (.tup [.non, .int 0]) = G13
  have a_G13 : G13 o12 = some (.tup [.non, .int 0]) := by rw [← e_G13]; exact upd_same
  have s_G13 : Same G12 G13 := by rw [← e_G13]; exact same_new n_o12
  intro o13a n_o13a
  generalize e_G14 : upd G13 o13a (.lst [.str "send"]) = G14
  have a_G14 : G14 o13a = some (.lst [.str "send"]) := by rw [← e_G14]; exact upd_same
  have s_G14 : Same G13 G14 := by rw [← e_G14]; exact same_new n_o13a
  intro o13 n_o13
  generalize e_G15 : upd G14 o13 (.tup [.ref o13a, .int 0]) = G15
  have a_G15 : G15 o13 = some (.tup [.ref o13a, .int 0]) := by rw [← e_G15]; exact upd_same
  have s_G15 : Same G14 G15 := by rw [← e_G15]; exact same_new n_o13
  intro o14a n_o14a
  generalize e_G16 : upd G15 o14a (.tup [.int 0]) = G16
  have a_G16 : G16 o14a = some (.tup [.int 0]) := by rw [← e_G16]; exact upd_same
  have s_G16 : Same G15 G16 := by rw [← e_G16]; exact same_new n_o14a
  intro o14 n_o14
  generalize e_G17 : upd G16 o14 (.tup [.str "tell", .ref o14a]) = G17
  have a_G17 : G17 o14 = some (.tup [.str "tell", .ref o14a]) := by rw [← e_G17]; exact upd_same
  have s_G17 : Same G16 G17 := by rw [← e_G17]; exact same_new n_o14
  intro l2 n_l2
  generalize e_G18 : upd G17 l2 (.lst [.ref o8, .ref o9, .ref o10, .ref o11, .ref o12, .ref o13, .ref o14]) = G18
  have a_G18 : G18 l2 = some (.lst [.ref o8, .ref o9, .ref o10, .ref o11, .ref o12, .ref o13, .ref o14]) := by rw [← e_G18]; exact upd_same
  have s_G18 : Same G17 G18 := by rw [← e_G18]; exact same_new n_l2
  refine ⟨_, (s_G18 _ _ (s_G17 _ _ (s_G16 _ _ (s_G15 _ _ (s_G14 _ _ (s_G13 _ _ (s_G12 _ _ (s_G11 _ _ (s_G10 _ _ (s_G9 _ _ a_G8)))))))))), _, a_G18, (show 9 + 7 ≤ 16777216 by decide), ?_⟩
  intro l3 n_l3
  generalize e_G19 : upd G18 l3 (.lst ([.non, .ref o1, .ref o2, .ref o3, .ref o4, .str "send 0", .ref o5, .ref o6, .ref o7] ++ [.ref o8, .ref o9, .ref o10, .ref o11, .ref o12, .ref o13, .ref o14])) = G19
  have a_G19 : G19 l3 = some (.lst ([.non, .ref o1, .ref o2, .ref o3, .ref o4, .str "send 0", .ref o5, .ref o6, .ref o7] ++ [.ref o8, .ref o9, .ref o10, .ref o11, .ref o12, .ref o13, .ref o14])) := by rw [← e_G19]; exact upd_same
  have s_G19 : Same G18 G19 := by rw [← e_G19]; exact same_new n_l3
  refine h_m _ _ ?_
  clear h_m
  have sG : Same H12 G19 := ((((((((((((((((((s_G1.trans s_G2).trans s_G3).trans s_G4).trans s_G5).trans s_G6).trans s_G7).trans s_G8).trans s_G9).trans s_G10).trans s_G11).trans s_G12).trans s_G13).trans s_G14).trans s_G15).trans s_G16).trans s_G17).trans s_G18).trans s_G19)
  have s1G := s112.trans sG
  have hSG := s1G.seq hS
  obtain ⟨x2, hx2, kx2, sx2⟩ : ∃ x, atI ([.non, .ref o1, .ref o2, .ref o3, .ref o4, .str "send 0", .ref o5, .ref o6, .ref o7] ++ [.ref o8, .ref o9, .ref o10, .ref o11, .ref o12, .ref o13, .ref o14]) (cell ns 3 / 96 % 16) = some x ∧ KnI G19 x ∧ stepV G19 x = false := by
    have h16 := md_rng (cell ns 3 / 96) (show (0 : Int) < 16 by decide)
    generalize cell ns 3 / 96 % 16 = k at h16
    have kl13 : Kn G19 (.ref o13a) := by unfold Kn; rw [tyN_lst (s_G19 _ _ (s_G18 _ _ (s_G17 _ _ (s_G16 _ _ (s_G15 _ _ a_G14)))))]; rfl
    have kl14 : Kn G19 (.ref o14a) := by unfold Kn; rw [tyN_tup (s_G19 _ _ (s_G18 _ _ (s_G17 _ _ a_G16)))]; rfl
    rcases (show k = 0 ∨ k = 1 ∨ k = 2 ∨ k = 3 ∨ k = 4 ∨ k = 5 ∨ k = 6 ∨ k = 7 ∨ k = 8 ∨ k = 9 ∨ k = 10 ∨ k = 11 ∨ k = 12 ∨ k = 13 ∨ k = 14 ∨ k = 15 by omega) with rfl | rfl | rfl | rfl | rfl | rfl | rfl | rfl | rfl | rfl | rfl | rfl | rfl | rfl | rfl | rfl
    · exact ⟨_, rfl, ⟨rfl, fun _ _ e => (nomatch e)⟩, rfl⟩
    · exact ⟨_, rfl, odd_tup (s_G19 _ _ (s_G18 _ _ (s_G17 _ _ (s_G16 _ _ (s_G15 _ _ (s_G14 _ _ (s_G13 _ _ (s_G12 _ _ (s_G11 _ _ (s_G10 _ _ (s_G9 _ _ (s_G8 _ _ (s_G7 _ _ (s_G6 _ _ (s_G5 _ _ (s_G4 _ _ (s_G3 _ _ (s_G2 _ _ a_G1)))))))))))))))))) (by intro y hy; cases hy) (by unfold stepV; dsimp only; rw [(s_G19 _ _ (s_G18 _ _ (s_G17 _ _ (s_G16 _ _ (s_G15 _ _ (s_G14 _ _ (s_G13 _ _ (s_G12 _ _ (s_G11 _ _ (s_G10 _ _ (s_G9 _ _ (s_G8 _ _ (s_G7 _ _ (s_G6 _ _ (s_G5 _ _ (s_G4 _ _ (s_G3 _ _ (s_G2 _ _ a_G1))))))))))))))))))] <;> first | rfl | decide +kernel)⟩
    · exact ⟨_, rfl, odd_tup (s_G19 _ _ (s_G18 _ _ (s_G17 _ _ (s_G16 _ _ (s_G15 _ _ (s_G14 _ _ (s_G13 _ _ (s_G12 _ _ (s_G11 _ _ (s_G10 _ _ (s_G9 _ _ (s_G8 _ _ (s_G7 _ _ (s_G6 _ _ (s_G5 _ _ (s_G4 _ _ (s_G3 _ _ a_G2))))))))))))))))) (by intro y hy; simp only [List.mem_cons, List.not_mem_nil, or_false] at hy; subst hy; rfl) (by unfold stepV; dsimp only; rw [(s_G19 _ _ (s_G18 _ _ (s_G17 _ _ (s_G16 _ _ (s_G15 _ _ (s_G14 _ _ (s_G13 _ _ (s_G12 _ _ (s_G11 _ _ (s_G10 _ _ (s_G9 _ _ (s_G8 _ _ (s_G7 _ _ (s_G6 _ _ (s_G5 _ _ (s_G4 _ _ (s_G3 _ _ a_G2)))))))))))))))))] <;> first | rfl | decide +kernel)⟩
    · exact ⟨_, rfl, odd_tup (s_G19 _ _ (s_G18 _ _ (s_G17 _ _ (s_G16 _ _ (s_G15 _ _ (s_G14 _ _ (s_G13 _ _ (s_G12 _ _ (s_G11 _ _ (s_G10 _ _ (s_G9 _ _ (s_G8 _ _ (s_G7 _ _ (s_G6 _ _ (s_G5 _ _ (s_G4 _ _ a_G3)))))))))))))))) (by intro y hy; simp only [List.mem_cons, List.not_mem_nil, or_false] at hy; rcases hy with rfl | rfl | rfl <;> rfl) (by unfold stepV; dsimp only; rw [(s_G19 _ _ (s_G18 _ _ (s_G17 _ _ (s_G16 _ _ (s_G15 _ _ (s_G14 _ _ (s_G13 _ _ (s_G12 _ _ (s_G11 _ _ (s_G10 _ _ (s_G9 _ _ (s_G8 _ _ (s_G7 _ _ (s_G6 _ _ (s_G5 _ _ (s_G4 _ _ a_G3))))))))))))))))] <;> first | rfl | decide +kernel)⟩
    · exact ⟨_, rfl, odd_lst (s_G19 _ _ (s_G18 _ _ (s_G17 _ _ (s_G16 _ _ (s_G15 _ _ (s_G14 _ _ (s_G13 _ _ (s_G12 _ _ (s_G11 _ _ (s_G10 _ _ (s_G9 _ _ (s_G8 _ _ (s_G7 _ _ (s_G6 _ _ (s_G5 _ _ a_G4))))))))))))))) (by intro y hy; simp only [List.mem_cons, List.not_mem_nil, or_false] at hy; rcases hy with rfl | rfl <;> rfl)⟩
    · exact ⟨_, rfl, ⟨rfl, fun _ _ e => (nomatch e)⟩, rfl⟩
    · exact ⟨_, rfl, odd_tup (s_G19 _ _ (s_G18 _ _ (s_G17 _ _ (s_G16 _ _ (s_G15 _ _ (s_G14 _ _ (s_G13 _ _ (s_G12 _ _ (s_G11 _ _ (s_G10 _ _ (s_G9 _ _ (s_G8 _ _ (s_G7 _ _ (s_G6 _ _ a_G5)))))))))))))) (by intro y hy; simp only [List.mem_cons, List.not_mem_nil, or_false] at hy; rcases hy with rfl | rfl <;> rfl) (by unfold stepV; dsimp only; rw [(s_G19 _ _ (s_G18 _ _ (s_G17 _ _ (s_G16 _ _ (s_G15 _ _ (s_G14 _ _ (s_G13 _ _ (s_G12 _ _ (s_G11 _ _ (s_G10 _ _ (s_G9 _ _ (s_G8 _ _ (s_G7 _ _ (s_G6 _ _ a_G5))))))))))))))] <;> first | rfl | decide +kernel)⟩
    · exact ⟨_, rfl, odd_tup (s_G19 _ _ (s_G18 _ _ (s_G17 _ _ (s_G16 _ _ (s_G15 _ _ (s_G14 _ _ (s_G13 _ _ (s_G12 _ _ (s_G11 _ _ (s_G10 _ _ (s_G9 _ _ (s_G8 _ _ (s_G7 _ _ a_G6))))))))))))) (by intro y hy; simp only [List.mem_cons, List.not_mem_nil, or_false] at hy; rcases hy with rfl | rfl <;> rfl) (by unfold stepV; dsimp only; rw [(s_G19 _ _ (s_G18 _ _ (s_G17 _ _ (s_G16 _ _ (s_G15 _ _ (s_G14 _ _ (s_G13 _ _ (s_G12 _ _ (s_G11 _ _ (s_G10 _ _ (s_G9 _ _ (s_G8 _ _ (s_G7 _ _ a_G6)))))))))))))] <;> first | rfl | decide +kernel)⟩
    · exact ⟨_, rfl, odd_tup (s_G19 _ _ (s_G18 _ _ (s_G17 _ _ (s_G16 _ _ (s_G15 _ _ (s_G14 _ _ (s_G13 _ _ (s_G12 _ _ (s_G11 _ _ (s_G10 _ _ (s_G9 _ _ (s_G8 _ _ a_G7)))))))))))) (by intro y hy; simp only [List.mem_cons, List.not_mem_nil, or_false] at hy; rcases hy with rfl | rfl <;> rfl) (by unfold stepV; dsimp only; rw [(s_G19 _ _ (s_G18 _ _ (s_G17 _ _ (s_G16 _ _ (s_G15 _ _ (s_G14 _ _ (s_G13 _ _ (s_G12 _ _ (s_G11 _ _ (s_G10 _ _ (s_G9 _ _ (s_G8 _ _ a_G7))))))))))))] <;> first | rfl | decide +kernel)⟩
    · exact ⟨_, rfl, odd_tup (s_G19 _ _ (s_G18 _ _ (s_G17 _ _ (s_G16 _ _ (s_G15 _ _ (s_G14 _ _ (s_G13 _ _ (s_G12 _ _ (s_G11 _ _ (s_G10 _ _ a_G9)))))))))) (by intro y hy; simp only [List.mem_cons, List.not_mem_nil, or_false] at hy; rcases hy with rfl | rfl <;> rfl) (by unfold stepV; dsimp only; rw [(s_G19 _ _ (s_G18 _ _ (s_G17 _ _ (s_G16 _ _ (s_G15 _ _ (s_G14 _ _ (s_G13 _ _ (s_G12 _ _ (s_G11 _ _ (s_G10 _ _ a_G9))))))))))] <;> first | rfl | decide +kernel)⟩
    · exact ⟨_, rfl, odd_tup (s_G19 _ _ (s_G18 _ _ (s_G17 _ _ (s_G16 _ _ (s_G15 _ _ (s_G14 _ _ (s_G13 _ _ (s_G12 _ _ (s_G11 _ _ a_G10))))))))) (by intro y hy; simp only [List.mem_cons, List.not_mem_nil, or_false] at hy; rcases hy with rfl | rfl <;> rfl) (by unfold stepV; dsimp only; rw [(s_G19 _ _ (s_G18 _ _ (s_G17 _ _ (s_G16 _ _ (s_G15 _ _ (s_G14 _ _ (s_G13 _ _ (s_G12 _ _ (s_G11 _ _ a_G10)))))))))] <;> first | rfl | decide +kernel)⟩
    · exact ⟨_, rfl, odd_tup (s_G19 _ _ (s_G18 _ _ (s_G17 _ _ (s_G16 _ _ (s_G15 _ _ (s_G14 _ _ (s_G13 _ _ (s_G12 _ _ a_G11)))))))) (by intro y hy; simp only [List.mem_cons, List.not_mem_nil, or_false] at hy; rcases hy with rfl | rfl <;> rfl) (by unfold stepV; dsimp only; rw [(s_G19 _ _ (s_G18 _ _ (s_G17 _ _ (s_G16 _ _ (s_G15 _ _ (s_G14 _ _ (s_G13 _ _ (s_G12 _ _ a_G11))))))))] <;> first | rfl | decide +kernel)⟩
    · exact ⟨_, rfl, odd_tup (s_G19 _ _ (s_G18 _ _ (s_G17 _ _ (s_G16 _ _ (s_G15 _ _ (s_G14 _ _ (s_G13 _ _ a_G12))))))) (by intro y hy; simp only [List.mem_cons, List.not_mem_nil, or_false] at hy; rcases hy with rfl | rfl <;> rfl) (by unfold stepV; dsimp only; rw [(s_G19 _ _ (s_G18 _ _ (s_G17 _ _ (s_G16 _ _ (s_G15 _ _ (s_G14 _ _ (s_G13 _ _ a_G12)))))))] <;> first | rfl | decide +kernel)⟩
    · exact ⟨_, rfl, odd_tup (s_G19 _ _ (s_G18 _ _ (s_G17 _ _ (s_G16 _ _ (s_G15 _ _ (s_G14 _ _ a_G13)))))) (by intro y hy; simp only [List.mem_cons, List.not_mem_nil, or_false] at hy; rcases hy with rfl | rfl <;> rfl) (by unfold stepV; dsimp only; rw [(s_G19 _ _ (s_G18 _ _ (s_G17 _ _ (s_G16 _ _ (s_G15 _ _ (s_G14 _ _ a_G13))))))] <;> first | rfl | decide +kernel)⟩
    · exact ⟨_, rfl, odd_tup (s_G19 _ _ (s_G18 _ _ (s_G17 _ _ (s_G16 _ _ a_G15)))) (by intro y hy; simp only [List.mem_cons, List.not_mem_nil, or_false] at hy; rcases hy with rfl | rfl <;> first | rfl | exact kl13) (by unfold stepV; dsimp only; rw [(s_G19 _ _ (s_G18 _ _ (s_G17 _ _ (s_G16 _ _ a_G15))))] <;> first | rfl | decide +kernel)⟩
    · exact ⟨_, rfl, odd_tup (s_G19 _ _ (s_G18 _ _ a_G17)) (by intro y hy; simp only [List.mem_cons, List.not_mem_nil, or_false] at hy; rcases hy with rfl | rfl <;> first | rfl | exact kl14) (by unfold stepV; dsimp only; rw [(s_G19 _ _ (s_G18 _ _ a_G17))] <;> first | rfl | decide +kernel)⟩
  simp only [RDa, RDb, RDv, RDk, RDx, RDe, RDd, RDp, RDq, List.getElem?_cons_zero, List.getElem?_cons_succ, List.set_cons_zero, List.set_cons_succ, List.cons.injEq, List.cons_ne_nil, reduceCtorEq, exists_eq_left', exists_eq_left, exists_and_left, and_assoc, exists_const, true_and, and_true, if_true, if_false, false_and, and_false, exists_false, false_or, or_false, true_implies, false_implies, implies_true, forall_eq, forall_eq', Bool.false_eq_true, if_neg, decide_eq_true_eq, Bool.not_eq_true', decide_eq_false_iff_not, Bool.not_true, Bool.not_false, List.length_cons, List.length_nil, sizeLine_eq, Nat.reduceAdd, Nat.reduceLeDiff, Nat.reduceLT, Int.reduceLT, Int.reduceLE, Int.emod_nonneg, ne_eq, Int.reduceEq, not_false_eq_true, not_true_eq_false, sp__law_at, hSG, seqO_lst a_G19, hx2]
  have shs : SeqAt.shaped (.tuple [.str "refused", .str "step"]) = true := by simp [SeqAt.shaped, PyData.canLay0, PyData.canLayAll0, PyData.depth, PyData.depthAll, so]
  refine ⟨x2, rfl, kx2, (fun _ _ _ _ _ _ _ hs => by rw [sx2] at hs; cases hs), fun _ q0 H13 s13' nq hq => ?_⟩
  simp only [RDa, RDb, RDv, RDk, RDx, RDe, RDd, RDp, RDq, List.getElem?_cons_zero, List.getElem?_cons_succ, List.set_cons_zero, List.set_cons_succ, List.cons.injEq, List.cons_ne_nil, reduceCtorEq, exists_eq_left', exists_eq_left, exists_and_left, and_assoc, exists_const, true_and, and_true, if_true, if_false, false_and, and_false, exists_false, false_or, or_false, true_implies, false_implies, implies_true, forall_eq, forall_eq', Bool.false_eq_true, if_neg, decide_eq_true_eq, Bool.not_eq_true', decide_eq_false_iff_not, Bool.not_true, Bool.not_false, List.length_cons, List.length_nil, sizeLine_eq, Nat.reduceAdd, Nat.reduceLeDiff, Nat.reduceLT, Int.reduceLT, Int.reduceLE, Int.emod_nonneg, ne_eq, Int.reduceEq, not_false_eq_true, not_true_eq_false, dat_tup hq, shs, eqv_self, PyData.canLay0, PyData.canLayAll0, Bool.and_self, so]
  exact q _
end RP

namespace RP
open PySem PySem.Spec PyProof.Rows L2 L2H

/-- tests -/
def excB (K : PySem.W.Frag) (D : Addr) : Bool := decide (PySem.W.findIn K (.ref D) "__getattribute__" = some (some (.builtin "BaseException.__getattribute__"))) && (decide (PySem.W.findIn K (.ref D) "__getattr__" = some none) && (decide (PySem.W.subIn K (.ref D) (.type "BaseException") = some true) && (decide (PySem.W.hasDictIn K D = true) &&
  (decide (PySem.W.findIn K (.ref D) "__class__" = some (some (.builtin "object.__class__"))) && (decide (PySem.W.specialIn K (.builtin "object.__class__") "__get__" = some (some (.builtin "getset_descriptor.__get__"))) && (decide (PySem.W.takesIn K (.builtin "object.__class__") = some true) && decide (PySem.W.mroIn K D (.type "object") = some true)))))))
theorem excB_ok {K : PySem.W.Frag} {D : Addr} (h : excB K D = true) : ExcC K D := by
  unfold excB at h
  simp only [Bool.and_eq_true, decide_eq_true_eq] at h
  obtain ⟨h1, h2, h3, h4, h5, h6, h7, h8⟩ := h
  exact ⟨h1, h2, h3, h4, h5, h6, h7, h8⟩
def kitFB (K : PySem.W.Frag) (D : Str) (l : List (Str × Bool)) : Bool := l.all fun q => decide (PySem.W.kitOne K (.ref (He.ga K D)) (.ref (He.ga K q.1)) = some q.2)
theorem kitFB_ok {K : PySem.W.Frag} {D : Str} {l : List (Str × Bool)} (h : kitFB K D l = true) : ∀ q ∈ l, PySem.W.kitOne K (.ref (He.ga K D)) (.ref (He.ga K q.1)) = some q.2 := fun q hq => of_decide_eq_true (List.all_eq_true.mp h q hq)
def d_is_among : He.DefD := ⟨("is_among", none), "is_among", "is_among", defArgs s_is_among, defBody s_is_among, defScope s_is_among, [], []⟩
def d_need_step : He.DefD := ⟨("need_step", none), "need_step", "need_step", defArgs s_need_step, defBody s_need_step, defScope s_need_step, [], []⟩
def d__law_at : He.DefD := ⟨("_law_at", none), "_law_at", "_law_at", defArgs s__law_at, defBody s__law_at, defScope s__law_at, [], []⟩
def d__law_mixed : He.DefD := ⟨("_law_mixed", none), "_law_mixed", "_law_mixed", defArgs s__law_mixed, defBody s__law_mixed, defScope s__law_mixed, [], []⟩
def d__law_whole : He.DefD := ⟨("_law_whole", none), "_law_whole", "_law_whole", defArgs s__law_whole, defBody s__law_whole, defScope s__law_whole, [], []⟩
def d_shown : He.DefD := ⟨("shown", none), "shown", "shown", defArgs s_shown, defBody s_shown, defScope s_shown, [], []⟩
def d__law_word : He.DefD := ⟨("_law_word", none), "_law_word", "_law_word", defArgs s__law_word, defBody s__law_word, defScope s__law_word, [], []⟩
def d_number_of : He.DefD := ⟨("number_of", none), "number_of", "number_of", defArgs s_number_of, defBody s_number_of, defScope s_number_of, [], []⟩
def d_read : He.DefD := ⟨("read", none), "read", "read", defArgs s_read, defBody s_read, defScope s_read, [], []⟩
def d__law_shown : He.DefD := ⟨("_law_shown", none), "_law_shown", "_law_shown", defArgs s__law_shown, defBody s__law_shown, defScope s__law_shown, [], []⟩
def d__law_read : He.DefD := ⟨("_law_read", none), "_law_read", "_law_read", defArgs s__law_read, defBody s__law_read, defScope s__law_read, [], []⟩
def d__law_figures : He.DefD := ⟨("_law_figures", none), "_law_figures", "_law_figures", defArgs s__law_figures, defBody s__law_figures, defScope s__law_figures, [], []⟩
def d__law_spoilt : He.DefD := ⟨("_law_spoilt", none), "_law_spoilt", "_law_spoilt", defArgs s__law_spoilt, defBody s__law_spoilt, defScope s__law_spoilt, [], []⟩
def d__law_due : He.DefD := ⟨("_law_due", none), "_law_due", "_law_due", defArgs s__law_due, defBody s__law_due, defScope s__law_due, [], []⟩
def d_law : He.DefD := ⟨("law", none), "law", "law", defArgs s_law, defBody s_law, defScope s_law, [], []⟩
def fn : List He.DefD := [d_is_among, d_need_step, d__law_at, d__law_mixed, d__law_whole, d_shown, d__law_word, d_number_of, d_read, d__law_shown, d__law_read, d__law_figures, d__law_spoilt, d__law_due, d_law]
def fa : List He.Fa := [.free "len", .free "range", .free "min", .free "max", .free "isinstance", .free "int", .free "bool", .free "str", .free "list", .free "tuple", .free "dict", .free "sorted", .free "enumerate", .free "zip", .free "all", .free "ValueError", .glo "is_among", .glo "need_step", .exc "BadStep", .glo "BadStep", .int "MOST_NUMBER" 999999, .glo "WORDS", .glo "_law_at", .glo "_law_mixed", .glo "_law_whole", .glo "shown", .glo "_law_word", .exc "BadBounds", .glo "BadBounds", .exc "BadRing", .glo "BadRing", .exc "BadTexts", .glo "BadTexts", .exc "NoLetter", .glo "NoLetter", .exc "NoLine", .glo "NoLine", .exc "NotNow", .glo "NotNow", .exc "Safe", .glo "Safe", .glo "number_of", .str "FIGURES" "0123456789", .int "MOST_FIGURES" 6, .glo "read", .glo "_law_shown", .exc "PostError", .glo "PostError", .exm "BadStep" "PostError" true, .glo "_law_read", .exm "NoLine" "PostError" true, .glo "_law_figures", .glo "_law_spoilt", .glo "_law_due", .glo "law"]
def exB (K : PySem.W.Frag) : Bool := true && (He.tupB K "WORDS" ([.str "send", .str "hand", .str "tell"] : List He.Dv)) && (excB K (He.ga K "NoLine")) && (kitFB K "NoLine" (errNames.map fun x => (x, decide (x = "NoLine")))) && (decide (PySem.W.kitOne K (.ref (He.ga K "NoLine")) (.type "ValueError") = some true)) && (excB K (He.ga K "BadStep")) && (kitFB K "BadStep" (errNames.map fun x => (x, decide (x = "BadStep")))) && (decide (PySem.W.kitOne K (.ref (He.ga K "BadStep")) (.type "ValueError") = some true))
def loose : List Str := ["PostError", "BadBounds", "BadRing", "BadTexts", "BadStep", "NotNow", "NoLetter", "Safe", "NoLine", "is_among", "WORDS", "MOST_NUMBER", "need_step", "FIGURES", "MOST_FIGURES", "shown", "number_of", "read", "_law_at", "_law_mixed", "_law_whole", "_law_figures", "_law_due", "_law_word", "_law_read", "_law_shown", "_law_spoilt"]
abbrev PW : Program := (PySem.W.OpenLaw.row PySem.Challenge.rw_ringpost_k12_steps_as_lines).prog
abbrev R : PySem.W.OpenRow := PySem.W.OpenLaw.row PySem.Challenge.rw_ringpost_k12_steps_as_lines
abbrev hk : PySem.W.Hook := He.hookX 5 fa fn [] [] exB
def ob (s : PySem.W.SharedT) : He.AlX := He.obsX 5 fa fn [] [] exB (HandSHeadRun.getT s)
theorem ob_eq (s : PySem.W.SharedT) : ob s = hk.obs s.abs := He.obsX_eq (HandSHeadRun.getT_eq s)
theorem run (w : World) : HandSHeadRun.RunEq R (PySem.W.view R.prog [32]) hk ob 3000 loose w := by
  intro os
  kernel_rfl
theorem facts {w : World} {K : PySem.W.Frag} {h : Heap} {mg : Str → Option Value} {f : Addr} (X : K.In h) (G : h.Ns mainGlobals mg) (hfa : mg ("law" : Str) = some (.ref f)) (c : He.SaysX fa fn [] [] exB w h K) :
    ∃ fd : FuncData, (∀ (s : Shared) (v : Value), BindsTo s fd ⟨[v], []⟩ [("_law_script", v)]) ∧ ∀ base : Heap, K.In base → base.Ns mainGlobals mg → FnOk PW w K mg base (L2N.CX PW w) 5 f fd ["_law_script"] (sp_law K) := by
  have cf : ∀ (i : Nat) {f : He.Fa}, fa[i]? = some f → f.ok K = true := fun i f h => c.t.d.fact i h
  have cd : ∀ {d : He.DefD}, d ∈ fn → ∃ fd, FunD K d.name d.qual d.params d.body d.scope (d.dvs K) (d.kws K) (He.fAd K d.at_) fd := fun h => c.t.d.defs h
  have cx := c.more
  unfold exB at cx
  simp only [Bool.true_and, Bool.and_eq_true] at cx
  obtain ⟨⟨⟨⟨⟨⟨z0, z1⟩, z2⟩, z3⟩, z4⟩, z5⟩, z6⟩ := cx
  have ex0 : ∀ H, SqT K H (He.ga K "WORDS") [.str "send", .str "hand", .str "tell"] := fun H => He.tupB_ok z0 H
  have ex1 : ExcC K (He.ga K "NoLine") := excB_ok z1
  have ex2 : KitF K "NoLine" (errNames.map fun x => (x, decide (x = "NoLine"))) := kitFB_ok z2
  have ex3 : PySem.W.kitOne K (.ref (He.ga K "NoLine")) (.type "ValueError") = some true := of_decide_eq_true z3
  have ex4 : ExcC K (He.ga K "BadStep") := excB_ok z4
  have ex5 : KitF K "BadStep" (errNames.map fun x => (x, decide (x = "BadStep"))) := kitFB_ok z5
  have ex6 : PySem.W.kitOne K (.ref (He.ga K "BadStep")) (.type "ValueError") = some true := of_decide_eq_true z6
  have bl : Blt mg := ⟨He.free_ok X G (cf 0 (f := .free "len") rfl), He.free_ok X G (cf 1 (f := .free "range") rfl), He.free_ok X G (cf 2 (f := .free "min") rfl), He.free_ok X G (cf 3 (f := .free "max") rfl), He.free_ok X G (cf 4 (f := .free "isinstance") rfl), He.free_ok X G (cf 5 (f := .free "int") rfl), He.free_ok X G (cf 6 (f := .free "bool") rfl), He.free_ok X G (cf 7 (f := .free "str") rfl), He.free_ok X G (cf 8 (f := .free "list") rfl), He.free_ok X G (cf 9 (f := .free "tuple") rfl), He.free_ok X G (cf 10 (f := .free "dict") rfl), He.free_ok X G (cf 11 (f := .free "sorted") rfl), He.free_ok X G (cf 12 (f := .free "enumerate") rfl), He.free_ok X G (cf 13 (f := .free "zip") rfl), He.free_ok X G (cf 14 (f := .free "all") rfl), He.free_ok X G (cf 15 (f := .free "ValueError") rfl)⟩
  have c_is_among := fun (base : Heap) => ok_is_among (P := PW) (w := w) (base := base) (cd (d := d_is_among) (by simp [fn])) (He.glo_ok X G (cf 16 (f := .glo "is_among") rfl)) bl
  have e_BadStep : ErrC K mg "BadStep" := by
    have z := He.exc_ok (cf 18 (f := .exc "BadStep") rfl)
    exact ⟨He.glo_ok X G (cf 19 (f := .glo "BadStep") rfl), z.1, z.2.1, z.2.2.1, z.2.2.2⟩
  have c_need_step := fun (base : Heap) => ok_need_step (P := PW) (w := w) (base := base) (cd (d := d_need_step) (by simp [fn])) (He.glo_ok X G (cf 17 (f := .glo "need_step") rfl)) bl (c_is_among base) e_BadStep (He.int_ok X G (cf 20 (f := .int "MOST_NUMBER" 999999) rfl)) (He.glo_ok X G (cf 21 (f := .glo "WORDS") rfl)) ex0
  have c__law_at := fun (base : Heap) (a : Addr) (ns : List Int) => ok__law_at (P := PW) (w := w) (base := base) (cd (d := d__law_at) (by simp [fn])) (He.glo_ok X G (cf 22 (f := .glo "_law_at") rfl)) bl a ns
  have c__law_mixed := fun (base : Heap) => ok__law_mixed (P := PW) (w := w) (base := base) (cd (d := d__law_mixed) (by simp [fn])) (He.glo_ok X G (cf 23 (f := .glo "_law_mixed") rfl)) bl
  have c__law_whole := fun (base : Heap) => ok__law_whole (P := PW) (w := w) (base := base) (cd (d := d__law_whole) (by simp [fn])) (He.glo_ok X G (cf 24 (f := .glo "_law_whole") rfl)) bl
  have c_shown := fun (base : Heap) => ok_shown (P := PW) (w := w) (base := base) (cd (d := d_shown) (by simp [fn])) (He.glo_ok X G (cf 25 (f := .glo "shown") rfl)) bl (c_need_step base)
  have e_BadBounds : ErrC K mg "BadBounds" := by
    have z := He.exc_ok (cf 27 (f := .exc "BadBounds") rfl)
    exact ⟨He.glo_ok X G (cf 28 (f := .glo "BadBounds") rfl), z.1, z.2.1, z.2.2.1, z.2.2.2⟩
  have e_BadRing : ErrC K mg "BadRing" := by
    have z := He.exc_ok (cf 29 (f := .exc "BadRing") rfl)
    exact ⟨He.glo_ok X G (cf 30 (f := .glo "BadRing") rfl), z.1, z.2.1, z.2.2.1, z.2.2.2⟩
  have e_BadTexts : ErrC K mg "BadTexts" := by
    have z := He.exc_ok (cf 31 (f := .exc "BadTexts") rfl)
    exact ⟨He.glo_ok X G (cf 32 (f := .glo "BadTexts") rfl), z.1, z.2.1, z.2.2.1, z.2.2.2⟩
  have e_NoLetter : ErrC K mg "NoLetter" := by
    have z := He.exc_ok (cf 33 (f := .exc "NoLetter") rfl)
    exact ⟨He.glo_ok X G (cf 34 (f := .glo "NoLetter") rfl), z.1, z.2.1, z.2.2.1, z.2.2.2⟩
  have e_NoLine : ErrC K mg "NoLine" := by
    have z := He.exc_ok (cf 35 (f := .exc "NoLine") rfl)
    exact ⟨He.glo_ok X G (cf 36 (f := .glo "NoLine") rfl), z.1, z.2.1, z.2.2.1, z.2.2.2⟩
  have e_NotNow : ErrC K mg "NotNow" := by
    have z := He.exc_ok (cf 37 (f := .exc "NotNow") rfl)
    exact ⟨He.glo_ok X G (cf 38 (f := .glo "NotNow") rfl), z.1, z.2.1, z.2.2.1, z.2.2.2⟩
  have e_Safe : ErrC K mg "Safe" := by
    have z := He.exc_ok (cf 39 (f := .exc "Safe") rfl)
    exact ⟨He.glo_ok X G (cf 40 (f := .glo "Safe") rfl), z.1, z.2.1, z.2.2.1, z.2.2.2⟩
  have c__law_word := fun (base : Heap) => ok__law_word (P := PW) (w := w) (base := base) (cd (d := d__law_word) (by simp [fn])) (He.glo_ok X G (cf 26 (f := .glo "_law_word") rfl)) bl e_BadBounds e_BadRing e_BadStep e_BadTexts e_NoLetter e_NoLine e_NotNow e_Safe ex1 ex2 ex3 ex4 ex5 ex6
  have c_number_of := fun (base : Heap) => ok_number_of (P := PW) (w := w) (base := base) (cd (d := d_number_of) (by simp [fn])) (He.glo_ok X G (cf 41 (f := .glo "number_of") rfl)) bl e_NoLine (He.str_ok X G (cf 42 (f := .str "FIGURES" "0123456789") rfl)) (He.int_ok X G (cf 43 (f := .int "MOST_FIGURES" 6) rfl))
  have c_read := fun (base : Heap) => ok_read (P := PW) (w := w) (base := base) (cd (d := d_read) (by simp [fn])) (He.glo_ok X G (cf 44 (f := .glo "read") rfl)) bl (c_number_of base) e_NoLine (He.glo_ok X G (cf 21 (f := .glo "WORDS") rfl)) ex0
  have e_PostError : ErrC K mg "PostError" := by
    have z := He.exc_ok (cf 46 (f := .exc "PostError") rfl)
    exact ⟨He.glo_ok X G (cf 47 (f := .glo "PostError") rfl), z.1, z.2.1, z.2.2.1, z.2.2.2⟩
  have c__law_shown := fun (base : Heap) => ok__law_shown (P := PW) (w := w) (base := base) (cd (d := d__law_shown) (by simp [fn])) (He.glo_ok X G (cf 45 (f := .glo "_law_shown") rfl)) bl (c__law_word base) (c_shown base) e_PostError (He.exm_ok (cf 48 (f := .exm "BadStep" "PostError" true) rfl))
  have c__law_read := fun (base : Heap) => ok__law_read (P := PW) (w := w) (base := base) (cd (d := d__law_read) (by simp [fn])) (He.glo_ok X G (cf 49 (f := .glo "_law_read") rfl)) bl (c__law_whole base) (c__law_word base) (c_read base) e_PostError (He.exm_ok (cf 50 (f := .exm "NoLine" "PostError" true) rfl))
  have c__law_figures := fun (base : Heap) => ok__law_figures (P := PW) (w := w) (base := base) (cd (d := d__law_figures) (by simp [fn])) (He.glo_ok X G (cf 51 (f := .glo "_law_figures") rfl)) bl
  have c__law_spoilt := fun (base : Heap) => ok__law_spoilt (P := PW) (w := w) (base := base) (cd (d := d__law_spoilt) (by simp [fn])) (He.glo_ok X G (cf 52 (f := .glo "_law_spoilt") rfl)) bl
  have c__law_due := fun (base : Heap) => ok__law_due (P := PW) (w := w) (base := base) (cd (d := d__law_due) (by simp [fn])) (He.glo_ok X G (cf 53 (f := .glo "_law_due") rfl)) bl (c__law_figures base)
  obtain ⟨fd, FL⟩ := cd (d := d_law) (by simp [fn])
  have e := hfa.symm.trans (He.glo_ok X G (cf 54 (f := .glo "law") rfl))
  have e2 : f = He.fAd K ("law", none) := Value.ref.inj (Option.some.inj e)
  subst e2
  have b := FunD.bindsA (ps := ["_law_script"]) FL fun _ _ _ _ _ _ us hl => match us, hl with | [_], _ => rfl
  exact ⟨fd, fun s v => b s [v] rfl, fun base _ _ => ok_law FL bl (c__law_at base) (c__law_due base) (c__law_figures base) (c__law_mixed base) (c__law_read base) (c__law_shown base) (c__law_spoilt base)⟩
end RP
open PySem PySem.W PySem.Calls PyProof.Rows
theorem PySem.Challenge.cw_ringpost_k12_steps_as_lines_holds : PySem.Challenge.rw_ringpost_k12_steps_as_lines.Holds := by
  w_on; o_law
  refine HandSHeadRun.head_any (r := OpenLaw.row PySem.Challenge.rw_ringpost_k12_steps_as_lines) (q := view (OpenLaw.row PySem.Challenge.rw_ringpost_k12_steps_as_lines).prog [32]) (H := RP.hk) (ob := RP.ob) (M := 3000) (loose := RP.loose) (d := HandSHeadRun.topDef (OpenLaw.row PySem.Challenge.rw_ringpost_k12_steps_as_lines).prog 32) (kwd := []) RP.ob_eq
    (by kernel_rfl) (fun s => by kernel_rfl) RP.run (by kernel_rfl) (by kernel_rfl) (by kernel_rfl) (by rfl) (by first | assumption | decide +kernel) (by decide +kernel) ⟨rfl, rfl, rfl, rfl, rfl, by decide +kernel⟩ ?hw ?hc
  case hw => w_witness2
  case hc =>
    refine RP.walk_W (l := PySem.Challenge.rw_ringpost_k12_steps_as_lines) (n := 63) (k := 5) (x := "_law_script") (CX := fun w => L2N.CX RP.PW w) rfl (by decide) (by kernel_rfl) ⟨rfl, by decide, by decide⟩ ?F (fun _ _ _ _ _ z => by
      obtain ⟨_, _, _, _, _, _, _, _, _, _, _, _, q⟩ := z
      exact q)
    intro w mg fa h Y G hmg0
    obtain ⟨K, KX, c⟩ := Y
    have hmg : mg ("law" : PySem.Str) = some (.ref fa) := by
      have e : (HandSHeadRun.topDef (OpenLaw.row PySem.Challenge.rw_ringpost_k12_steps_as_lines).prog 32).name = ("law" : PySem.Str) := by kernel_rfl
      rw [← e]
      exact hmg0
    obtain ⟨fd, hb, hF⟩ := RP.facts (w := w) KX G hmg c
    exact ⟨K, fd, RP.sp_law K, KX, hb, fun H a ns hl hO hS => ⟨a, ns, rfl, hS, fun _ => rfl⟩, hF⟩

