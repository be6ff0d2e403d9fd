import PyProof.Rows.All
import Wide.All
import OpenK.AllK
import Wide.FinOn
import HandS.ForMost
import HandS.ForExc
import HandS.TryMany
import HandS.IsInst
import HandS.ExcIs
import HandS.Conv
import HandS.More
import HandS.Zip
import HandS.TupAny
import HandS.TupLen
import HandS.HotCalls
import HandS.HeadHook4
import HandS.HeadEnd
import HandS.Head2
import PySem.Challenge.RW_ringpost_k01_bounds_and_rings
set_option Elab.async false
set_option linter.all false
set_option maxRecDepth 100000
set_option maxHeartbeats 4000000
open PySem PySem.Spec PyProof.Rows L2
local macro_rules | `(tactic| walk_at "st0") => `(tactic| simp only [L2.start, List.map_cons, List.map_nil, List.length_cons, List.length_nil, List.replicate, List.append_nil, List.cons_append, List.nil_append, Nat.zero_add, Nat.reduceAdd, Nat.reduceSub, Nat.sub_self])
local macro_rules | `(tactic| walk_at "len") => `(tactic| (intro h; first | (obtain ⟨e, _⟩ := h; rw [e]; rfl) | (obtain ⟨_, e, _⟩ := h; rw [e]; rfl) | (obtain ⟨_, _, e, _⟩ := h; rw [e]; rfl) | (obtain ⟨_, _, _, e, _⟩ := h; rw [e]; rfl) | (obtain ⟨_, _, _, _, e, _⟩ := h; rw [e]; rfl) | (obtain ⟨_, _, _, _, _, e, _⟩ := h; rw [e]; rfl) | (obtain ⟨_, _, _, _, _, _, e, _⟩ := h; rw [e]; rfl) | (obtain ⟨_, _, _, _, _, _, _, e, _⟩ := h; rw [e]; rfl) | (obtain ⟨_, _, _, _, _, _, _, _, e, _⟩ := h; rw [e]; rfl) | (obtain ⟨_, _, _, _, _, _, _, _, _, e, _⟩ := h; rw [e]; rfl) | (obtain ⟨_, _, _, _, _, _, _, _, _, _, e, _⟩ := h; rw [e]; rfl) | (obtain ⟨_, _, _, _, _, _, _, _, _, _, _, e, _⟩ := h; rw [e]; rfl) | (obtain ⟨_, _, _, _, _, _, _, _, _, _, _, _, e, _⟩ := h; rw [e]; rfl) | (obtain ⟨_, _, _, _, _, _, _, _, _, _, _, _, _, e, _⟩ := h; rw [e]; rfl) | (obtain ⟨_, _, _, _, _, _, _, _, _, _, _, _, _, _, e, _⟩ := h; rw [e]; rfl) | (obtain ⟨_, _, _, _, _, _, _, _, _, _, _, _, _, _, _, e, _⟩ := h; rw [e]; rfl) | (obtain ⟨_, _, _, _, _, _, _, _, _, _, _, _, _, _, _, _, e, _⟩ := h; rw [e]; rfl) | (obtain ⟨_, _, _, _, _, _, _, _, _, _, _, _, _, _, _, _, _, e, _⟩ := h; rw [e]; rfl) | (obtain ⟨_, _, _, _, _, _, _, _, _, _, _, _, _, _, _, _, _, _, e, _⟩ := h; rw [e]; rfl) | (obtain ⟨_, _, _, _, _, _, _, _, _, _, _, _, _, _, _, _, _, _, _, e, _⟩ := h; rw [e]; rfl) | (obtain ⟨_, _, _, _, _, _, _, _, _, _, _, _, _, _, _, _, _, _, _, _, e, _⟩ := h; rw [e]; rfl) | (obtain ⟨_, _, _, _, _, _, _, _, _, _, _, _, _, _, _, _, _, _, _, _, _, e, _⟩ := h; rw [e]; rfl) | (obtain ⟨_, _, _, _, _, _, _, _, _, _, _, _, _, _, _, _, _, _, _, _, _, _, e, _⟩ := h; rw [e]; rfl) | (obtain ⟨_, _, _, _, _, _, _, _, _, _, _, _, _, _, _, _, _, _, _, _, _, _, _, e, _⟩ := h; rw [e]; rfl) | (obtain ⟨_, _, _, _, _, _, _, _, _, _, _, _, _, _, _, _, _, _, _, _, _, _, _, _, e, _⟩ := h; rw [e]; rfl) | (obtain ⟨_, _, _, _, _, _, _, _, _, _, _, _, _, _, _, _, _, _, _, _, _, _, _, _, _, e, _⟩ := h; rw [e]; rfl)))

namespace RP
open PySem PySem.Spec PyProof.Rows L2

/-! ### a def, a method, a class as callers use them -/
section
variable (P : Program) (w : World) (K : PySem.W.Frag) (mg : Str → Option Value) (base : Heap)
def Cal (k : Nat) (x : Str) (sp : Sp) : Prop :=
  ∃ (f : Addr) (fd : FuncData) (ps : List Str), FnOk P w K mg base (L2N.CX P w) k f fd ps sp ∧ mg x = some (.ref f) ∧ PySem.W.keepIn K (.ref f) = true ∧ Binds K fd ps []
def MCal (k : Nat) (C : Addr) (m : Str) (sp : Sp) : Prop :=
  Cls K C ∧ ∃ (f : Addr) (fd : FuncData) (ps : List Str), FnOk P w K mg base (L2N.CX P w) k f fd ps sp ∧ Meth K C m f ∧ Binds K fd ps []
def KCal (k : Nat) (x : Str) (C : Addr) (sp : Sp) : Prop :=
  ∃ (f : Addr) (fd : FuncData) (ps : List Str), Mk K C f ∧ FnOk P w K mg base (L2N.CX P w) k f fd ps sp ∧ mg x = some (.ref C) ∧ Binds K fd ps []
end
section
variable {X : Cx} {k : Nat} {C : Addr} {sp : Sp} {W : WX} {x m : Str} {p pos apos : Pos} {e o : Expr} {es : List Expr} {ta : TE} {t : TA}
theorem pe_fn (c : Cal X.prog X.w X.K X.mg X.base k x sp) (hr : Room k X.A) (tk : L2N.Takes X W) (ha : PA X (e :: es) t) (hg : Gl X x := by rfl) (hdb : (x == ("__debug__" : Str)) = false := by decide)
    (he : starEach (e :: es) X.env = (false, eval e X.env) :: starEach es X.env := by rfl) (hpl : (backTo pos (starEach es X.env)).any (·.1) = false := by rfl) :
    PE X (.Call (.Name x p) (e :: es) [] pos) (tCallS sp (WE W) t) := by
  obtain ⟨f, fd, ps, F, hm, hk, hb⟩ := c
  exact pe_callS F hr hg hm hk hb (fun σ => L2N.passAt tk σ) ha hdb he hpl
def tMethS (C : Addr) (m : Str) (sp : Sp) (E : L2.St → XK) (ta : TE) (t : TA) : TE := fun σ H Q => ta σ H fun x H1 => ∃ a dx fs, x = .ref a ∧ H1 a = some (.ins C dx fs) ∧ fs.lookup m = none ∧ t σ H1 fun vs H2 => sp (x :: vs) H2 Q (E σ)
theorem pe_mth {pl : Sem Bool} (he : PE X o ta) (c : MCal X.prog X.w X.K X.mg X.base k C m sp) (hr : Room k X.A) (tk : L2N.Takes X W) (ha : PA X (e :: es) t)
    (hst : starEach (e :: es) X.env = (false, eval e X.env) :: starEach es X.env := by rfl) (hpl : (backTo pos (starEach es X.env)).any (·.1) = false := by rfl)
    (ht : eval (.Call (.Attribute o m apos) (e :: es) [] pos) X.env = (do
      let ov ← eval o X.env
      standAt apos.atName
      let (f, first) ← holding [ov] (getMethod ov m pl)
      callWith pos f first (backTo pos (starEach (e :: es) X.env)) (backToKw pos (keywordEach [] X.env))) := by rfl) :
    PE X (.Call (.Attribute o m apos) (e :: es) [] pos) (tMethS C m sp (WE W) ta t) := by
  obtain ⟨cl, f, fd, ps, F, hm, hb⟩ := c
  refine ⟨fun pins s σ H Q I h => ?_⟩
  refine PySem.W.methodCall_KW (pl := pl) (thn (he.run pins s σ H _ I h) fun u s1 ⟨x, H1, I1, rx, a, dx, fs, ex, ea, l, q⟩ => ?_) ht
  subst ex
  obtain rfl : u = Value.ref a := rx
  refine getmeth_ok I1 ea cl hm l ?_
  refine PySem.W.callWith_K (first := [.ref a]) (h₀ := X.base) I.ok.mod.kin hm.kp (thn (ha.run pos pins s1 σ H1 _ I1 q) fun us s2 ⟨vs, H2, I2, r, q2⟩ => ⟨I2.kIn, ?_⟩) hst hpl
  exact run_fnS (us := .ref a :: us) (vs := .ref a :: vs) F hr hb (L2N.passAt tk σ) I2 (.cons rfl r) q2
theorem pe_mth0 {pl : Sem Bool} (he : PE X o ta) (c : MCal X.prog X.w X.K X.mg X.base k C m sp) (hr : Room k X.A) (tk : L2N.Takes X W)
    (ht : eval (.Call (.Attribute o m apos) [] [] pos) X.env = (do
      let ov ← eval o X.env
      standAt apos.atName
      let (f, first) ← holding [ov] (getMethod ov m pl)
      callWith pos f first (backTo pos (starEach [] X.env)) (backToKw pos (keywordEach [] X.env))) := by rfl) :
    PE X (.Call (.Attribute o m apos) [] [] pos) (tMethS C m sp (WE W) ta tNil) := by
  obtain ⟨cl, f, fd, ps, F, hm, hb⟩ := c
  refine ⟨fun pins s σ H Q I h => ?_⟩
  refine PySem.W.methodCall_KW (pl := pl) (thn (he.run pins s σ H _ I h) fun u s1 ⟨x, H1, I1, rx, a, dx, fs, ex, ea, l, q⟩ => ?_) ht
  subst ex
  obtain rfl : u = Value.ref a := rx
  refine getmeth_ok I1 ea cl hm l ?_
  exact PySem.W.callWith_K0 (first := [.ref a]) I1.kIn hm.kp (run_fnS (us := [.ref a]) (vs := [.ref a]) F hr hb (L2N.passAt tk σ) I1 (.cons rfl .nil) q)
def tMakeS (C : Addr) (sp : Sp) (E : L2.St → XK) (t : TA) : TE := fun σ H Q => t σ H fun vs H1 => ∀ x dx, H1 x = none → H1 dx = none → dx ≠ x →
  sp (.ref x :: vs) (upd (upd H1 dx (.own x)) x (.ins C dx [])) (fun v H2 => v = .non ∧ Q (.ref x) H2) (E σ)
theorem run_mkS {pins : List (Addr × Obj)} {σ : L2.St} {H : Hp} {s : Shared} {Q : VK} {us : List Value} {vs : List V} {f : Addr} {fd : FuncData} {ps : List Str} (M : Mk X.K C f) (F : FnOk X.prog X.w X.K X.mg X.base (L2N.CX X.prog X.w) k f fd ps sp) (hr : Room (k + 1) X.A) (hb : Binds X.K fd ps [])
    (tk : L2N.Takes X W) (I : Inv X pins σ H s) (r : Vals vs us)
    (h : ∀ x dx, H x = none → H dx = none → dx ≠ x → sp (.ref x :: vs) (upd (upd H dx (.own x)) x (.ins C dx [])) (fun v H2 => v = .non ∧ Q (.ref x) H2) (WE W σ)) :
    wpAny (model X.prog X.w) X.A (call (.ref C) us) (EP X pins σ Q) X.xe s := by
  have hq := h (s.heap.objs.size + 1) s.heap.objs.size (I.hok.fresh (Nat.le_succ _)) (I.hok.fresh (Nat.le_refl _)) (Nat.ne_of_lt (Nat.lt_succ_self _))
  have I2 := Inv.made (C := C) I
  have r2 : Vals (V.ref (s.heap.objs.size + 1) :: vs) (Value.ref (s.heap.objs.size + 1) :: us) := .cons rfl r
  have hl : (Value.ref (s.heap.objs.size + 1) :: us ++ []).length = ps.length := by
    have e := r2.length
    rw [F.len _ _ _ _ hq] at e
    rw [List.append_nil]
    exact e.symm
  have bb := hb _ (Value.ref (s.heap.objs.size + 1) :: us) I2.kIn hl
  rw [List.append_nil] at bb
  refine wpAny_call (make_map (f := f) I.kIn M.makes M.init (beq_iff_eq.mp M.fn) (codeAny_mono (F.run _ X.stack _ _ ⟨Value.ref (s.heap.objs.size + 1) :: us, []⟩ (Value.ref (s.heap.objs.size + 1) :: us) _ _ (WE W σ) (hr.make C us [])
    (I2.env0.make C us []) bb r2 hq) fun r s' hq' => ?_))
  cases r with
  | error e => exact tk e s' (L2N.XE.of_call I2 (fun _ _ _ h => h) hq')
  | ok fl =>
    cases fl with
    | ret u =>
      obtain ⟨v, H', I3, rv, ev, q3⟩ := I2.after hq'
      subst ev
      exact ⟨rv, ⟨V.ref (s.heap.objs.size + 1), H', I3, rfl, q3⟩⟩
    | next => exact False.elim hq'
    | brk => exact False.elim hq'
    | cont => exact False.elim hq'
theorem pe_mk (c : KCal X.prog X.w X.K X.mg X.base k x C sp) (hr : Room (k + 1) X.A) (tk : L2N.Takes X W) (ha : PA X (e :: es) t) (hg : Gl X x := by rfl) (hdb : (x == ("__debug__" : Str)) = false := by decide)
    (he : starEach (e :: es) X.env = (false, eval e X.env) :: starEach es X.env := by rfl) (hpl : (backTo pos (starEach es X.env)).any (·.1) = false := by rfl) :
    PE X (.Call (.Name x p) (e :: es) [] pos) (tMakeS C sp (WE W) t) := by
  obtain ⟨f, fd, ps, M, F, hm, hb⟩ := c
  refine ⟨fun pins s σ H Q I h => ?_⟩
  refine wpAny_Call_Name_kw (ld_glob I hg hm ?_ hdb)
  refine PySem.W.callWith_K (h₀ := X.base) I.ok.mod.kin M.kp (thn (ha.run pos pins s σ H _ I h) fun us s1 ⟨vs, H1, I1, r, q⟩ => ⟨I1.kIn, ?_⟩) he hpl
  exact run_mkS M F hr hb tk I1 r q
theorem pe_mk0 (c : KCal X.prog X.w X.K X.mg X.base k x C sp) (hr : Room (k + 1) X.A) (tk : L2N.Takes X W) (hg : Gl X x := by rfl) (hdb : (x == ("__debug__" : Str)) = false := by decide) :
    PE X (.Call (.Name x p) [] [] pos) (tMakeS C sp (WE W) tNil) := by
  obtain ⟨f, fd, ps, M, F, hm, hb⟩ := c
  refine ⟨fun pins s σ H Q I h => ?_⟩
  refine wpAny_Call_Name_kw (ld_glob I hg hm ?_ hdb)
  exact PySem.W.callWith_K0 I.kIn M.kp (run_mkS (us := []) M F hr hb tk I .nil h)
end
/-! ### a def by its body -/
/-- the facts of a def of the module | of a method -/
abbrev FnP (K : PySem.W.Frag) (at_ : Str × Option Str) (x qual : Str) (st : Stmt) : Prop := ∃ fd, FunD K x qual (defArgs st) (defBody st) (defScope st) [] [] (He.fAd K at_) fd
section
variable {P : Program} {w : World} {K : PySem.W.Frag} {mg : Str → Option Value} {base : Heap}
theorem fn_cal {x : Str} {st : Stmt} {N ps : List Str} {k : Nat} {sp : Sp} (F : FnP K (x, none) x x st) (hm : mg x = some (.ref (He.ga K x))) (S : FnScope N ps (defScope st)) (len : ∀ vs H Q E, sp vs H Q E → vs.length = ps.length)
    (hbd : ∀ (kV doc pm : Value) (an : Option Addr) (cdv ct : Value) (us : List Value), us.length = ps.length → bindArgs (PySem.W.fnOf x x (defArgs st) (defBody st) (defScope st) .none kV doc pm an cdv ct) ⟨us, []⟩ = pure (ps.zip us))
    (hbody : ∀ (f : Addr) (cdv : Value) (A : Around) (outer : List Env) (s : Shared) (H : Hp) (vs : List V) (Q : VK) (E : XK), Room k (A.deeper (envOfC x (defScope st) s.heap.objs.size f cdv)) → sp vs H Q E →
      ∃ t, PSs (cxOf (L2N.CX P w) P w K mg base N x (defScope st) f cdv A outer s H E) (defBody st) t ∧ t { nx := fun _ H' => Q .non H', rt := Q } (start N vs) H) : Cal P w K mg base (k + 1) x sp := by
  obtain ⟨fd, F⟩ := F
  exact ⟨_, fd, ps, F.ok S len fun cdv A outer s H vs Q E hr h => hbody _ cdv A outer s H vs Q E hr h, hm, F.kp, F.bindsN hbd⟩
theorem fn_mcal {c m qual : Str} {st : Stmt} {N ps : List Str} {k : Nat} {sp : Sp} (F : FnP K (c, some m) m qual st) (hc : Cls K (He.ga K c)) (hm : Meth K (He.ga K c) m (He.ma K (He.ga K c) m)) (S : FnScope N ps (defScope st)) (len : ∀ vs H Q E, sp vs H Q E → vs.length = ps.length)
    (hbd : ∀ (kV doc pm : Value) (an : Option Addr) (cdv ct : Value) (us : List Value), us.length = ps.length → bindArgs (PySem.W.fnOf m qual (defArgs st) (defBody st) (defScope st) .none kV doc pm an cdv ct) ⟨us, []⟩ = pure (ps.zip us))
    (hbody : ∀ (f : Addr) (cdv : Value) (A : Around) (outer : List Env) (s : Shared) (H : Hp) (vs : List V) (Q : VK) (E : XK), Room k (A.deeper (envOfC qual (defScope st) s.heap.objs.size f cdv)) → sp vs H Q E →
      ∃ t, PSs (cxOf (L2N.CX P w) P w K mg base N qual (defScope st) f cdv A outer s H E) (defBody st) t ∧ t { nx := fun _ H' => Q .non H', rt := Q } (start N vs) H) : MCal P w K mg base (k + 1) (He.ga K c) m sp := by
  obtain ⟨fd, F⟩ := F
  exact ⟨hc, _, fd, ps, F.ok S len fun cdv A outer s H vs Q E hr h => hbody _ cdv A outer s H vs Q E hr h, hm, F.bindsN hbd⟩
theorem fn_kcal {c qual : Str} {st : Stmt} {N ps : List Str} {k : Nat} {sp : Sp} (F : FnP K (c, some "__init__") "__init__" qual st) (hm : mg c = some (.ref (He.ga K c))) (M : Mk K (He.ga K c) (He.ma K (He.ga K c) "__init__")) (S : FnScope N ps (defScope st)) (len : ∀ vs H Q E, sp vs H Q E → vs.length = ps.length)
    (hbd : ∀ (kV doc pm : Value) (an : Option Addr) (cdv ct : Value) (us : List Value), us.length = ps.length → bindArgs (PySem.W.fnOf "__init__" qual (defArgs st) (defBody st) (defScope st) .none kV doc pm an cdv ct) ⟨us, []⟩ = pure (ps.zip us))
    (hbody : ∀ (f : Addr) (cdv : Value) (A : Around) (outer : List Env) (s : Shared) (H : Hp) (vs : List V) (Q : VK) (E : XK), Room k (A.deeper (envOfC qual (defScope st) s.heap.objs.size f cdv)) → sp vs H Q E →
      ∃ t, PSs (cxOf (L2N.CX P w) P w K mg base N qual (defScope st) f cdv A outer s H E) (defBody st) t ∧ t { nx := fun _ H' => Q .non H', rt := Q } (start N vs) H) : KCal P w K mg base (k + 1) c (He.ga K c) sp := by
  obtain ⟨fd, F⟩ := F
  exact ⟨_, fd, ps, M, F.ok S len fun cdv A outer s H vs Q E hr h => hbody _ cdv A outer s H vs Q E hr h, hm, F.bindsN hbd⟩
end
/-! ### the built-in names -/
structure Blt (mg : Str → Option Value) : Prop where
  len : mg "len" = none
  range : mg "range" = none
  min : mg "min" = none
  max : mg "max" = none
  isi : mg "isinstance" = none
  int : mg "int" = none
  bool : mg "bool" = none
  str : mg "str" = none
  list : mg "list" = none
  tuple : mg "tuple" = none
  dict : mg "dict" = none
  sorted : mg "sorted" = none
  enumerate : mg "enumerate" = none
  zip : mg "zip" = none
  all : mg "all" = none
  ValueError : mg "ValueError" = none
end RP

/-! ### in an except suite: a def that is handed the caught error -/
namespace RP
open PySem PySem.Spec PyProof.Rows L2 L2H HotX
section
variable {prog : Program} {w : World} {A : Around} {E : Value → Shared → Prop} {s : Shared}
theorem list_end_hot {it l x1 : Addr} {i : Nat} {items} {Q : Option Value → Shared → Prop} (hot : HotAt A x1 s.heap)
    (hit : s.heap.IsListIter it l i) (hl : s.heap.IsList l items) (hx : items[i]? = none) (hne : x1 ≠ it)
    (hQ : ∀ h', (∀ b o, b ≠ it → s.heap.get? b = some o → h'.get? b = some o) → Q none { s with heap := h' }) : wpAny (model prog w) A (pyNext (.ref it)) Q E s := by
  obtain ⟨o, ho, hc, hd⟩ := id hit
  obtain ⟨ol, hol, _, nl, hdl⟩ := hl
  obtain ⟨hh, o1, vs1, h1, d1, c1⟩ := hot
  unfold pyNext
  refine wpAny_bind (wpAny_attempt (wpAny_callSpecial?_slot (name := Str.ofString "__next__") hit.typeIs slot_listiter_next
    (wpAny_call_entry slot_listiter_next hit.typeIs entry_listiter_next ?_ (args_listiter_next _))))
  show wpAny _ _ (field (.ref it) 0 >>= _) _ _ s
  refine wpAny_bind (wpAny_field ho hd (x := .ref l) rfl ?_)
  show wpAny _ _ (if (Value.ref l == Value.none) = true then _ else _) _ _ s
  rw [if_neg (show ¬ ((Value.ref l == Value.none) = true) from Bool.false_ne_true)]
  show wpAny _ _ (field (.ref it) 1 >>= _) _ _ s
  refine wpAny_bind (wpAny_field ho hd (x := .int i 0) rfl ?_)
  show wpAny _ _ (seqItems? (.ref l) >>= _) _ _ s
  refine wpAny_bind (wpAny_seqItems hol hdl ?_)
  simp only [Int.toNat_natCast, hx]
  refine wpAny_bind (wpAny_rule (wpAny_bind (wpAny_setField ho hd (by simp) ?_)))
  show wpAny _ _ (newExc (.type "StopIteration") [] >>= _) _ _ _
  refine wpAny_bind ?_
  simp only [newExc, newTuple]
  refine wpAny_bind (wpAny_newObj_type ?_ (by size_fits))
  refine wpAny_bind (m := firstArgMember _ _) (wpAny_of_eq (a := Value.none) (by first | rfl | (simp only [firstArgMember]; rfl)) ?_)
  refine wpAny_newObj_type ?_ (by size_fits)
  have h1' := (Heap.get?_update_other s.heap (Obj.mapFields (·.setIfInBounds 0 .none)) hne.symm).trans h1
  refine raiseNew_hot ⟨hh, o1, vs1, Heap.get?_push_of_some _ (Heap.get?_push_of_some _ h1'), d1, c1⟩ (Nat.ne_of_lt (Heap.lt_size (Heap.get?_push_of_some _ h1'))) (Heap.get?_push_size _ rfl) rfl (by first | (simp; done) | (simp; omega) | (simp only [Array.size_append]; simp; omega)) ?_
  refine wpAny_bind (wpAny_isInstance (T := "StopIteration") (b := true) ⟨_, Heap.get?_update_self _ (Heap.get?_push_size _ rfl) rfl, rfl⟩ isSubtype_stop ?_)
  refine wpAny_pure (hQ _ fun b o hb e => ?_)
  have e' := (Heap.get?_update_other s.heap (Obj.mapFields (·.setIfInBounds 0 .none)) (Ne.symm hb)).trans e
  rw [Heap.get?_update_other _ _ (Nat.ne_of_gt (Heap.lt_size (Heap.get?_push_of_some _ e')))]
  exact Heap.get?_push_of_some _ (Heap.get?_push_of_some _ e')
end

theorem turn_listH {P : Program} {w : World} {K : PySem.W.Frag} {tg : Expr} (a it : Addr) : TurnH P w K tg (Itl K a) [it] it (fun i h => h.IsListIter it a i) where
  mem := by simp
  obj := fun i h st b hb => by
    have e : b = it := by simpa using hb
    subst e
    obtain ⟨o, e, c, d⟩ := st
    exact ⟨o, e, fun v z => by rw [d] at z; cases z⟩
  keep := fun i h h' st k => st.at fun o e => k it (by simp) o e
  item := by
    intro X hP hw hK hc i pins s σ H E I hf st hg
    subst hP hw hK
    obtain ⟨xs, x, hq, hx⟩ := hg
    obtain ⟨its, rv, p, hz⟩ := I.list hq
    obtain ⟨u, hu, ru⟩ := rv.get hx
    obtain ⟨f0, f1, f2, f3, f4, f5⟩ := hf it (by simp)
    refine wpAny_pyNext_list_item st p.isList (x := u) (by simpa using hu) fun h' st' sb => ?_
    have I1 : Inv X pins σ H { s with heap := h' } := I.turned (t' := s.toks) (fun b o hb e => (sb.2 b hb).trans e) f0 f1 f3 f4 f5
    obtain ⟨o, e, c, d⟩ := id st'
    exact ⟨u, rfl, go_of (s := { s with heap := h' }) e c d (by decide) ⟨x, H, I1, ru, ⟨rfl, fun ys hy => by rw [I.list_inj hy hq]; exact hx⟩, st', fun b hb => (hf b hb).1⟩⟩
  done := by
    intro X hP hw hK hc i pins s σ H E I hf st hg
    subst hP hw hK
    obtain ⟨xs, hq, hx⟩ := hg
    obtain ⟨its, rv, p, hz⟩ := I.list hq
    obtain ⟨f0, f1, f2, f3, f4, f5⟩ := hf it (by simp)
    have hl := rv.length
    obtain ⟨q, ⟨hh, v1, e1, c1⟩, hq1⟩ := hc
    have P1 := I.pin q (List.mem_append_left _ hq1)
    have hne : q.1 ≠ it := f5 q (List.mem_append_left _ hq1)
    refine list_end_hot ⟨hh, q.2, v1, P1.1, e1, c1⟩ st p.isList (by simp; omega) hne fun h' eb => ⟨rfl, I.turned (t' := s.toks) eb f0 f1 f3 f4 f5⟩
  self := fun _ _ _ _ _ st h => wpAny_pyIter_listiter st h

section
variable {X : Cx} {tg : Expr}
theorem pi_listH {l : Expr} {tl : TE} (hl : PE X l tl) : PIH X tg l (iList X.K tl) := by
  refine ⟨fun pins s σ H R I h => thn (hl.run pins s σ H _ I h) fun v s1 ⟨x, H1, I1, r1, a, ex, ⟨xs, hq⟩, q⟩ => ?_⟩
  subst ex
  cases r1
  obtain ⟨its, rv, p, hz⟩ := I1.list hq
  refine wpAny_pyIter_list p.isList ?_
  refine ⟨s1.heap.objs.size, [s1.heap.objs.size], _, _, H1, rfl, I1.kept (t' := s1.toks) fun b o e => Heap.get?_push_of_some _ e, turn_listH a _, ⟨_, Heap.get?_push_size _ rfl, rfl, rfl⟩, fun b hb => ?_, q⟩
  have e : b = s1.heap.objs.size := by simpa using hb
  subst e
  exact I1.fpOk (Nat.le_refl _) (I1.hok.fresh (Nat.le_refl _))
end
/-- what a def promises that is called within a suite: p is the handled exception -/
structure FnE (P : Program) (w : World) (K : PySem.W.Frag) (mg : Str → Option Value) (base : Heap) (k : Nat) (f : Addr) (fd : FuncData) (ps : List Str) (sp : Addr → Value → Option Addr → Sp) : Prop where
  len : ∀ a c d vs H Q E, sp a c d vs H Q E → vs.length = ps.length
  run : ∀ (A : Around) (outer : List Env) (s : Shared) (H : Hp) (args : Args) (us : List Value) (vs : List V) (Q : VK) (E : XK) (p : Addr × Obj) (c : Value) (d : Option Addr), RoomH k A → Hot1 A p → L2N.Zn c d p.2 → PinOk outer H s p → Env0 P w K mg base A outer s H → BindsTo s fd args (ps.zip us) → Vals vs us → sp p.1 c d vs H Q E →
    codeAny (model P w) A (.call (.ref f) args) (CR (L2N.CX P w) outer P w H s Q E) s
theorem fn_ofE {P : Program} {w : World} {K : PySem.W.Frag} {mg : Str → Option Value} {base : Heap} {k : Nat} {f : Addr} {name qual : Str} {params : Arguments} {body : List Stmt} {scope : Scope} {dV kV doc pm cdv ct oc : Value} {an od : Option Addr}
    {osl : Array (Option Value)} {N ps : List Str} {sp : Addr → Value → Option Addr → Sp} (lk : K.lookup f = some ⟨oc, od, .func (PySem.W.fnOf name qual params body scope dV kV doc pm an cdv ct), osl⟩) (hcd : PySem.W.codeIn K cdv qual = true) (S : FnScope N ps scope)
    (len : ∀ a c d vs H Q E, sp a c d vs H Q E → vs.length = ps.length)
    (hbody : ∀ (A : Around) (outer : List Env) (s : Shared) (H : Hp) (vs : List V) (Q : VK) (E : XK) (p : Addr × Obj) (c : Value) (d : Option Addr), Hot1 A p → L2N.Zn c d p.2 → RoomH k (A.deeper (envOfC qual scope s.heap.objs.size f cdv)) → sp p.1 c d vs H Q E →
      ∃ t, PSs (cxH (L2N.CX P w) P w K mg base N qual scope f cdv A outer s H E p) body t ∧ t { nx := fun _ H' => Q .non H', rt := Q } (L2.start N vs) H) :
    FnE P w K mg base (k + 1) f (PySem.W.fnOf name qual params body scope dV kV doc pm an cdv ct) ps sp := by
  constructor
  · exact len
  intro A outer s H args us vs Q E p c d hr hot hz hpin e0 hb r hsp
  have hin : ∀ b o, base.get? b = some o → s.heap.get? b = some o := fun b o e => (e0.bs b o e).1
  have hK : K.In s.heap := PySem.W.Frag.In.keeps e0.mod.kin hin
  have hpar : ∀ y ∈ ps.zip us, scope.names.lookup y.1 = some .local ∨ (scope.names.lookup y.1 = some .cell ∧ ((cellsFrom (s.heap.objs.size + 1) scope.names []).lookup y.1).isSome = true) := by
    rintro ⟨n, v⟩ hy
    have q := S.par n (List.of_mem_zip hy).1
    cases q with
    | inl q => exact Or.inl q
    | inr q => exact Or.inr ⟨q, PySem.W.cellsFrom_some _ _ _ (Or.inl q)⟩
  refine codeAny_call_function hr.depth (hK _ _ lk) rfl S.co S.gen rfl (PySem.W.codeRec_of hK hcd) (hb _ _ _ _ (wpAny_newFunctionEnv_cells S.kind hpar ?_))
  intro env he s1 x
  subst he
  refine ⟨(e0.mod.nolimit.keeps hin).keeps x.toInCall.keep, codeAny_func ?_⟩
  obtain ⟨t, ht, hq⟩ := hbody A outer s H vs Q E p c d hot hz (hr.deeper _) hsp
  have I := inv_startH (CX := L2N.CX P w) (K := K) (mg := mg) (base := base) (N := N) (qual := qual) (f := f) (cd := cdv) (E := E) S hpin e0 (len _ _ _ _ _ _ _ hsp) r x
  refine wpAny_mono (ht.run [] s1 _ H _ I hq) ?_ fun _ _ z => z
  intro fl s' hs
  cases fl with
  | ret u => exact match hs with | ⟨v, _, H', J, rv, q⟩ => ⟨v, H', J.os, J.bare, J.base, J.hok, rv, q⟩
  | next => exact match hs with | ⟨_, H', J, q⟩ => ⟨V.non, H', J.os, J.bare, J.base, J.hok, rfl, q⟩
  | brk => exact match hs with | ⟨_, _, _, q⟩ => q.elim
  | cont => exact match hs with | ⟨_, _, _, q⟩ => q.elim
section
variable {X : Cx} {k : Nat} {sp : Addr → Value → Option Addr → Sp} {cls : Value} {dd : Option Addr} {W : WX} {x m : Str} {pos q : Pos} {e o : Expr} {es : List Expr} {ta : TE} {t : TA} {p : Addr × Obj}
/-- a def of the module, as a suite's call uses it -/
def CalE (P : Program) (w : World) (K : PySem.W.Frag) (mg : Str → Option Value) (base : Heap) (k : Nat) (x : Str) (sp : Addr → Value → Option Addr → Sp) : Prop :=
  ∃ (f : Addr) (fd : FuncData) (ps : List Str), FnE P w K mg base k f fd ps sp ∧ mg x = some (.ref f) ∧ PySem.W.keepIn K (.ref f) = true ∧ L2.Binds K fd ps []
theorem pe_fnE (c : CalE X.prog X.w X.K X.mg X.base k x sp) (hr : RoomH k X.A) {a : Addr} {oe : Obj} (hot : Hot1 X.A (a, oe)) (hz : L2N.Zn cls dd oe) (hp : (a, oe) ∈ X.pn) (tk : L2N.Takes X W) (ha : PA X (e :: es) t) (hg : Gl X x := by rfl) (hdb : (x == ("__debug__" : Str)) = false := by decide)
    (he : starEach (e :: es) X.env = (false, eval e X.env) :: starEach es X.env := by rfl) (hpl : (backTo pos (starEach es X.env)).any (·.1) = false := by rfl) :
    PE X (.Call (.Name x q) (e :: es) [] pos) (tCallS (sp a cls dd) (WE W) t) := by
  obtain ⟨f, fd, ps, F, hm, hk, hb⟩ := c
  constructor
  intro pins s σ H Q I h
  refine wpAny_Call_Name_kw (ld_glob I hg hm ?_ hdb)
  refine PySem.W.callWith_K (h₀ := X.base) I.ok.mod.kin hk (thn (ha.run pos pins s σ H _ I h) ?_) he hpl
  rintro us s1 ⟨vs, H1, I1, r, hsp⟩
  refine ⟨I1.kIn, ?_⟩
  have b := hb s1 us I1.kIn (by rw [List.append_nil, ← r.length]; exact F.len _ _ _ _ _ _ _ hsp)
  rw [List.append_nil] at b
  have P1 := I1.pin (a, oe) (List.mem_append_left _ hp)
  have hpin : PinOk X.stack H1 s1 (a, oe) := ⟨P1.1, P1.2.1, fun hm => (List.mem_cons.mp (I1.stkSub a hm)).elim P1.2.2.1 P1.2.2.2.1, P1.2.2.2.2⟩
  refine wpAny_call (codeAny_mono (F.run X.A X.stack s1 H1 ⟨us, []⟩ us vs Q (WE W σ) (a, oe) cls dd hr hot hz hpin I1.env0 b r hsp) fun rs s' hq => ?_)
  cases rs with
  | error e => exact L2N.passAt tk σ pins H1 s1 e s' I1 hq
  | ok fl => cases fl with
    | ret u => exact I1.after hq
    | next => exact hq.elim
    | brk => exact hq.elim
    | cont => exact hq.elim
def clsOf : V → Option Value
  | .ref a => some (.ref a)
  | .ty n => some (.type n)
  | _ => none
/-- isinstance(e, c), e the handled exception -/
def rIsEC (K : PySem.W.Frag) (a : Addr) (cls : Value) : List V → Hp → VK → Prop := fun xs H Q => ∃ (c : V) (cv : Value) (b : Bool), xs = [.ref a, c] ∧ clsOf c = some cv ∧ PySem.W.kitOne K cls cv = some b ∧ Q (.bl b) H
theorem isE {D a : Addr} {oe : Obj} (C : ExcC X.K D) (hp : (a, oe) ∈ X.pn) (hz : L2N.Zn cls dd oe) (hc : cls = .ref D) (hd : dd = none) (hf : ∃ vs, oe.data = .fields vs) : CallR X (.builtin "isinstance") (rIsEC X.K a cls) := by
  subst hc hd
  rintro pins s σ H xs us Q I r ⟨c, cv, b, rfl, hcv, e, q⟩
  obtain ⟨u1, u2, rfl, r1, r2⟩ := vals2 r
  cases r1
  have ec : u2 = cv := by
    cases c <;> simp only [clsOf, Option.some.injEq, reduceCtorEq] at hcv
    · rw [← hcv]; exact r2
    · rw [← hcv]; exact r2
  subst ec
  have hget := (I.pin (a, oe) (List.mem_append_left _ hp)).1
  have J : PySem.W.InstAt s.heap a oe D none := by
    obtain ⟨oc, od, oda, osl⟩ := oe
    obtain ⟨z1, z2, _⟩ := hz
    obtain ⟨vs, hv⟩ := hf
    dsimp only at z1 z2 hv
    subst z1 z2 hv
    exact ⟨hget, rfl, rfl, trivial⟩
  exact PySem.W.kia_one (PySem.W.handS_kitx_exc C.hg C.hk C.hs C.hd C.ha C.hn C.ht C.hm) I.kIn J e (fun z => nomatch z) fun tk => ⟨.bl b, H, I.kept (t' := tk) fun _ _ z => z, rfl, q⟩
theorem tkN {a' : Addr} {pn' : List (Addr × Obj)} : L2N.Takes (X.suite a' pn') (fun _ _ _ _ => False) := fun _ _ ⟨_, _, _, _, _, _, _, _, _, _, _, _, _, _, _, _, w⟩ => w.elim
theorem tkB {s : Shared} {H : Hp} {sc : Scope} {ce : Env} {fp : List Addr} : L2N.Takes (X.blk s H sc ce fp) (fun _ _ _ _ => False) := fun _ _ ⟨_, _, _, _, _, _, _, _, _, _, _, _, _, _, _, _, w⟩ => w.elim
end
/-- a def of the module for suites, by its body -/
theorem fn_calE {P : Program} {w : World} {K : PySem.W.Frag} {mg : Str → Option Value} {base : Heap} {x : Str} {st : Stmt} {N ps : List Str} {k : Nat} {sp : Addr → Value → Option Addr → Sp} (F : FnP K (x, none) x x st) (hm : mg x = some (.ref (He.ga K x))) (S : FnScope N ps (defScope st))
    (len : ∀ a c d vs H Q E, sp a c d vs H Q E → vs.length = ps.length)
    (hbd : ∀ (kV doc pm : Value) (an : Option Addr) (cdv ct : Value) (us : List Value), us.length = ps.length → bindArgs (PySem.W.fnOf x x (defArgs st) (defBody st) (defScope st) .none kV doc pm an cdv ct) ⟨us, []⟩ = pure (ps.zip us))
    (hbody : ∀ (f : Addr) (cdv : Value) (A : Around) (outer : List Env) (s : Shared) (H : Hp) (vs : List V) (Q : VK) (E : XK) (p : Addr × Obj) (c : Value) (d : Option Addr), Hot1 A p → L2N.Zn c d p.2 → RoomH k (A.deeper (envOfC x (defScope st) s.heap.objs.size f cdv)) → sp p.1 c d vs H Q E →
      ∃ t, PSs (cxH (L2N.CX P w) P w K mg base N x (defScope st) f cdv A outer s H E p) (defBody st) t ∧ t { nx := fun _ H' => Q .non H', rt := Q } (L2.start N vs) H) : CalE P w K mg base (k + 1) x sp := by
  obtain ⟨fd, F⟩ := F
  obtain ⟨oc, od, dV, kV, doc, pm, an, cdv, ct, osl, rfl, lk, hcd, _, _⟩ := F.ex
  exact ⟨_, _, ps, fn_ofE lk hcd S len fun A outer s H vs Q E p c d h1 h2 hr h => hbody _ cdv A outer s H vs Q E p c d h1 h2 hr h, hm, F.kp, F.bindsN hbd⟩
theorem roomS {j k : Nat} {A : Around} {x : Option Value} (hr : Room j A) (h : k ≤ j) : RoomH k (A.mark x) := ⟨(roomH_of (hr.mono h)).dp, (roomH_of (hr.mono h)).un⟩
end RP

/-! ### rules whose readings simp can reckon -/
namespace RP
open PySem PySem.Spec PyProof.Rows L2
section
variable {X : Cx} {e : Expr} {st : Stmt}
theorem pe_imp {t t' : TE} (h : PE X e t) (i : ∀ σ H Q, t' σ H Q → t σ H Q) : PE X e t' := ⟨fun pins s σ H Q I q => h.run pins s σ H Q I (i σ H Q q)⟩
theorem pt_imp {t t' : TT} (h : PT X e t) (i : ∀ σ H Q, t' σ H Q → t σ H Q) : PT X e t' := ⟨fun pins s σ H Q I q => h.run pins s σ H Q I (i σ H Q q)⟩
theorem ps_imp {t t' : TS} (h : PS X st t) (i : ∀ D σ H, t' D σ H → t D σ H) : PS X st t' := ⟨fun pins s σ H D I q => h.run pins s σ H D I (i D σ H q)⟩
theorem call_imp {f : Value} {r r' : List V → Hp → VK → Prop} (h : CallR X f r) (i : ∀ vs H Q, r' vs H Q → r vs H Q) : CallR X f r' := fun pins s σ H xs us Q I v q => h pins s σ H xs us Q I v (i xs H Q q)
theorem op_imp {f : Value → Value → Sem Value} {r r' : R2} (h : OpR X f r) (i : ∀ x y H Q, r' x y H Q → r x y H Q) : OpR X f r' := fun pins s σ H x y v u Q I rx ry q => h pins s σ H x y v u Q I rx ry (i x y H Q q)
theorem ix_imp {r r' : R2} (h : IxR X r) (i : ∀ x y H Q, r' x y H Q → r x y H Q) : IxR X r' := fun a b pins s σ H x y v u Q I rx ry q => h a b pins s σ H x y v u Q I rx ry (i x y H Q q)
end
/-! #### what stands at a value -/
def tyN (H : Hp) : V → Option String
  | .non => some "NoneType"
  | .bl _ => some "bool"
  | .int _ => some "int"
  | .str _ => some "str"
  | .ref a => match H a with
    | some (.lst _) => some "list"
    | some (.tup _) => some "tuple"
    | some (.dK _) => some "dict"
    | _ => none
  | _ => none
def seqO (H : Hp) (a : Addr) : Option (List V) := match H a with
  | some (.lst xs) => some xs
  | some (.tup xs) => some xs
  | some (.frz _ (.lst xs)) => some xs
  | _ => none
def keyV : V → Option Key
  | .int n => some (.inl n)
  | .str x => some (.inr x)
  | _ => none
theorem keyV_eq {v : V} {k : Key} (h : keyV v = some k) : v = kV k := by
  cases v <;> simp only [keyV, Option.some.injEq, reduceCtorEq] at h <;> subst h <;> rfl
theorem tyN_ok {K : PySem.W.Frag} {H : Hp} {x : V} {t : String} (h : tyN H x = some t) : TyX K H x (.type t) := by
  cases x with
  | non => cases h; exact .base .non
  | bl b => cases h; exact .base (.bl b)
  | int i => cases h; exact .base (.int i)
  | str s => cases h; exact .base (.str s)
  | byt b => cases h
  | flt b => cases h
  | ty n => cases h
  | ref a =>
    unfold tyN at h
    dsimp only at h
    split at h
    · cases h; exact .base (.lst (by assumption))
    · cases h; exact .base (.tup (by assumption))
    · cases h; exact .base (.dK (by assumption))
    · cases h
theorem seqO_ok {K : PySem.W.Frag} {H : Hp} {a : Addr} {xs : List V} (h : seqO H a = some xs) : SqL K H a xs ∨ SqT K H a xs := by
  unfold seqO at h
  split at h
  · cases h; exact .inl (SqL.of (by assumption))
  · cases h; exact .inr (SqT.of (by assumption))
  · cases h; exact .inl (.inl (.inr ⟨_, by assumption⟩))
  · cases h
section
variable {X : Cx}
def rIsC : List V → Hp → VK → Prop := fun vs H Q => ∃ x c t b, vs = [x, .ty c] ∧ tyN H x = some t ∧ kitB t c = some b ∧ Q (.bl b) H
theorem call_isC : CallR X (.builtin "isinstance") rIsC := call_imp call_isi fun vs H Q ⟨x, c, t, b, e, h1, h2, q⟩ => ⟨x, .ty c, .type t, .type c, b, e, .ty c, tyN_ok h1, kit_ty h2, q⟩
def lenO (H : Hp) (a : Addr) : Option Nat := match H a with
  | some (.dK kvs) => some kvs.length
  | _ => (seqO H a).map List.length
def rLenC : List V → Hp → VK → Prop := fun vs H Q => ∃ a n, vs = [.ref a] ∧ lenO H a = some n ∧ Q (.int (n : Int)) H
theorem call_lenC : CallR X (.builtin "len") rLenC := by
  intro pins s σ H xs us Q I r h
  obtain ⟨a, n, rfl, e, q⟩ := h
  unfold lenO at e
  split at e
  · cases e
    exact call_lenD pins s σ H _ us Q I r ⟨_, _, rfl, by assumption, q⟩
  · obtain ⟨ys, e1, rfl⟩ := Option.map_eq_some_iff.mp e
    exact call_len_seq pins s σ H _ us Q I r ⟨_, _, rfl, seqO_ok e1, q⟩
def rIxC : R2 := fun x y H Q => ∃ p xs i v, x = .ref p ∧ y = .int i ∧ seqO H p = some xs ∧ atI xs i = some v ∧ Q v H
theorem ix_C : IxR X rIxC := ix_imp (IxR.or ix_list ix_tup) fun x y H Q ⟨p, xs, i, v, e1, e2, h, a, q⟩ => (seqO_ok (K := X.K) h).elim (fun z => .inl ⟨p, xs, i, v, e1, e2, z, a, q⟩) fun z => .inr ⟨p, xs, i, v, e1, e2, z, a, q⟩
def rInC (neg : Bool) : R2 := fun x y H Q => ∃ p xs, y = .ref p ∧ seqO H p = some xs ∧ flatV x = true ∧ xs.all flatV = true ∧ Q (.bl (if neg then !inV x xs else inV x xs)) H
theorem op_inC : OpR X (compareOp .In) (rInC false) := op_imp op_in_seq fun x y H Q ⟨p, xs, e, h, f1, f2, q⟩ => ⟨p, xs, e, seqO_ok h, f1, f2, q⟩
theorem op_notInC : OpR X (compareOp .NotIn) (rInC true) := op_imp op_notIn_seq fun x y H Q ⟨p, xs, e, h, f1, f2, q⟩ => ⟨p, xs, e, seqO_ok h, f1, f2, q⟩
/-! #### dicts with keys that are ints or texts -/
variable {a b o i value : Expr} {pos pos' apos cpos : Pos} {td ty tv te : TE}
def tInD (neg : Bool) (ty td : TE) : TE := fun σ H Q => ty σ H fun y H1 => td σ H1 fun x H2 => ∃ a kvs k, x = .ref a ∧ H2 a = some (.dK kvs) ∧ keyV y = some k ∧ Q (.bl (if neg then !(valV kvs k).isSome else (valV kvs k).isSome)) H2
theorem pc_imp {op : CmpOp} {t t' : TE} (h : PC X op a b t) (i : ∀ σ H Q, t' σ H Q → t σ H Q) : PC X op a b t' := ⟨fun pins s σ H Q I q => h.run pins s σ H Q I (i σ H Q q)⟩
/-- what must hold, by a wish that is less -/
def tMn (t : TE) : TE := fun σ H Q => ∃ R : VK, t σ H R ∧ ∀ x H1, R x H1 → Q x H1
theorem pe_mn {t : TE} (h : PE X a t) : PE X a (tMn t) := ⟨fun pins s σ H Q I ⟨R, r, m⟩ => thn (h.run pins s σ H R I r) fun u s1 ⟨v, H1, I1, rv, q⟩ => ⟨v, H1, I1, rv, m _ _ q⟩⟩
def tMnA (t : TA) : TA := fun σ H Q => ∃ R : List V → Hp → Prop, t σ H R ∧ ∀ x H1, R x H1 → Q x H1
theorem getK {H : Hp} {a : Addr} {kvs : List (Key × V)} {k : Key} {y : V} (e : H a = some (.dK kvs)) (h : keyV y = some k) : DGet H a y (valV kvs k) := by
  rw [keyV_eq h]
  exact DGet.k e
theorem pc_inD (hu : X.A.units + 1 < cLine) (hi : PE X i ty) (ho : PE X o td) : PC X .In i o (tInD false ty td) :=
  pc_imp (pc_din hu (pe_mn hi) (pe_mn ho)) fun σ H Q h => ⟨_, h, fun y H1 q => ⟨_, q, fun x H2 ⟨a, kvs, k, e, ea, ek, q⟩ => ⟨a, _, e, getK ea ek, q⟩⟩⟩
theorem pc_notinD (hu : X.A.units + 1 < cLine) (hi : PE X i ty) (ho : PE X o td) : PC X .NotIn i o (tInD true ty td) :=
  pc_imp (pc_dnotin hu (pe_mn hi) (pe_mn ho)) fun σ H Q h => ⟨_, h, fun y H1 q => ⟨_, q, fun x H2 ⟨a, kvs, k, e, ea, ek, q⟩ => ⟨a, _, e, getK ea ek, q⟩⟩⟩
def tGetD (td ty : TE) : TE := fun σ H Q => td σ H fun x H1 => ty σ H1 fun y H2 => ∃ a kvs k v, x = .ref a ∧ H2 a = some (.dK kvs) ∧ keyV y = some k ∧ valV kvs k = some v ∧ Q v H2
theorem pe_getD (hu : X.A.units + 1 < cLine) (ho : PE X o td) (hi : PE X i ty) (hs : NoSl i) : PE X (.Subscript o i pos) (tGetD td ty) :=
  pe_imp (pe_dget hu (pe_mn ho) (pe_mn hi) hs) fun σ H Q h => ⟨_, h, fun y H1 q => ⟨_, q, fun x H2 ⟨a, kvs, k, v, e, ea, ek, ev, q⟩ => ⟨a, v, e, ev ▸ getK ea ek, q⟩⟩⟩
def sPutD (td ty tv : TE) : TS := fun D σ H => tv σ H fun v H1 => td σ H1 fun x H2 => ty σ H2 fun y H3 => ∃ a kvs k, x = .ref a ∧ H3 a = some (.dK kvs) ∧ keyV y = some k ∧ kvs.length < sizeLine ∧ D.nx σ (upd H3 a (.dK (putK kvs k v)))
theorem ps_putD (hu : X.A.units + 1 < cLine) (ho : PE X o td) (hi : PE X i ty) (hv : PE X value tv) (hs : swapsWith value (some (.Subscript o i pos')) pos.line X.env = pure false) :
    PS X (.Assign [.Subscript o i pos'] value pos) (sPutD td ty tv) :=
  ps_imp (ps_dput hu (pe_mn ho) (pe_mn hi) (pe_mn hv) hs) fun D σ H h => ⟨_, h, fun v H1 q => ⟨_, q, fun x H2 q => ⟨_, q, fun y H3 ⟨a, kvs, k, e, ea, ek, hl, q⟩ => ⟨a, _, e, by rw [keyV_eq ek]; exact DPut.k ea hl, q⟩⟩⟩⟩
def tPopD (td ty : TE) : TE := fun σ H Q => td σ H fun x H1 => ∃ a kvs, x = .ref a ∧ H1 a = some (.dK kvs) ∧ ty σ H1 fun y H2 => ∃ kvs k v, H2 a = some (.dK kvs) ∧ keyV y = some k ∧ valV kvs k = some v ∧ Q v (upd H2 a (.dK (dropK kvs k)))
theorem pe_popD (ho : PE X o td) (he : PE X e ty) (m : M1 X o "pop" apos e cpos) : PE X (.Call (.Attribute o "pop" apos) [e] [] cpos) (tPopD td ty) :=
  pe_imp (pe_dpop1 (pe_mn ho) (pe_mn he) m) fun σ H Q h => ⟨_, h, fun x H1 ⟨a, kvs, e, ea, q⟩ => ⟨a, e, (.inl ⟨kvs, .inl ea⟩), ⟨_, q, fun y H2 ⟨kvs, k, v, e2, ek, ev, q⟩ => ⟨kvs, k, v, e2, keyV_eq ek, ev, q⟩⟩⟩⟩
/-! #### lists -/
variable {tl : TE} {t : TA} {es : List Expr}
def tAppC (tl te : TE) : TE := fun σ H Q => tl σ H fun x H1 => ∃ l ys, x = .ref l ∧ H1 l = some (.lst ys) ∧ te σ H1 fun y H2 => ∃ xs, H2 l = some (.lst xs) ∧ xs.length < sizeLine ∧ Q .non (upd H2 l (.lst (xs ++ [y])))
theorem pe_app (hl : PE X o tl) (he : PE X e te) (hbase : attributeBase o "append" X.env (eval o X.env) = eval o X.env := by rfl)
    (hfew : ((backTo cpos (starEach [e] X.env)).all (fun x => !x.1) && (backToKw cpos (keywordEach [] X.env)).all (fun x => x.1.isSome) && decide (([e] : List Expr).length + ([] : List Keyword).length + (if ([] : List Keyword).isEmpty then 0 else 1) < 30)) = true := by rfl)
    (hline : (apos.endLine == cpos.line) = true := by rfl) (hs : starEach [e] X.env = (false, eval e X.env) :: starEach [] X.env := by rfl) (hplain : (backTo cpos (starEach [] X.env)).any (·.1) = false := by rfl) :
    PE X (.Call (.Attribute o "append" apos) [e] [] cpos) (tAppC tl te) :=
  pe_imp (pe_bm PySem.F.plainAttrs_list PySem.F.slot_list_append PySem.F.type_list_append mt_append (pe_mn hl) (pa_cons (pe_mn he) pa_nil hs) hbase hfew hline hs hplain)
    fun σ H Q h => ⟨_, h, fun x H1 ⟨l, ys, e1, e2, q⟩ => ⟨by rw [e1]; exact .inl ⟨rfl, _, SqL.of e2⟩, ⟨_, q, fun y H2 ⟨xs, e3, z, q⟩ => ⟨l, xs, y, e1, rfl, e3, z, q⟩⟩⟩⟩
/-! #### data, compared -/
def mapO (f : V → Option PyData) : List V → Option (List PyData)
  | [] => some []
  | v :: r => match f v, mapO f r with
    | some d, some ds => some (d :: ds)
    | _, _ => none
def dat (H : Hp) : Nat → V → Option PyData
  | _, .non => some .none
  | _, .bl b => some (.bool b)
  | _, .int i => some (.int i)
  | _, .str x => some (.str x)
  | n + 1, .ref a => match H a with
    | some (.lst xs) => (mapO (dat H n) xs).map PyData.list
    | some (.tup xs) => (mapO (dat H n) xs).map PyData.tuple
    | some (.frz _ (.lst xs)) => (mapO (dat H n) xs).map PyData.list
    | _ => none
  | _, _ => none
theorem mapO_ok {K : PySem.W.Frag} {H : Hp} {f : V → Option PyData} (hf : ∀ v d, f v = some d → Dp K H v d) : ∀ {xs : List V} {ds : List PyData}, mapO f xs = some ds → DpAll K H xs ds
  | [], ds, h => by cases h; exact .nil
  | v :: r, ds, h => by
    unfold mapO at h
    split at h
    · rename_i d ds' h1 h2
      cases h
      exact .cons (hf _ _ h1) (mapO_ok hf h2)
    · cases h
theorem dat_ok {K : PySem.W.Frag} {H : Hp} : ∀ (n : Nat) (v : V) (d : PyData), dat H n v = some d → Dp K H v d
  | _, .non, d, h => by
    unfold dat at h
    cases h
    exact .non
  | _, .bl b, d, h => by
    unfold dat at h
    cases h
    exact .bl b
  | _, .int i, d, h => by
    unfold dat at h
    cases h
    exact .int i
  | _, .str x, d, h => by
    unfold dat at h
    cases h
    exact .str x
  | 0, .ref a, d, h => by
    unfold dat at h
    cases h
  | n + 1, .ref a, d, h => by
    unfold dat at h
    split at h
    · obtain ⟨ds, e, rfl⟩ := Option.map_eq_some_iff.mp h
      exact .lst (SqL.of (by assumption)) (mapO_ok (dat_ok n) e)
    · obtain ⟨ds, e, rfl⟩ := Option.map_eq_some_iff.mp h
      exact .tup (SqT.of (by assumption)) (mapO_ok (dat_ok n) e)
    · obtain ⟨ds, e, rfl⟩ := Option.map_eq_some_iff.mp h
      exact .lst (.inl (.inr ⟨_, by assumption⟩)) (mapO_ok (dat_ok n) e)
    · cases h
  | 0, .byt b, d, h => by unfold dat at h; cases h
  | 0, .flt b, d, h => by unfold dat at h; cases h
  | 0, .ty n, d, h => by unfold dat at h; cases h
  | _ + 1, .byt b, d, h => by unfold dat at h; cases h
  | _ + 1, .flt b, d, h => by unfold dat at h; cases h
  | _ + 1, .ty n, d, h => by unfold dat at h; cases h
def rEqC (neg : Bool) : R2 := fun x y H Q => ∃ d e, dat H 8 x = some d ∧ dat H 8 y = some e ∧ SeqAt.shaped d = true ∧ SeqAt.shaped e = true ∧ Q (.bl (if neg then !PyData.eqv d e else PyData.eqv d e)) H
theorem op_eqC (hu : X.A.units + 64 < cLine) : OpR X (compareOp .Eq) (rEqC false) := op_imp (op_eqD hu) fun x y H Q ⟨d, e, h1, h2, s1, s2, q⟩ => ⟨d, e, dat_ok _ _ _ h1, dat_ok _ _ _ h2, s1, s2, q⟩
theorem op_neC (hu : X.A.units + 64 < cLine) : OpR X (compareOp .NotEq) (rEqC true) := op_imp (op_neD hu) fun x y H Q ⟨d, e, h1, h2, s1, s2, q⟩ => ⟨d, e, dat_ok _ _ _ h1, dat_ok _ _ _ h2, s1, s2, q⟩
/-! #### text * int -/
theorem op_mul_str : OpR X (binaryOp .Mult) (fun x y H Q => ∃ z n, x = .str z ∧ y = .int n ∧ MulOk z n ∧ Q (.str (Txt.mul z n)) H) := by
  rintro pins s σ H x y v u Q I rx ry ⟨z, n, rfl, rfl, hz, q⟩
  obtain ⟨t, rfl⟩ := rx
  obtain ⟨t', rfl⟩ := ry
  exact SB.mul hz fun t1 k => ⟨.str (Txt.mul z n), H, I.tok _, ⟨_, rfl⟩, q⟩
/-! #### is, is not of truth values -/
end
/-! #### min of three, of four -/
section
variable {prog : Program} {w : World} {A : Around} {E : Value → Shared → Prop} {s : Shared}
theorem call_min_of {us : List Value} (hsz : sizeOk (.seq us.toArray)) (ha : argsOk "min" ⟨us, []⟩) (hp : ∀ s : Shared, (Builtin.Builtins.bindParams "min" ["key", "default"] 0 ⟨[], []⟩) = pure [none, none]) {a b : Value} {r : List Value} (hus : us = a :: b :: r) {Q : Value → Shared → Prop}
    (h : wpAny (model prog w) A.in1 (pyIter (.ref s.heap.objs.size)) (fun it s₂ => ∃ I fp wr n P St bt, it = .ref I ∧ Walks prog w A.in1 I fp wr n P St ∧ St 0 s₂.heap ∧ (∀ b ∈ fp, b < s₂.heap.objs.size) ∧ 0 < n ∧ CmpOf prog w A.in1 .Lt P bt ∧
      ∀ v h' tk, P (argBest bt (n - 1)) v → (∀ b o, b ∉ wr → s₂.heap.get? b = some o → h'.get? b = some o) → Q v { s₂ with heap := h', toks := tk }) E
      { s with heap := s.heap.push { cls := .type "tuple", data := .seq us.toArray } }) :
    wpAny (model prog w) A (call (.builtin "min") us) Q E s := by
  subst hus
  have hname : (toString "min" ++ toString ".loop" : String) = "min.loop" := by decide
  refine call_function_tree F.kind_min F.plain_min F.entry_min ha ?_
  show wpAny _ A.in1 (Builtin.Builtins.bindParams "min" ["key", "default"] 0 ⟨[], []⟩ >>= _) _ _ s
  refine wpAny_bind (wpAny_of_eq (hp s) ?_)
  show wpAny _ A.in1 (newTuple (a :: b :: r) >>= _) _ _ s
  refine wpAny_bind (wpAny_newObj_type ?_ hsz)
  refine wpAny_bind (wpAny_mono h (fun it s₂ h₂ => ?_) fun _ _ e => e)
  obtain ⟨I, fp, wr, n, P, St, bt, rfl, W, hst, hfp, hn, hcmp, hQ⟩ := h₂
  refine wpAny_bind (wpAny_newObj_type ?_)
  have hSf : s₂.heap.objs.size ∉ fp := fun hm => Nat.lt_irrefl _ (hfp _ hm)
  rw [hname]
  refine wpAny_pure ⟨plainId_quiet F.plain_min_loop _, codeAny_min_loop_first W bt hcmp s₂.heap.objs.size hSf hn (W.frame _ _ _ hst fun b _ o e => Heap.get?_push_of_some _ e) (Heap.get?_push_size _ rfl) fun v h' tk hP hk => ?_⟩
  exact hQ v h' tk hP fun b o hbw e => hk b o hbw (Nat.ne_of_lt (Heap.lt_size e)) (Heap.get?_push_of_some _ e)
theorem min_walk {xs : Array (Int × Tok)} {us : List Value} (hxs : (intItems xs).toList = us) (hsz : sizeOk (.seq us.toArray)) (ha : argsOk "min" ⟨us, []⟩) {a b : Value} {r : List Value} (hus : us = a :: b :: r) (hh : A.handled = none) {Q : Value → Shared → Prop}
    (h : ∀ v h' tk, (intItems xs)[argBest (fun i j => decide (numAt xs i < numAt xs j)) (xs.size - 1)]? = some v → (∀ c o, s.heap.get? c = some o → h'.get? c = some o) → Q v { s with heap := h', toks := tk }) :
    wpAny (model prog w) A (call (.builtin "min") us) Q E s := by
  have hu : us.toArray = intItems xs := by rw [← hxs]
  have hT : (s.heap.push { cls := .type "tuple", data := .seq us.toArray }).IsTuple s.heap.objs.size (intItems xs) := ⟨_, Heap.get?_push_size _ rfl, rfl, 0, by rw [hu]⟩
  have hn : 0 < (intItems xs).size := by rw [← hu, hus]; simp
  refine call_min_of hsz ha (fun _ => rfl) hus (wpAny_pyIter_tuple hT ?_)
  have hs1 : (s.heap.push { cls := .type "tuple", data := .seq us.toArray }).objs.size = s.heap.objs.size + 1 := Heap.size_push ..
  refine ⟨_, [_, s.heap.objs.size], [_], _, _, _, _, rfl, Walks.tuple (A := A.in1) hh _ s.heap.objs.size (by rw [hs1]; exact Nat.ne_of_lt (Nat.lt_succ_self _)) (intItems xs),
    ⟨⟨_, Heap.get?_push_size _ rfl, rfl, rfl⟩, hT.push _⟩, fun c hc => ?_, hn, CmpOf.ints_lt (numAt xs) (fun _ _ => intItems_at), fun v h' tk hP hk => ?_⟩
  · show c < ((s.heap.push _).push _).objs.size
    rw [Heap.size_push, hs1]
    simp only [List.mem_cons, List.not_mem_nil, or_false, hs1] at hc
    rcases hc with rfl | rfl
    · exact Nat.lt_succ_self _
    · exact Nat.lt_succ_of_lt (Nat.lt_succ_self _)
  · refine h v h' tk (by simpa [intItems] using hP) fun c o e => hk c o (fun hm => ?_) (Heap.get?_push_of_some _ (Heap.get?_push_of_some _ e))
    have hlt := Heap.lt_size e
    simp only [List.mem_cons, List.not_mem_nil, or_false, hs1] at hm
    rw [hm] at hlt
    exact Nat.lt_irrefl _ (Nat.lt_of_succ_lt hlt)
def mn2 (a b : Int) : Int := if b < a then b else a
theorem args_min3 (a b c : Value) : argsOk "min" ⟨[a, b, c], []⟩ := by unfold argsOk; kernel_rfl
theorem args_min4 (a b c d : Value) : argsOk "min" ⟨[a, b, c, d], []⟩ := by unfold argsOk; kernel_rfl
theorem min_three {a b c : Int} {t u v : Tok} {Q : Value → Shared → Prop} (hh : A.handled = none)
    (h : ∀ h' tk z, (∀ c o, s.heap.get? c = some o → h'.get? c = some o) → Q (.int (mn2 (mn2 a b) c) z) { s with heap := h', toks := tk }) :
    wpAny (model prog w) A (call (.builtin "min") [.int a t, .int b u, .int c v]) Q E s := by
  refine min_walk (us := [.int a t, .int b u, .int c v]) (xs := #[(a, t), (b, u), (c, v)]) (by simp [intItems]) (by size_fits) (args_min3 _ _ _) rfl hh fun r h' tk hr hk => ?_
  have e : ∃ z, r = .int (mn2 (mn2 a b) c) z := by
    unfold mn2
    by_cases h1 : b < a <;> by_cases h2 : c < b <;> by_cases h3 : c < a <;> simp [intItems, argBest, numAt, h1, h2, h3] at hr ⊢ <;> subst hr <;> exact ⟨_, rfl⟩
  obtain ⟨z, rfl⟩ := e
  exact h h' tk z hk
theorem min_four {a b c d : Int} {t u v y : Tok} {Q : Value → Shared → Prop} (hh : A.handled = none)
    (h : ∀ h' tk z, (∀ c o, s.heap.get? c = some o → h'.get? c = some o) → Q (.int (mn2 (mn2 (mn2 a b) c) d) z) { s with heap := h', toks := tk }) :
    wpAny (model prog w) A (call (.builtin "min") [.int a t, .int b u, .int c v, .int d y]) Q E s := by
  refine min_walk (us := [.int a t, .int b u, .int c v, .int d y]) (xs := #[(a, t), (b, u), (c, v), (d, y)]) (by simp [intItems]) (by size_fits) (args_min4 _ _ _ _) rfl hh fun r h' tk hr hk => ?_
  have e : ∃ z, r = .int (mn2 (mn2 (mn2 a b) c) d) z := by
    unfold mn2
    by_cases h1 : b < a <;> by_cases h2 : c < b <;> by_cases h3 : c < a <;> by_cases h4 : d < a <;> by_cases h5 : d < b <;> by_cases h6 : d < c <;> simp [intItems, argBest, numAt, h1, h2, h3, h4, h5, h6] at hr ⊢ <;> subst hr <;> exact ⟨_, rfl⟩
  obtain ⟨z, rfl⟩ := e
  exact h h' tk z hk
end
section
variable {X : Cx}
theorem call_min3 (hc : X.calm = true) : CallR X (.builtin "min") (fun xs H Q => ∃ i j k, xs = [.int i, .int j, .int k] ∧ Q (.int (mn2 (mn2 i j) k)) H) := by
  rintro pins s σ H xs us Q I r ⟨i, j, k, rfl, q⟩
  cases r with
  | cons r1 r => cases r with
    | cons r2 r => cases r with
      | cons r3 r =>
        cases r
        obtain ⟨t1, rfl⟩ := r1
        obtain ⟨t2, rfl⟩ := r2
        obtain ⟨t3, rfl⟩ := r3
        exact min_three (I.ok.hd hc) fun h' tk z kp => ⟨.int _, H, I.kept kp, ⟨_, rfl⟩, q⟩
theorem call_min4 (hc : X.calm = true) : CallR X (.builtin "min") (fun xs H Q => ∃ i j k l, xs = [.int i, .int j, .int k, .int l] ∧ Q (.int (mn2 (mn2 (mn2 i j) k) l)) H) := by
  rintro pins s σ H xs us Q I r ⟨i, j, k, l, rfl, q⟩
  cases r with
  | cons r1 r => cases r with
    | cons r2 r => cases r with
      | cons r3 r => cases r with
        | cons r4 r =>
          cases r
          obtain ⟨t1, rfl⟩ := r1
          obtain ⟨t2, rfl⟩ := r2
          obtain ⟨t3, rfl⟩ := r3
          obtain ⟨t4, rfl⟩ := r4
          exact min_four (I.ok.hd hc) fun h' tk z kp => ⟨.int _, H, I.kept kp, ⟨_, rfl⟩, q⟩
end
end RP

/-! ### readings, reckoned by simp: one theorem of equations -/
namespace RP
open PySem PySem.Spec PyProof.Rows L2
theorem RDa :
    (∀ (i : Nat) (σ : L2.St) (H : Hp) (Q : VK), tVar i σ H Q = ∃ v, σ[i]? = some (some v) ∧ Q v H) ∧
    (∀ (v : V) (σ : L2.St) (H : Hp) (Q : VK), tC v σ H Q = Q v H) ∧
    (∀ (r : R2) (ta tb : TE) (σ : L2.St) (H : Hp) (Q : VK), tOp r ta tb σ H Q = ta σ H fun x H1 => tb σ H1 fun y H2 => r x y H2 Q) ∧
    (∀ (r : V → Hp → VK → Prop) (ta : TE) (σ : L2.St) (H : Hp) (Q : VK), tUn r ta σ H Q = ta σ H fun x H1 => r x H1 Q) ∧
    (∀ (C : Int → Int → Prop) (g : Int → Int → V) (x y : V) (H : Hp) (Q : VK), rI C g x y H Q = ∃ i j, x = .int i ∧ y = .int j ∧ C i j ∧ Q (g i j) H) ∧
    (∀ (g : Int → Int → V) (x y : V) (H : Hp) (Q : VK), rI0 g x y H Q = ∃ i j, x = .int i ∧ y = .int j ∧ Q (g i j) H) ∧
    (∀ (g : Int → V) (x : V) (H : Hp) (Q : VK), rU g x H Q = ∃ i, x = .int i ∧ Q (g i) H) ∧
    (∀ (t : TE) (σ : L2.St) (H : Hp) (Q : Bool → Hp → Prop), tB t σ H Q = t σ H fun x H1 => ∃ c, x = .bl c ∧ Q c H1) ∧
    (∀ (t : TE) (σ : L2.St) (H : Hp) (Q : Bool → Hp → Prop), tTest t σ H Q = t σ H fun x H1 => ∃ c, x = .bl c ∧ Q c H1) ∧
    (∀ (t u : TT) (σ : L2.St) (H : Hp) (Q : Bool → Hp → Prop), tAnd t u σ H Q = t σ H fun c H1 => if c = true then u σ H1 Q else Q false H1) ∧
    (∀ (t u : TT) (σ : L2.St) (H : Hp) (Q : Bool → Hp → Prop), tOr t u σ H Q = t σ H fun c H1 => if c = true then Q true H1 else u σ H1 Q) ∧
    (∀ (t : TT) (σ : L2.St) (H : Hp) (Q : Bool → Hp → Prop), tNot t σ H Q = t σ H fun c H1 => Q (!c) H1) ∧
    (∀ (ta tb : TE) (σ : L2.St) (H : Hp) (Q : VK), tAndV ta tb σ H Q = ta σ H fun x H1 => ∃ c, x = .bl c ∧ if c = true then tb σ H1 Q else Q (.bl false) H1) ∧
    (∀ (ta tb : TE) (σ : L2.St) (H : Hp) (Q : VK), tOrV ta tb σ H Q = ta σ H fun x H1 => ∃ c, x = .bl c ∧ if c = true then Q (.bl true) H1 else tb σ H1 Q) ∧
    (∀ (ta : TE) (σ : L2.St) (H : Hp) (Q : VK), tNotV ta σ H Q = ta σ H fun x H1 => ∃ c, x = .bl c ∧ Q (.bl (!c)) H1) ∧
    (∀ (t : TT) (ta tb : TE) (σ : L2.St) (H : Hp) (Q : VK), tIf t ta tb σ H Q = t σ H fun c H1 => if c = true then ta σ H1 Q else tb σ H1 Q) ∧
    (∀ (r r' : R2) (ta tb tc : TE) (σ : L2.St) (H : Hp) (Q : VK), tChain r r' ta tb tc σ H Q = ta σ H fun x H1 => tb σ H1 fun y H2 => r x y H2 fun z H3 => ∃ k, z = .bl k ∧ (if k = true then tc σ H3 fun w' H4 => r' y w' H4 Q else Q (.bl false) H3)) ∧
    (∀ (D : Ends) (σ : L2.St) (H : Hp), tNext D σ H = D.nx σ H) ∧
    (∀ (t u : TS) (D : Ends) (σ : L2.St) (H : Hp), tSeq t u D σ H = t { D with nx := u D } σ H) ∧
    (∀ (te : TE) (D : Ends) (σ : L2.St) (H : Hp), tDrop te D σ H = te σ H fun _ H1 => D.nx σ H1) ∧
    (∀ (te : TE) (D : Ends) (σ : L2.St) (H : Hp), tRet te D σ H = te σ H D.rt) ∧
    (∀ (D : Ends) (σ : L2.St) (H : Hp), tRetN D σ H = D.rt .non H) ∧
    (∀ (c : TT) (t u : TS) (D : Ends) (σ : L2.St) (H : Hp), tIfS c t u D σ H = c σ H fun b H1 => if b = true then t D σ H1 else u D σ H1) ∧
    (∀ (te : TE) (g : TG) (D : Ends) (σ : L2.St) (H : Hp), tAsg te g D σ H = te σ H fun x H1 => g x σ H1 D.nx) ∧
    (∀ (i : Nat) (v : V) (σ : L2.St) (H : Hp) (Q : L2.St → Hp → Prop), gName i v σ H Q = Q (σ.set i (some v)) H) ∧
    (∀ (vs : List V) (σ : L2.St) (H : Hp) (Q : L2.St → Hp → Prop), gNil vs σ H Q = (vs = [] ∧ Q σ H)) ∧
    (∀ (t : TG) (u : TGs) (vs : List V) (σ : L2.St) (H : Hp) (Q : L2.St → Hp → Prop), gCons t u vs σ H Q = ∃ v r, vs = v :: r ∧ t v σ H fun σ' H' => u r σ' H' Q) ∧
    (∀ (to ti : TE) (t : TSet) (v : V) (σ : L2.St) (H : Hp) (Q : L2.St → Hp → Prop), gSub to ti t v σ H Q = to σ H fun o H1 => ti σ H1 fun i H2 => t o i v H2 fun H3 => Q σ H3) :=
  ⟨fun _ _ _ _ => rfl, fun _ _ _ _ => rfl, fun _ _ _ _ _ _ => rfl, fun _ _ _ _ _ => rfl, fun _ _ _ _ _ _ => rfl, fun _ _ _ _ _ => rfl, fun _ _ _ _ => rfl, fun _ _ _ _ => rfl, fun _ _ _ _ => rfl, fun _ _ _ _ _ => rfl, fun _ _ _ _ _ => rfl, fun _ _ _ _ => rfl, fun _ _ _ _ _ => rfl,
   fun _ _ _ _ _ => rfl, fun _ _ _ _ => rfl, fun _ _ _ _ _ _ => rfl, fun _ _ _ _ _ _ _ _ => rfl, fun _ _ _ => rfl, fun _ _ _ _ _ => rfl, fun _ _ _ _ => rfl, fun _ _ _ _ => rfl, fun _ _ _ => rfl, fun _ _ _ _ _ _ => rfl, fun _ _ _ _ _ => rfl, fun _ _ _ _ _ => rfl, fun _ _ _ _ => rfl, fun _ _ _ _ _ _ => rfl, fun _ _ _ _ _ _ _ => rfl⟩
theorem RDb :
    (∀ (K : PySem.W.Frag) (ta : TE) (f : Str) (σ : L2.St) (H : Hp) (Q : VK), tFld K ta f σ H Q = ta σ H fun x H1 => ∃ a C dx fs v, x = .ref a ∧ H1 a = some (.ins C dx fs) ∧ Cls K C ∧ NoAttr K C f ∧ fs.lookup f = some v ∧ Q v H1) ∧
    (∀ (K : PySem.W.Frag) (ta tv : TE) (f : Str) (D : Ends) (σ : L2.St) (H : Hp), sFld K ta tv f D σ H = tv σ H fun y H1 => ta σ H1 fun x H2 => ∃ a C dx fs, x = .ref a ∧ H2 a = some (.ins C dx fs) ∧ Cls K C ∧ NoAttr K C f ∧ fs.length < 1000 ∧ D.nx σ (upd H2 a (.ins C dx (putF f y fs)))) ∧
    (∀ (σ : L2.St) (H : Hp) (Q : List V → Hp → Prop), tNil σ H Q = Q [] H) ∧
    (∀ (ta : TE) (tr : TA) (σ : L2.St) (H : Hp) (Q : List V → Hp → Prop), tCons ta tr σ H Q = ta σ H fun x H1 => tr σ H1 fun xs H2 => Q (x :: xs) H2) ∧
    (∀ (t : TA) (σ : L2.St) (H : Hp) (Q : VK), tTup t σ H Q = t σ H fun xs H1 => xs.length ≤ sizeLine ∧ ∀ p, H1 p = none → Q (.ref p) (upd H1 p (.tup xs))) ∧
    (∀ (t : TA) (σ : L2.St) (H : Hp) (Q : VK), tLst t σ H Q = t σ H fun xs H1 => xs.length ≤ sizeLine ∧ ∀ p, H1 p = none → Q (.ref p) (upd H1 p (.lst xs))) ∧
    (∀ (r : List V → Hp → VK → Prop) (t : TA) (σ : L2.St) (H : Hp) (Q : VK), tCB r t σ H Q = t σ H fun vs H1 => r vs H1 Q) ∧
    (∀ (sp : Sp) (E : L2.St → XK) (t : TA) (σ : L2.St) (H : Hp) (Q : VK), tCallS sp E t σ H Q = t σ H fun vs H1 => sp vs H1 Q (E σ)) ∧
    (∀ (C : Addr) (m : Str) (sp : Sp) (E : L2.St → XK) (ta : TE) (t : TA) (σ : L2.St) (H : Hp) (Q : VK), tMethS C m sp E ta t σ H Q = ta σ H fun x H1 => ∃ a dx fs, x = .ref a ∧ H1 a = some (.ins C dx fs) ∧ fs.lookup m = none ∧ t σ H1 fun vs H2 => sp (x :: vs) H2 Q (E σ)) ∧
    (∀ (C : Addr) (sp : Sp) (E : L2.St → XK) (t : TA) (σ : L2.St) (H : Hp) (Q : VK), tMakeS C sp E t σ H Q = t σ H fun vs H1 => ∀ x dx, H1 x = none → H1 dx = none → dx ≠ x → sp (.ref x :: vs) (upd (upd H1 dx (.own x)) x (.ins C dx [])) (fun v H2 => v = .non ∧ Q (.ref x) H2) (E σ)) ∧
    (∀ (x y : V) (H : Hp) (Q : VK), rEq x y H Q = (scal x y = true ∧ Q (.bl (decide (x = y))) H)) ∧
    (∀ (x y : V) (H : Hp) (Q : VK), rNe x y H Q = (scal x y = true ∧ Q (.bl (!decide (x = y))) H)) ∧
    (∀ (i j : Int), scal (.int i) (.int j) = true) ∧ (∀ (i j : Str), scal (.str i) (.str j) = true) ∧ (∀ (i j : Bool), scal (.bl i) (.bl j) = true) ∧
    (∀ (vs : List V) (H : Hp) (Q : VK), rIsC vs H Q = ∃ x c t b, vs = [x, .ty c] ∧ tyN H x = some t ∧ kitB t c = some b ∧ Q (.bl b) H) ∧
    (∀ (vs : List V) (H : Hp) (Q : VK), rLenC vs H Q = ∃ a n, vs = [.ref a] ∧ lenO H a = some n ∧ Q (.int (n : Int)) H) ∧
    (∀ (x y : V) (H : Hp) (Q : VK), rIxC x y H Q = ∃ p xs i v, x = .ref p ∧ y = .int i ∧ seqO H p = some xs ∧ atI xs i = some v ∧ Q v H) ∧
    (∀ (neg : Bool) (x y : V) (H : Hp) (Q : VK), rInC neg x y H Q = ∃ p xs, y = .ref p ∧ seqO H p = some xs ∧ flatV x = true ∧ xs.all flatV = true ∧ Q (.bl (if neg then !inV x xs else inV x xs)) H) ∧
    (∀ (neg : Bool) (x y : V) (H : Hp) (Q : VK), rEqC neg x y H Q = ∃ d e, dat H 8 x = some d ∧ dat H 8 y = some e ∧ SeqAt.shaped d = true ∧ SeqAt.shaped e = true ∧ Q (.bl (if neg then !PyData.eqv d e else PyData.eqv d e)) H) ∧
    (∀ (neg : Bool) (ty td : TE) (σ : L2.St) (H : Hp) (Q : VK), tInD neg ty td σ H Q = ty σ H fun y H1 => td σ H1 fun x H2 => ∃ a kvs k, x = .ref a ∧ H2 a = some (.dK kvs) ∧ keyV y = some k ∧ Q (.bl (if neg then !(valV kvs k).isSome else (valV kvs k).isSome)) H2) ∧
    (∀ (td ty : TE) (σ : L2.St) (H : Hp) (Q : VK), tGetD td ty σ H Q = td σ H fun x H1 => ty σ H1 fun y H2 => ∃ a kvs k v, x = .ref a ∧ H2 a = some (.dK kvs) ∧ keyV y = some k ∧ valV kvs k = some v ∧ Q v H2) ∧
    (∀ (td ty tv : TE) (D : Ends) (σ : L2.St) (H : Hp), sPutD td ty tv D σ H = tv σ H fun v H1 => td σ H1 fun x H2 => ty σ H2 fun y H3 => ∃ a kvs k, x = .ref a ∧ H3 a = some (.dK kvs) ∧ keyV y = some k ∧ kvs.length < sizeLine ∧ D.nx σ (upd H3 a (.dK (putK kvs k v)))) ∧
    (∀ (td ty : TE) (σ : L2.St) (H : Hp) (Q : VK), tPopD td ty σ H Q = td σ H fun x H1 => ∃ a kvs, x = .ref a ∧ H1 a = some (.dK kvs) ∧ ty σ H1 fun y H2 => ∃ kvs k v, H2 a = some (.dK kvs) ∧ keyV y = some k ∧ valV kvs k = some v ∧ Q v (upd H2 a (.dK (dropK kvs k)))) ∧
    (∀ (tl te : TE) (σ : L2.St) (H : Hp) (Q : VK), tAppC tl te σ H Q = tl σ H fun x H1 => ∃ l ys, x = .ref l ∧ H1 l = some (.lst ys) ∧ te σ H1 fun y H2 => ∃ xs, H2 l = some (.lst xs) ∧ xs.length < sizeLine ∧ Q .non (upd H2 l (.lst (xs ++ [y])))) ∧
    (∀ (σ : L2.St) (H : Hp) (Q : Option Int → Hp → Prop), tNoPart σ H Q = Q none H) ∧
    (∀ (t : TE) (σ : L2.St) (H : Hp) (Q : Option Int → Hp → Prop), tPart t σ H Q = t σ H fun x H1 => ∃ i, x = .int i ∧ Q (some i) H1) ∧
    (∀ (r : V → Option Int → Option Int → Hp → VK → Prop) (te : TE) (tl th : TO) (σ : L2.St) (H : Hp) (Q : VK), tSl r te tl th σ H Q = te σ H fun x H1 => tl σ H1 fun l H2 => th σ H2 fun u H3 => r x l u H3 Q) :=
  ⟨fun _ _ _ _ _ _ => rfl, fun _ _ _ _ _ _ _ => rfl, fun _ _ _ => rfl, fun _ _ _ _ _ => rfl, fun _ _ _ _ => rfl, fun _ _ _ _ => rfl, fun _ _ _ _ _ => rfl, fun _ _ _ _ _ _ => rfl, fun _ _ _ _ _ _ _ _ _ => rfl, fun _ _ _ _ _ _ _ => rfl, fun _ _ _ _ => rfl, fun _ _ _ _ => rfl,
   fun _ _ => rfl, fun _ _ => rfl, fun _ _ => rfl, fun _ _ _ => rfl, fun _ _ _ => rfl, fun _ _ _ _ => rfl, fun _ _ _ _ _ => rfl, fun _ _ _ _ _ => rfl, fun _ _ _ _ _ _ => rfl, fun _ _ _ _ _ => rfl, fun _ _ _ _ _ _ => rfl, fun _ _ _ _ _ => rfl, fun _ _ _ _ _ => rfl, fun _ _ _ => rfl, fun _ _ _ _ => rfl, fun _ _ _ _ _ _ _ => rfl⟩
theorem RDk :
    kitB "int" "int" = some true ∧ kitB "bool" "int" = some true ∧ kitB "str" "int" = some false ∧ kitB "NoneType" "int" = some false ∧ kitB "list" "int" = some false ∧ kitB "tuple" "int" = some false ∧ kitB "dict" "int" = some false ∧
    kitB "int" "bool" = some false ∧ kitB "bool" "bool" = some true ∧ kitB "str" "bool" = some false ∧ kitB "NoneType" "bool" = some false ∧ kitB "list" "bool" = some false ∧ kitB "tuple" "bool" = some false ∧ kitB "dict" "bool" = some false ∧
    kitB "int" "str" = some false ∧ kitB "bool" "str" = some false ∧ kitB "str" "str" = some true ∧ kitB "NoneType" "str" = some false ∧ kitB "list" "str" = some false ∧ kitB "tuple" "str" = some false ∧ kitB "dict" "str" = some false ∧
    kitB "int" "tuple" = some false ∧ kitB "bool" "tuple" = some false ∧ kitB "str" "tuple" = some false ∧ kitB "NoneType" "tuple" = some false ∧ kitB "list" "tuple" = some false ∧ kitB "tuple" "tuple" = some true ∧ kitB "dict" "tuple" = some false ∧
    kitB "int" "list" = some false ∧ kitB "bool" "list" = some false ∧ kitB "str" "list" = some false ∧ kitB "NoneType" "list" = some false ∧ kitB "list" "list" = some true ∧ kitB "tuple" "list" = some false ∧ kitB "dict" "list" = some false := by
  decide +kernel
theorem RDv :
    (∀ (i j : Int), (V.int i = V.int j) = (i = j)) ∧ (∀ (i j : Str), (V.str i = V.str j) = (i = j)) ∧ (∀ (i j : Bool), (V.bl i = V.bl j) = (i = j)) ∧ (∀ (i j : Addr), (V.ref i = V.ref j) = (i = j)) ∧ (∀ (i j : String), (V.ty i = V.ty j) = (i = j)) ∧
    (∀ (α : Type) (i j : α), (some i = some j) = (i = j)) ∧
    (∀ H, tyN H .non = some "NoneType") ∧ (∀ H b, tyN H (.bl b) = some "bool") ∧ (∀ H b, tyN H (.int b) = some "int") ∧ (∀ H b, tyN H (.str b) = some "str") ∧
    (∀ n, keyV (.int n) = some (.inl n)) ∧ (∀ n, keyV (.str n) = some (.inr n)) ∧
    (∀ (C dx : Addr) (fs : List (Str × V)) (C' dx' : Addr) (fs' : List (Str × V)), (HO.ins C dx fs = HO.ins C' dx' fs') = (C = C' ∧ dx = dx' ∧ fs = fs')) ∧
    (∀ xs ys, (HO.lst xs = HO.lst ys) = (xs = ys)) ∧ (∀ xs ys, (HO.tup xs = HO.tup ys) = (xs = ys)) ∧ (∀ xs ys, (HO.dK xs = HO.dK ys) = (xs = ys)) := by
  refine ⟨?_, ?_, ?_, ?_, ?_, ?_, fun _ => rfl, fun _ _ => rfl, fun _ _ => rfl, fun _ _ => rfl, fun _ => rfl, fun _ => rfl, ?_, ?_, ?_, ?_⟩ <;> intros <;> simp
theorem datE (H : Hp) :
    (∀ n, dat H n .non = some .none) ∧ (∀ n b, dat H n (.bl b) = some (.bool b)) ∧ (∀ n b, dat H n (.int b) = some (.int b)) ∧ (∀ n b, dat H n (.str b) = some (.str b)) ∧
    (∀ n a xs, H a = some (.lst xs) → dat H (n + 1) (.ref a) = (mapO (dat H n) xs).map PyData.list) ∧ (∀ n a xs, H a = some (.tup xs) → dat H (n + 1) (.ref a) = (mapO (dat H n) xs).map PyData.tuple) := by
  refine ⟨fun n => ?_, fun n b => ?_, fun n b => ?_, fun n b => ?_, fun n a xs h => ?_, fun n a xs h => ?_⟩
  · cases n <;> rfl
  · cases n <;> rfl
  · cases n <;> rfl
  · cases n <;> rfl
  · conv => lhs; unfold dat
    rw [h]
  · conv => lhs; unfold dat
    rw [h]
theorem RDx :
    (∀ (CX : CXT) (P : Program) (w : World) (K : PySem.W.Frag) (mg : Str → Option Value) (base : Heap) (N : List Str) (q : Str) (sc : Scope) (f : Addr) (cd : Value) (A : Around) (o : List Env) (s : Shared) (H : Hp) (E : XK), (cxOf CX P w K mg base N q sc f cd A o s H E).K = K) ∧
    (∀ (CX : CXT) (P : Program) (w : World) (K : PySem.W.Frag) (mg : Str → Option Value) (base : Heap) (N : List Str) (q : Str) (sc : Scope) (f : Addr) (cd : Value) (A : Around) (o : List Env) (s : Shared) (H : Hp) (E : XK) (p : Addr × Obj), (L2H.cxH CX P w K mg base N q sc f cd A o s H E p).K = K) ∧
    (∀ (X : Cx) (pn : List (Addr × Obj)) (xe : Value → Shared → Prop), (X.tr pn xe).K = X.K) ∧
    (∀ (X : Cx) (a : Addr) (pn : List (Addr × Obj)), (X.suite a pn).K = X.K) ∧
    (∀ (X : Cx) (s : Shared) (H : Hp) (sc : Scope) (ce : Env) (fp : List Addr), (X.blk s H sc ce fp).K = X.K) ∧
    (∀ (X : Cx), X.nox.K = X.K) := ⟨fun _ _ _ _ _ _ _ _ _ _ _ _ _ _ _ _ => rfl, fun _ _ _ _ _ _ _ _ _ _ _ _ _ _ _ _ _ => rfl, fun _ _ _ => rfl, fun _ _ _ => rfl, fun _ _ _ _ _ _ => rfl, fun _ => rfl⟩
theorem RDe :
    (∀ (K : PySem.W.Frag) (c : Value) (i : Nat) (ts : Addr → Value → Option Addr → TS) (Wout : WX) (D : Ends) (cls : Value) (d : Option Addr) (σ : L2.St) (H : Hp), wAs K c i ts Wout D cls d σ H =
      ∃ b, PySem.W.exmOne K cls c = some b ∧ (b = true → ∀ a, H a = none → ts a cls d { nx := fun σ' H' => D.nx (σ'.set i none) H', rt := D.rt, bk := fun σ' H' => D.bk (σ'.set i none) H', ct := fun σ' H' => D.ct (σ'.set i none) H' } (σ.set i (some (.ref a))) H) ∧ (b = false → Wout cls d σ H)) ∧
    (∀ (K : PySem.W.Frag) (Wout : WX) (D : Ends), L2.wMany K Wout D [] = Wout) ∧
    (∀ (K : PySem.W.Frag) (Wout : WX) (D : Ends) (c : Value) (ts : Addr → Value → Option Addr → TS) (r : List (Value × (Addr → Value → Option Addr → TS))) (cls : Value) (d : Option Addr) (σ : L2.St) (H : Hp), L2.wMany K Wout D ((c, ts) :: r) cls d σ H =
      ∃ b, PySem.W.exmOne K cls c = some b ∧ (b = true → ∀ a, H a = none → ts a cls d D σ H) ∧ (b = false → L2.wMany K Wout D r cls d σ H)) ∧
    (∀ (K : PySem.W.Frag) (a : Addr) (cls : Value) (xs : List V) (H : Hp) (Q : VK), rIsEC K a cls xs H Q = ∃ (c : V) (cv : Value) (b : Bool), xs = [.ref a, c] ∧ clsOf c = some cv ∧ PySem.W.kitOne K cls cv = some b ∧ Q (.bl b) H) ∧
    (∀ a, clsOf (.ref a) = some (.ref a)) ∧ (∀ n, clsOf (.ty n) = some (.type n)) :=
  ⟨fun _ _ _ _ _ _ _ _ _ _ => rfl, fun _ _ _ => rfl, fun _ _ _ _ _ _ _ _ _ _ => rfl, fun _ _ _ _ _ _ => rfl, fun _ => rfl, fun _ => rfl⟩
/-! #### texts -/
theorem mul_one (z : Str) : Txt.mul z 1 = z := by unfold Txt.mul; rw [if_neg (by decide), if_pos (by simp)]
theorem mul_zero (z : Str) : Txt.mul z 0 = Str.empty := by unfold Txt.mul; rw [if_pos (by decide)]
theorem mulOk_one (z : Str) : MulOk z 1 := ⟨by decide, fun _ h => by simp at h, fun _ h => by simp at h⟩
theorem mulOk_zero (z : Str) : MulOk z 0 := ⟨by decide, fun h => absurd (by decide) h, fun h => absurd (by decide) h⟩
theorem str_ext {x y : Str} (h : x.cps.toList = y.cps.toList) : x = y := by
  obtain ⟨a⟩ := x
  obtain ⟨b⟩ := y
  congr
  exact Array.toList_inj.mp h
theorem app_empty (z : Str) : z ++ Str.empty = z := by
  refine str_ext ?_
  show (z.cps ++ #[]).toList = _
  simp
/-! #### loops, by what their walked thing gives -/
section
variable {K : PySem.W.Frag} {tl : TE} {g : TG} {tb : TS} {D : Ends} {σ : L2.St} {H : Hp}
theorem for_lcut (G : Addr → Hp → Prop) (xs : List V) (h1 : ∀ Z : VK, (∀ a H1, G a H1 → Z (.ref a) H1) → tl σ H Z) (Pv : Addr → Nat → L2.St → Hp → Prop) (h0 : ∀ a H1, G a H1 → SqL K H1 a xs ∧ Pv a 0 σ H1) (hl : ∀ a i σ H, i ≤ xs.length → Pv a i σ H → SqL K H a xs)
    (hs : ∀ a i x σ H, xs[i]? = some x → Pv a i σ H → g x σ H fun σ2 H2 => tb { D with nx := Pv a (i + 1), ct := Pv a (i + 1), bk := D.nx } σ2 H2) (hd : ∀ a σ H, Pv a xs.length σ H → D.nx σ H) : tFor (iList K tl) g tb D σ H :=
  h1 _ fun a H1 q => ⟨a, rfl, ⟨xs, (h0 a H1 q).1⟩, for_list (Pv a) (h0 a H1 q).2 (hl a) (hs a) (hd a)⟩
end
theorem same_new {H : Hp} {p : Addr} {o : HO} (h : H p = none) : Same H (upd H p o) := fun b u e => by rw [upd_ne (ne_of_none e h)]; exact e
theorem same_sql {K : PySem.W.Frag} {H H' : Hp} {a : Addr} {xs : List V} (e : Same H H') (h : SqL K H a xs) : SqL K H' a xs := e.seq h
theorem bl3 {i : Nat} {x : V} (h : ([V.bl false, V.bl false, V.bl false] : List V)[i]? = some x) : x = .bl false := by
  match i, h with
  | 0, h => exact (Option.some.inj h).symm
  | 1, h => exact (Option.some.inj h).symm
  | 2, h => exact (Option.some.inj h).symm
  | n + 3, h => cases h
/-! #### data as it is compared -/
theorem seqO_tup {H : Hp} {a : Addr} {xs : List V} (h : H a = some (.tup xs)) : seqO H a = some xs := by unfold seqO; rw [h]
theorem seqO_lst {H : Hp} {a : Addr} {xs : List V} (h : H a = some (.lst xs)) : seqO H a = some xs := by unfold seqO; rw [h]
theorem tyN_tup {H : Hp} {a : Addr} {xs : List V} (h : H a = some (.tup xs)) : tyN H (.ref a) = some "tuple" := by unfold tyN; dsimp only; rw [h]
theorem tyN_lst {H : Hp} {a : Addr} {xs : List V} (h : H a = some (.lst xs)) : tyN H (.ref a) = some "list" := by unfold tyN; dsimp only; rw [h]
theorem tyN_dK {H : Hp} {a : Addr} {xs : List (Key × V)} (h : H a = some (.dK xs)) : tyN H (.ref a) = some "dict" := by unfold tyN; dsimp only; rw [h]
theorem lenO_tup {H : Hp} {a : Addr} {xs : List V} (h : H a = some (.tup xs)) : lenO H a = some xs.length := by unfold lenO seqO; rw [h]; rfl
theorem lenO_lst {H : Hp} {a : Addr} {xs : List V} (h : H a = some (.lst xs)) : lenO H a = some xs.length := by unfold lenO seqO; rw [h]; rfl
theorem lenO_dK {H : Hp} {a : Addr} {xs : List (Key × V)} (h : H a = some (.dK xs)) : lenO H a = some xs.length := by unfold lenO; rw [h]
theorem dat_tup {H : Hp} {a : Addr} {xs : List V} (h : H a = some (.tup xs)) (n : Nat) : dat H (n + 1) (.ref a) = (mapO (dat H n) xs).map PyData.tuple := (datE H).2.2.2.2.2 n a xs h
theorem dat_lst {H : Hp} {a : Addr} {xs : List V} (h : H a = some (.lst xs)) (n : Nat) : dat H (n + 1) (.ref a) = (mapO (dat H n) xs).map PyData.list := (datE H).2.2.2.2.1 n a xs h
theorem RDd :
    (∀ f, mapO f [] = some []) ∧ (∀ f v r, mapO f (v :: r) = match f v, mapO f r with | some d, some ds => some (d :: ds) | _, _ => none) ∧
    (∀ H n, dat H n .non = some .none) ∧ (∀ H n b, dat H n (.bl b) = some (.bool b)) ∧ (∀ H n b, dat H n (.int b) = some (.int b)) ∧ (∀ H n b, dat H n (.str b) = some (.str b)) ∧
    (∀ (α : Type) (x : α) xs, atI (x :: xs) 0 = some x) ∧ (∀ (α : Type) (x y : α) xs, atI (x :: y :: xs) 1 = some y) ∧ (∀ (α : Type) (x y z : α) xs, atI (x :: y :: z :: xs) 2 = some z) ∧ (∀ (α : Type) (x y z u : α) xs, atI (x :: y :: z :: u :: xs) 3 = some u) ∧
    (∀ H, Option.map PyData.list (some H) = some (PyData.list H)) ∧ (∀ H, Option.map PyData.tuple (some H) = some (PyData.tuple H)) := by
  have at_ : ∀ (α : Type) (xs : List α) (k : Nat) (x : α), xs[k]? = some x → atI xs (k : Int) = some x := fun α xs k x h => by
    unfold atI ixN
    obtain ⟨hk, _⟩ := List.getElem?_eq_some_iff.mp h
    rw [if_pos (by omega), if_pos (by omega), Option.bind_some, Int.toNat_natCast, h]
  refine ⟨fun _ => rfl, fun _ _ _ => rfl, fun H => (datE H).1, fun H => (datE H).2.1, fun H => (datE H).2.2.1, fun H => (datE H).2.2.2.1, fun α x xs => at_ α _ 0 x rfl, fun α x y xs => at_ α _ 1 y rfl, fun α x y z xs => at_ α _ 2 z rfl, fun α x y z u xs => at_ α _ 3 u rfl, fun _ => rfl, fun _ => rfl⟩
/-- data of at most n levels that can be compared -/
def Shp (n : Nat) (d : PyData) : Prop := d.canLay0 = true ∧ d.depth ≤ n
theorem Shp.ok {d : PyData} (h : Shp 64 d) : SeqAt.shaped d = true := by
  unfold SeqAt.shaped
  rw [h.1, Bool.true_and]
  exact decide_eq_true h.2
theorem Shp.mono {n m : Nat} {d : PyData} (h : Shp n d) (l : n ≤ m) : Shp m d := ⟨h.1, Nat.le_trans h.2 l⟩
theorem shp_all {n : Nat} : ∀ {ds : List PyData}, (∀ d ∈ ds, Shp n d) → PyData.canLayAll0 ds = true ∧ PyData.depthAll ds ≤ n
  | [], _ => ⟨by simp [PyData.canLayAll0], by simp [PyData.depthAll]⟩
  | d :: r, h => by
    have h1 := h d List.mem_cons_self
    have h2 := shp_all (ds := r) fun e he => h e (List.mem_cons_of_mem _ he)
    constructor
    · rw [PyData.canLayAll0, h1.1, h2.1]; rfl
    · rw [PyData.depthAll]; exact Nat.max_le.mpr ⟨h1.2, h2.2⟩
theorem shp_list {n : Nat} {ds : List PyData} (h : ∀ d ∈ ds, Shp n d) : Shp (n + 1) (.list ds) := by
  obtain ⟨a, b⟩ := shp_all h
  exact ⟨by rw [PyData.canLay0]; exact a, by rw [PyData.depth]; omega⟩
theorem shp_tuple {n : Nat} {ds : List PyData} (h : ∀ d ∈ ds, Shp n d) : Shp (n + 1) (.tuple ds) := by
  obtain ⟨a, b⟩ := shp_all h
  exact ⟨by rw [PyData.canLay0]; exact a, by rw [PyData.depth]; omega⟩
theorem shp_s (n : Nat) : Shp n .none ∧ (∀ b, Shp n (.bool b)) ∧ (∀ i, Shp n (.int i)) ∧ (∀ x, PyData.strOk x = true → Shp n (.str x)) :=
  ⟨⟨by simp [PyData.canLay0], by simp [PyData.depth]⟩, fun _ => ⟨by simp [PyData.canLay0], by simp [PyData.depth]⟩, fun _ => ⟨by simp [PyData.canLay0], by simp [PyData.depth]⟩, fun _ h => ⟨by simpa [PyData.canLay0] using h, by simp [PyData.depth]⟩⟩
theorem sh1 {d : PyData} (h : d.canLay0 = true) (h2 : d.depth = 0) : SeqAt.shaped (.tuple [d]) = true ∧ SeqAt.shaped (.tuple [d]) = true := ⟨Shp.ok ⟨by simp [PyData.canLay0, PyData.canLayAll0, h], by simp [PyData.depth, PyData.depthAll, h2]⟩, Shp.ok ⟨by simp [PyData.canLay0, PyData.canLayAll0, h], by simp [PyData.depth, PyData.depthAll, h2]⟩⟩
theorem eqv_self {d : PyData} (h : d.canLay0 = true) : PyData.eqv d d = true := SeqAt.eqv_refl d h
end RP

/-! ### things made for one use only: no trace in what is tracked -/
namespace RP
open PySem PySem.Spec PyProof.Rows L2
section
variable {X : Cx} {b l : Expr} {es : List Expr} {t : TA} {tb tl : TE} {pos pos1 : Pos}
/-- [e, ..][b] -/
def tPick (t : TA) (tb : TE) : TE := fun σ H Q => t σ H fun vs H1 => vs.length ≤ 1000 ∧ tb σ H1 fun y H2 => ∃ k v, y = .int k ∧ 0 ≤ k ∧ atI vs k = some v ∧ Q v H2
theorem pe_pick (he : PA X es t) (hi : PE X b tb) (hs : PlainIx b) : PE X (.Subscript (.List es pos1) b pos) (tPick t tb) := by
  constructor
  intro pins s σ H Q I h
  refine Subscript_ (wpAny_List_spliced (thn (he.run pos1 pins s σ H _ I h) ?_))
  rintro us s1 ⟨vs, H1, I1, r, z, q⟩
  have z1 : us.length ≤ 1000 := by rw [← r.length]; exact z
  refine ⟨Nat.le_trans z1 (by decide), ?_⟩
  have kp : ∀ (b : Addr) (o : Obj), s1.heap.get? b = some o → (s1.heap.push { cls := .type "list", data := .seq us.toArray }).get? b = some o := fun b o e => Heap.get?_push_of_some _ e
  have gL : (s1.heap.push { cls := .type "list", data := .seq us.toArray }).get? s1.heap.objs.size = some { cls := .type "list", data := .seq us.toArray } := Heap.get?_push_size _ rfl
  have I2 : Inv X pins σ H1 { s1 with heap := s1.heap.push { cls := .type "list", data := .seq us.toArray } } := I1.kept (t' := s1.toks) kp
  have I3 := I2.pinned (fp := [s1.heap.objs.size]) (fun b hb => by
    have e : b = s1.heap.objs.size := by simpa using hb
    rw [e]
    exact I1.fpOk (Nat.le_refl _) (I1.hok.fresh (Nat.le_refl _))) (fun b hb => by
    have e : b = s1.heap.objs.size := by simpa using hb
    rw [e]
    exact ⟨_, gL, fun v w => by cases w⟩)
  refine thn (hi.run _ _ σ H1 _ I3 q) ?_
  rintro u s2 ⟨y, H2, I4, ry, k, v, rfl, h0, ha, qv⟩
  have g2 := (I4.pin (s1.heap.objs.size, { cls := .type "list", data := .seq us.toArray }) (List.mem_append_right _ (List.mem_append_right _ (mem_pinsAt (by simp) gL)))).1
  obtain ⟨tk, rfl⟩ := ry
  obtain ⟨j, h1, h2, h3, h4, h5⟩ := atI_get ha
  obtain ⟨w, ew, rw'⟩ := r.get h2
  have hl := r.length
  have hj : k.toNat = j := by
    rw [seqIndex_of h0 h5] at h1
    exact Option.some.inj h1
  have pl : PlainL s2.heap s1.heap.objs.size us.toArray := ⟨_, _, g2, rfl, rfl, rfl⟩
  exact item_listR pl.isList h0 (by omega) (by rw [hj]; simpa using ew) ⟨v, H2, I4.unpinned, rw', qv⟩ (hs _ _)
/-- l == (e, ..), l != (e, ..) -/
def tEqT (neg : Bool) (tl : TE) (t : TA) : TE := fun σ H Q => tl σ H fun x H1 => t σ H1 fun vs H2 => vs.length ≤ 1000 ∧ ∃ d ds, dat H2 8 x = some d ∧ mapO (dat H2 7) vs = some ds ∧ SeqAt.shaped d = true ∧ SeqAt.shaped (.tuple ds) = true ∧ Q (.bl (if neg then !PyData.eqv d (.tuple ds) else PyData.eqv d (.tuple ds))) H2
theorem dat_new {H : Hp} {p : Addr} {o : HO} (hp : H p = none) : ∀ (n : Nat) (v : V) (d : PyData), dat H n v = some d → dat (upd H p o) n v = some d := by
  have key : ∀ (f f' : V → Option PyData), (∀ v d, f v = some d → f' v = some d) → ∀ (xs : List V) (ds : List PyData), mapO f xs = some ds → mapO f' xs = some ds := by
    intro f f' hf xs
    induction xs with
    | nil => intro ds h; exact h
    | cons v r ih =>
      intro ds h
      unfold mapO at h ⊢
      split at h
      · rename_i d ds' h1 h2
        cases h
        rw [hf _ _ h1, ih _ h2]
      · cases h
  intro n
  induction n with
  | zero =>
    intro v d h
    cases v <;> exact h
  | succ n ih =>
    intro v d h
    cases v with
    | ref a =>
      have e : ∀ u, H a = some u → upd H p o a = some u := fun u e => by rw [upd_ne (ne_of_none e hp)]; exact e
      unfold dat at h ⊢
      split at h
      · rename_i xs e1
        obtain ⟨ds, e2, rfl⟩ := Option.map_eq_some_iff.mp h
        rw [e _ e1]
        dsimp only
        rw [key _ _ ih _ _ e2]
        rfl
      · rename_i xs e1
        obtain ⟨ds, e2, rfl⟩ := Option.map_eq_some_iff.mp h
        rw [e _ e1]
        dsimp only
        rw [key _ _ ih _ _ e2]
        rfl
      · rename_i ob xs e1
        obtain ⟨ds, e2, rfl⟩ := Option.map_eq_some_iff.mp h
        rw [e _ e1]
        dsimp only
        rw [key _ _ ih _ _ e2]
        rfl
      · cases h
    | _ => exact h
theorem eqT_run {neg : Bool} {op : CmpOp} (hop : op = if neg then .NotEq else .Eq) (hu : X.A.units + 64 < cLine) (hl : PE X l tl) (he : PA X es t) {x1 : Nat} {pins : List (Addr × Obj)} {s : Shared} {σ : L2.St} {H : Hp} {Q : VK} (I : Inv X pins σ H s) (h : tEqT neg tl t σ H Q) :
    wpAny (model X.prog X.w) X.A (eval l X.env) (fun v s1 => wpAny (model X.prog X.w) X.A (eval (.Tuple es x1 pos1) X.env) (fun u s2 => wpAny (model X.prog X.w) X.A (compareOp op v u) (EP X pins σ Q) X.xe s2) X.xe s1) X.xe s := by
  refine thn (hl.run pins s σ H _ I h) ?_
  rintro v s1 ⟨x, H1, I1, rx, q1⟩
  refine wpAny_Tuple_spliced (thn (he.run pos1 pins s1 σ H1 _ I1 q1) ?_)
  rintro us s2 ⟨vs, H2, I2, r, z, d, ds, h1, h2, sd, se, q⟩
  have z1 : us.length ≤ sizeLine := by rw [← r.length]; exact Nat.le_trans z (by decide)
  refine ⟨z1, ?_⟩
  have hf : H2 s2.heap.objs.size = none := I2.hok.fresh (Nat.le_refl _)
  have kp : ∀ (b : Addr) (o : Obj), s2.heap.get? b = some o → (s2.heap.push { cls := .type "tuple", data := .seq us.toArray }).get? b = some o := fun b o e => Heap.get?_push_of_some _ e
  have IU : Inv X pins σ H2 { s2 with heap := s2.heap.push { cls := .type "tuple", data := .seq us.toArray } } := I2.kept (t' := s2.toks) kp
  have IT : Inv X pins σ (upd H2 s2.heap.objs.size (.tup vs)) { s2 with heap := s2.heap.push { cls := .type "tuple", data := .seq us.toArray } } :=
    I2.laid (t' := s2.toks) kp (Nat.le_refl _) ⟨Nat.le_trans z (by decide), us, r, ⟨_, Heap.get?_push_size _ rfl, rfl, _, rfl⟩⟩
  obtain ⟨as, r1⟩ := Dp.reads IT d x v (dat_ok _ _ _ (dat_new hf _ _ _ h1)) rx
  have h3 : dat (upd H2 s2.heap.objs.size (.tup vs)) 8 (.ref s2.heap.objs.size) = some (.tuple ds) := by
    rw [dat_tup upd_same]
    have key : ∀ (xs : List V) (ds : List PyData), mapO (dat H2 7) xs = some ds → mapO (dat (upd H2 s2.heap.objs.size (.tup vs)) 7) xs = some ds := by
      intro xs
      induction xs with
      | nil => intro ds h; exact h
      | cons v r ih =>
        intro ds h
        unfold mapO at h ⊢
        split at h
        · rename_i d ds' h1 h2
          cases h
          rw [dat_new hf _ _ _ h1, ih _ h2]
        · cases h
    rw [key _ _ h2]
    rfl
  obtain ⟨bs, r2⟩ := Dp.reads IT (.tuple ds) (.ref s2.heap.objs.size) (.ref s2.heap.objs.size) (dat_ok _ _ _ h3) rfl
  subst hop
  cases neg with
  | true => exact SeqAt.compareNe_shaped r1 r2 sd se hu ⟨.bl _, H2, IU, rfl, q⟩
  | false => exact SeqAt.compareEq_shaped r1 r2 sd se hu ⟨.bl _, H2, IU, rfl, q⟩
theorem pc_eqT {x1 : Nat} (hu : X.A.units + 64 < cLine) (hl : PE X l tl) (he : PA X es t) : PC X .Eq l (.Tuple es x1 pos1) (tEqT false tl t) := ⟨fun pins s σ H Q I h => eqT_run (neg := false) rfl hu hl he I h⟩
theorem pc_neT {x1 : Nat} (hu : X.A.units + 64 < cLine) (hl : PE X l tl) (he : PA X es t) : PC X .NotEq l (.Tuple es x1 pos1) (tEqT true tl t) := ⟨fun pins s σ H Q I h => eqT_run (neg := true) rfl hu hl he I h⟩
/-- l in (e, ..), l not in (e, ..): flat things -/
def tInT (neg : Bool) (tl : TE) (t : TA) : TE := fun σ H Q => tl σ H fun x H1 => t σ H1 fun vs H2 => vs.length ≤ 1000 ∧ flatV x = true ∧ vs.all flatV = true ∧ Q (.bl (if neg then !inV x vs else inV x vs)) H2
theorem inT_run {neg : Bool} {op : CmpOp} (hop : op = if neg then .NotIn else .In) (hl : PE X l tl) (he : PA X es t) {x1 : Nat} {pins : List (Addr × Obj)} {s : Shared} {σ : L2.St} {H : Hp} {Q : VK} (I : Inv X pins σ H s) (h : tInT neg tl t σ H Q) :
    wpAny (model X.prog X.w) X.A (eval l X.env) (fun v s1 => wpAny (model X.prog X.w) X.A (eval (.Tuple es x1 pos1) X.env) (fun u s2 => wpAny (model X.prog X.w) X.A (compareOp op v u) (EP X pins σ Q) X.xe s2) X.xe s1) X.xe s := by
  refine thn (hl.run pins s σ H _ I h) ?_
  rintro v s1 ⟨x, H1, I1, rx, q1⟩
  refine wpAny_Tuple_spliced (thn (he.run pos1 pins s1 σ H1 _ I1 q1) ?_)
  rintro us s2 ⟨vs, H2, I2, r, z, f1, f2, q⟩
  have z1 : us.length ≤ sizeLine := by rw [← r.length]; exact Nat.le_trans z (by decide)
  refine ⟨z1, ?_⟩
  have hf : H2 s2.heap.objs.size = none := I2.hok.fresh (Nat.le_refl _)
  have kp : ∀ (b : Addr) (o : Obj), s2.heap.get? b = some o → (s2.heap.push { cls := .type "tuple", data := .seq us.toArray }).get? b = some o := fun b o e => Heap.get?_push_of_some _ e
  have IU : Inv X pins σ H2 { s2 with heap := s2.heap.push { cls := .type "tuple", data := .seq us.toArray } } := I2.kept (t' := s2.toks) kp
  have IT : Inv X pins σ (upd H2 s2.heap.objs.size (.tup vs)) { s2 with heap := s2.heap.push { cls := .type "tuple", data := .seq us.toArray } } :=
    I2.laid (t' := s2.toks) kp (Nat.le_refl _) ⟨Nat.le_trans z (by decide), us, r, ⟨_, Heap.get?_push_size _ rfl, rfl, _, rfl⟩⟩
  obtain ⟨its, r', pl, hz⟩ := IT.tuple (SqT.of (K := X.K) (upd_same (a := s2.heap.objs.size) (o := .tup vs)))
  subst hop
  cases neg with
  | true =>
    refine SeqAt.notIn_tupleAt (eqU x) pl (fun w hw => mem_eqAt rx f1 r' f2 w (by simpa using hw)) ⟨.bl _, H2, IU, rfl, ?_⟩
    rw [show its.toArray.any (eqU x) = its.any (eqU x) by simp, any_eqU r' f2]
    exact q
  | false =>
    refine SeqAt.in_tupleAt (eqU x) pl (fun w hw => mem_eqAt rx f1 r' f2 w (by simpa using hw)) ⟨.bl _, H2, IU, rfl, ?_⟩
    rw [show its.toArray.any (eqU x) = its.any (eqU x) by simp, any_eqU r' f2]
    exact q
theorem pc_inT {x1 : Nat} (hl : PE X l tl) (he : PA X es t) : PC X .In l (.Tuple es x1 pos1) (tInT false tl t) := ⟨fun pins s σ H Q I h => inT_run (neg := false) rfl hl he I h⟩
theorem pc_notInT {x1 : Nat} (hl : PE X l tl) (he : PA X es t) : PC X .NotIn l (.Tuple es x1 pos1) (tInT true tl t) := ⟨fun pins s σ H Q I h => inT_run (neg := true) rfl hl he I h⟩
end
theorem RDp :
    (∀ (t : TA) (tb : TE) (σ : L2.St) (H : Hp) (Q : VK), tPick t tb σ H Q = t σ H fun vs H1 => vs.length ≤ 1000 ∧ tb σ H1 fun y H2 => ∃ k v, y = .int k ∧ 0 ≤ k ∧ atI vs k = some v ∧ Q v H2) ∧
    (∀ (neg : Bool) (tl : TE) (t : TA) (σ : L2.St) (H : Hp) (Q : VK), tEqT neg tl t σ H Q = tl σ H fun x H1 => t σ H1 fun vs H2 => vs.length ≤ 1000 ∧ ∃ d ds, dat H2 8 x = some d ∧ mapO (dat H2 7) vs = some ds ∧ SeqAt.shaped d = true ∧ SeqAt.shaped (.tuple ds) = true ∧ Q (.bl (if neg then !PyData.eqv d (.tuple ds) else PyData.eqv d (.tuple ds))) H2) ∧
    (∀ (neg : Bool) (tl : TE) (t : TA) (σ : L2.St) (H : Hp) (Q : VK), tInT neg tl t σ H Q = tl σ H fun x H1 => t σ H1 fun vs H2 => vs.length ≤ 1000 ∧ flatV x = true ∧ vs.all flatV = true ∧ Q (.bl (if neg then !inV x vs else inV x vs)) H2) ∧
    (∀ i j : Int, CDiv i j = (0 < j ∧ j < 1073741824)) ∧ (∀ i j : Int, CPow i j = (0 ≤ j ∧ j ≤ 1000000 ∧ i.natAbs < 2 ^ 64)) :=
  ⟨fun _ _ _ _ _ => rfl, fun _ _ _ _ _ _ => rfl, fun _ _ _ _ _ _ => rfl, fun _ _ => rfl, fun _ _ => rfl⟩
theorem seq_gen {t u : TS} {D : Ends} {σ : L2.St} {H : Hp} (h : ∀ N : L2.St → Hp → Prop, (∀ σ H, u D σ H → N σ H) → t { D with nx := N } σ H) : tSeq t u D σ H := h _ fun _ _ z => z
theorem cut_int {ns : List Int} {lo hi : Option Int} {i : Nat} {x : V} (h : (cutV (ns.map V.int) lo hi)[i]? = some x) : ∃ c, x = .int c := by
  have h1 : x ∈ cutV (ns.map V.int) lo hi := List.mem_of_getElem? h
  unfold cutV at h1
  have h2 := List.mem_of_mem_drop (List.mem_of_mem_take h1)
  obtain ⟨c, _, e⟩ := List.mem_map.mp h2
  exact ⟨c, e.symm⟩
theorem ite_merge {α : Sort _} {P R : Prop} [Decidable P] [Decidable R] {x y : α} : (if P then (if R then x else y) else y) = if P ∧ R then x else y := by
  by_cases p : P <;> by_cases r : R <;> simp [p, r]
theorem ite_or' {α : Sort _} {P R : Prop} [Decidable P] [Decidable R] {x y : α} : (if P then x else (if R then x else y)) = if P ∨ R then x else y := by
  by_cases p : P <;> by_cases r : R <;> simp [p, r]
theorem getD_all {α : Type} {p : α → Prop} {xs : List α} {d : α} (h : ∀ x ∈ xs, p x) (hd : p d) (i : Nat) : p (xs.getD i d) := by
  rw [List.getD_eq_getElem?_getD]
  cases e : xs[i]? with
  | none => exact hd
  | some x => exact h x (List.mem_of_getElem? e)
theorem md_rng {n : Int} (x : Int) (h : 0 < n) : 0 ≤ x % n ∧ x % n < n := ⟨Int.emod_nonneg _ (by omega), Int.emod_lt_of_pos _ h⟩
theorem pick2 {x y : V} {k : Int} (h0 : 0 ≤ k) (h1 : k < 2) : atI [x, y] k = some (if k = 0 then x else y) := by
  rcases (show k = 0 ∨ k = 1 by omega) with rfl | rfl
  · rfl
  · rfl
theorem pickI2 {x y k : Int} (h0 : 0 ≤ k) (h1 : k < 2) : atI [V.int x, V.int y] k = some (.int (if k = 0 then x else y)) := by
  rcases (show k = 0 ∨ k = 1 by omega) with rfl | rfl
  · rfl
  · rfl
/-- an item of a list of whole numbers -/
theorem atInt {xs : List Int} {k : Int} (h0 : 0 ≤ k) (h1 : k < (xs.length : Int)) : atI (xs.map V.int) k = some (.int (xs.getD k.toNat 0)) := by
  have e2 : k = ((k.toNat : Nat) : Int) := by omega
  have e3 : k.toNat < xs.length := by omega
  rw [e2]
  refine atI_nat ?_
  rw [List.getElem?_map, List.getElem?_eq_getElem e3, List.getD_eq_getElem?_getD, Int.toNat_natCast, List.getElem?_eq_getElem e3]
  rfl
/-- the law's own def -/
theorem fn_law {P : Program} {w : World} {K : PySem.W.Frag} {mg : Str → Option Value} {base : Heap} {x : Str} {st : Stmt} {N ps : List Str} {k : Nat} {sp : Sp} {f0 : Addr} {fd : FuncData} (F : FunD K x x (defArgs st) (defBody st) (defScope st) [] [] f0 fd) (S : FnScope N ps (defScope st)) (len : ∀ vs H Q E, sp vs H Q E → vs.length = ps.length)
    (hbody : ∀ (f : Addr) (cdv : Value) (A : Around) (outer : List Env) (s : Shared) (H : Hp) (vs : List V) (Q : VK) (E : XK), Room k (A.deeper (envOfC x (defScope st) s.heap.objs.size f cdv)) → sp vs H Q E →
      ∃ t, PSs (cxOf (L2N.CX P w) P w K mg base N x (defScope st) f cdv A outer s H E) (defBody st) t ∧ t { nx := fun _ H' => Q .non H', rt := Q } (start N vs) H) : FnOk P w K mg base (L2N.CX P w) (k + 1) f0 fd ps sp :=
  F.ok S len fun cdv A outer s H vs Q E hr h => hbody _ cdv A outer s H vs Q E hr h
/-- the end of a law, its air leaning on the world -/
theorem walk_W {l : PySem.W.OpenLaw} {n k : Nat} {q : Program} {loose : List Str} {XP : (Str → Option Value) → Heap → Prop} {YP : World → Heap → Prop} {d : DefRec} {CX : World → CXT} {x : Str}
    (hn : l.most = some n) (hn2 : n ≤ sizeLine) (hdf : d.params.defaults = []) (hr : Room k callerA)
    (F : ∀ (w : World) (mg : Str → Option Value) (fa : Addr) (h : Heap), YP w h → h.Ns mainGlobals mg → mg d.name = some (.ref fa) →
      ∃ (K : PySem.W.Frag) (fd : FuncData) (sp : Sp), K.In h ∧ (∀ (s : Shared) (u : Value), BindsTo s fd ⟨[u], []⟩ [(x, u)]) ∧
        (∀ (H : Hp) (a : Addr) (ns : List Int), ns.length ≤ n → Only H → SqL K H a (ns.map V.int) → sp [.ref a] H (fun v _ => v = .bl true) fun _ _ _ => False) ∧
        ∀ base : Heap, K.In base → base.Ns mainGlobals mg → FnOk l.prog w K mg base (CX w) k fa fd [x] sp)
    (hCX : ∀ (w : World) (H : Hp) (s : Shared) (e : Value) (s' : Shared), CX w [] H s (fun _ _ _ => False) e s' → False) :
    PySem.W.WalkO q loose XP YP l.row.toRowW d [] (fun f vs => PySem.call f vs) := by
  refine Att.attach_call hn hdf fun w s₀ s₁ mg mb fa o pm cd doc a vs ns G Y ho hd hcd hmg hobj hints hlen hg => ?_
  obtain ⟨K, fd, sp, KX, hb, hsp, hF⟩ := F w mg fa _ Y G.T.g hmg
  exact law_call KX G.T.g G.T.b G.T.builtins G.T.nolimit hg hobj hints (Nat.le_trans hlen hn2) hr hF hb (fun H hO hS => hsp H a ns hlen hO hS) fun H e s' => hCX w H s₁ e s'
/-- a whole number between two -/
def amongV (x : V) (lo hi : Int) : Bool := match x with
  | .int n => decide (lo ≤ n) && decide (n ≤ hi)
  | _ => false
/-- things that may be handed in anywhere -/
def Kn (H : Hp) (x : V) : Prop := (tyN H x).isSome = true
theorem Kn.cases {H : Hp} {x : V} (h : Kn H x) : x = .non ∨ (∃ b, x = .bl b) ∨ (∃ n, x = .int n) ∨ (∃ z, x = .str z) ∨ ∃ a t, x = .ref a ∧ tyN H (.ref a) = some t ∧ (t = "list" ∨ t = "tuple" ∨ t = "dict") := by
  unfold Kn at h
  cases x with
  | non => exact .inl rfl
  | bl b => exact .inr (.inl ⟨b, rfl⟩)
  | int n => exact .inr (.inr (.inl ⟨n, rfl⟩))
  | str z => exact .inr (.inr (.inr (.inl ⟨z, rfl⟩)))
  | byt b => cases h
  | flt b => cases h
  | ty n => cases h
  | ref a =>
    refine .inr (.inr (.inr (.inr ?_)))
    unfold tyN at h
    dsimp only at h
    split at h
    · rename_i xs e
      exact ⟨a, "list", rfl, by unfold tyN; dsimp only; rw [e], .inl rfl⟩
    · rename_i xs e
      exact ⟨a, "tuple", rfl, by unfold tyN; dsimp only; rw [e], .inr (.inl rfl)⟩
    · rename_i xs e
      exact ⟨a, "dict", rfl, by unfold tyN; dsimp only; rw [e], .inr (.inr rfl)⟩
    · cases h
end RP

/-! ### frames, comprehensions by what they give, texts -/
namespace RP
open PySem PySem.Spec PyProof.Rows L2
/-- what is outside A stays -/
def Fr (A : List Addr) (H H' : Hp) : Prop := ∀ b o, b ∉ A → H b = some o → H' b = some o
theorem Fr.refl (A : List Addr) (H : Hp) : Fr A H H := fun _ _ _ h => h
theorem Fr.trans {A : List Addr} {H H1 H2 : Hp} (a : Fr A H H1) (b : Fr A H1 H2) : Fr A H H2 := fun c o n h => b c o n (a c o n h)
theorem Fr.of {A : List Addr} {H H1 : Hp} (a : Same H H1) : Fr A H H1 := fun c o _ h => a c o h
theorem Fr.upd {A : List Addr} {H H1 : Hp} {p : Addr} {o : HO} (a : Fr A H H1) (m : p ∈ A) : Fr A H (L2.upd H1 p o) := fun c u n h => by
  rw [upd_ne (fun e => n (by rw [e]; exact m))]
  exact a c u n h
theorem Fr.new {A : List Addr} {H H1 : Hp} {p : Addr} {o : HO} (a : Fr A H H1) (m : H1 p = none) : Fr A H (L2.upd H1 p o) := a.trans (.of (same_new m))
theorem Fr.mono {A B : List Addr} {H H1 : Hp} (a : Fr A H H1) (s : ∀ x ∈ A, x ∈ B) : Fr B H H1 := fun c o n h => a c o (fun m => n (s c m)) h
theorem Same.fr {H H1 : Hp} (a : Fr [] H H1) : Same H H1 := fun c o h => a c o (by simp) h
theorem ne_of_obj {H : Hp} {a b : Addr} {o u : HO} (h : H a = some o) (h2 : H b = some u) (n : o ≠ u) : a ≠ b := fun e => by
  rw [e, h2] at h
  exact n (Option.some.inj h).symm
/-- two lists, item by item -/
inductive All2 {α β : Type} (R : α → β → Prop) : List α → List β → Prop
  | nil : All2 R [] []
  | cons {x y xs ys} : R x y → All2 R xs ys → All2 R (x :: xs) (y :: ys)
theorem All2.mono {α β : Type} {R S : α → β → Prop} (i : ∀ x y, R x y → S x y) : ∀ {xs : List α} {ys : List β}, All2 R xs ys → All2 S xs ys
  | _, _, .nil => .nil
  | _, _, .cons h t => .cons (i _ _ h) (t.mono i)
theorem All2.snoc {α β : Type} {R : α → β → Prop} {x : α} {y : β} (h : R x y) : ∀ {xs : List α} {ys : List β}, All2 R xs ys → All2 R (xs ++ [x]) (ys ++ [y])
  | _, _, .nil => .cons h .nil
  | _, _, .cons h1 t => .cons h1 (t.snoc h)
theorem All2.length {α β : Type} {R : α → β → Prop} : ∀ {xs : List α} {ys : List β}, All2 R xs ys → xs.length = ys.length
  | _, _, .nil => rfl
  | _, _, .cons _ t => by rw [List.length_cons, List.length_cons, t.length]
theorem All2.get {α β : Type} {R : α → β → Prop} : ∀ {xs : List α} {ys : List β} {i : Nat} {y : β}, All2 R xs ys → ys[i]? = some y → ∃ x, xs[i]? = some x ∧ R x y
  | _, _, 0, y, .cons h _, e => ⟨_, rfl, by cases e; exact h⟩
  | _, _, i + 1, y, .cons _ t, e => by
    obtain ⟨x, e1, r⟩ := t.get (i := i) (by simpa using e)
    exact ⟨x, by simpa using e1, r⟩
  | _, _, i, y, .nil, e => by simp at e
theorem All2.getL {α β : Type} {R : α → β → Prop} : ∀ {xs : List α} {ys : List β} {i : Nat} {x : α}, All2 R xs ys → xs[i]? = some x → ∃ y, ys[i]? = some y ∧ R x y
  | _, _, 0, y, .cons h _, e => ⟨_, rfl, by cases e; exact h⟩
  | _, _, i + 1, y, .cons _ t, e => by
    obtain ⟨x, e1, r⟩ := t.getL (i := i) (by simpa using e)
    exact ⟨x, by simpa using e1, r⟩
  | _, _, i, y, .nil, e => by simp at e
theorem All2.of_map {α β : Type} {R : α → β → Prop} {f : α → β} (h : ∀ x, R x (f x)) : ∀ (xs : List α), All2 R xs (xs.map f)
  | [] => .nil
  | x :: r => .cons (h x) (All2.of_map h r)
theorem All2.map_eq {α β : Type} {f : α → β} : ∀ {xs : List α} {ys : List β}, All2 (fun x y => y = f x) xs ys → ys = xs.map f
  | _, _, .nil => rfl
  | _, _, .cons h t => by rw [h, t.map_eq]; rfl
theorem All2.map_l {α β γ : Type} {f : γ → α} {R : α → β → Prop} : ∀ {xs : List γ} {ys : List β}, All2 R (xs.map f) ys → All2 (fun x y => R (f x) y) xs ys
  | [], _, .nil => .nil
  | _ :: _, _, .cons h t => .cons h t.map_l
theorem All2.mapO_eq {f : V → Option PyData} {g : α → PyData} : ∀ {xs : List α} {ys : List V}, All2 (fun x y => f y = some (g x)) xs ys → mapO f ys = some (xs.map g)
  | _, _, .nil => rfl
  | _, _, .cons h t => by
    unfold mapO
    rw [h, t.mapO_eq]
    rfl
/-- what stays told, whatever becomes of the new list -/
def Keeps (R : Hp → α → V → Prop) : Prop := ∀ H H' D xs x y, H D = some (.lst xs) → Fr [D] H H' → R H x y → R H' x y
theorem keeps_pure {R : α → V → Prop} : Keeps (fun _ => R) := fun _ _ _ _ _ _ _ _ r => r
theorem keeps_tup {f : α → List V} : Keeps (fun H x y => ∃ q, y = .ref q ∧ H q = some (.tup (f x))) := fun H H' D xs x y hD fr ⟨q, e, h⟩ =>
  ⟨q, e, fr q _ (fun m => by
    have e2 : q = D := by simpa using m
    rw [e2, hD] at h
    cases h) h⟩
section
variable {K : PySem.W.Frag} {tl te : TE} {ta : TA} {g : TG} {tb : TS} {D : Ends} {σ : L2.St} {H : Hp} {vs : List Nat} {Q : VK}
/-- [e for x in a list] -/
theorem lcut {tl : TE} (G : Addr → Hp → Prop) (R : Hp → V → V → Prop) (xs : List V) (hk : Keeps R) (h1 : ∀ Z : VK, (∀ a H1, G a H1 → Z (.ref a) H1) → tl σ H Z) (h0 : ∀ a H1, G a H1 → SqL K H1 a xs) (hlen : xs.length ≤ sizeLine)
    (hs : ∀ a H1 H2 (i : Nat) x (Z : VK), G a H1 → xs[i]? = some x → Same H1 H2 → (∀ y H3, Same H2 H3 → R H3 x y → Z y H3) → g x (wipe σ vs) H2 fun σ2 H3' => wipe σ2 vs = wipe σ vs ∧ te σ2 H3' Z)
    (hd : ∀ a H1 H3 D rs, G a H1 → H1 D = none → Same H1 H3 → H3 D = some (.lst rs) → All2 (R H3) xs rs → Q (.ref D) H3) : tLc (iList K tl) g tYes te vs σ H Q := by
  refine h1 _ fun a H1 hG => ⟨a, rfl, ⟨xs, h0 a H1 hG⟩, fun D nD => ?_⟩
  refine lc_list (xs := xs) (fun i H' => Same H1 H' ∧ ∃ rs, H' D = some (.lst rs) ∧ All2 (R H') (xs.take i) rs) ⟨same_new nD, [], upd_same, by rw [List.take_zero]; exact .nil⟩ (fun i H' _ h => h.1.seq (h0 a H1 hG)) ?_ ?_
  · rintro i x H' hx ⟨s1, rs, hD, ar⟩
    obtain ⟨hi, hx2⟩ := List.getElem?_eq_some_iff.mp hx
    simp only [tYes, if_true]
    refine hs a H1 H' i x _ hG hx s1 fun y H3 s3 r3 => ?_
    have hl : rs.length < sizeLine := by
      rw [← ar.length, List.length_take]
      omega
    refine ⟨rs, s3 _ _ hD, hl, fun c o ec => ?_, rs ++ [y], upd_same, ?_⟩
    · rw [upd_ne (ne_of_none ec nD)]
      exact s3 _ _ (s1 _ _ ec)
    · have f3 : Fr [D] H3 (upd H3 D (.lst (rs ++ [y]))) := (Fr.refl _ _).upd (by simp)
      have e : xs.take (i + 1) = xs.take i ++ [x] := by rw [List.take_succ, hx]; rfl
      rw [e]
      exact (ar.mono fun u v r => hk _ _ D _ u v (s3 _ _ hD) f3 (hk _ _ D _ u v hD (.of s3) r)).snoc (hk _ _ D _ x y (s3 _ _ hD) f3 r3)
  · rintro H' ⟨s1, rs, hD, ar⟩
    rw [List.take_length] at ar
    exact hd a H1 H' D rs hG nD s1 hD ar
/-- [e for x in range(n)] -/
theorem rcut {wi : TI} (lo : Int) (n : Nat) (G : Hp → Prop) (R : Hp → Nat → V → Prop) (hk : Keeps R) (h1 : ∀ Z : It → Hp → Prop, (∀ H1, G H1 → Z (Itr lo n) H1) → wi σ H Z) (hlen : n ≤ sizeLine)
    (hs : ∀ H1 H2 i (Z : VK), G H1 → i < n → Same H1 H2 → (∀ y H3, Same H2 H3 → R H3 i y → Z y H3) → g (.int (lo + i)) (wipe σ vs) H2 fun σ2 H3' => wipe σ2 vs = wipe σ vs ∧ te σ2 H3' Z)
    (hd : ∀ H1 H3 D rs, G H1 → H1 D = none → Same H1 H3 → H3 D = some (.lst rs) → All2 (R H3) (List.range n) rs → Q (.ref D) H3) : tLc wi g tYes te vs σ H Q := by
  refine h1 _ fun H1 hG => fun D nD => ?_
  refine lc_range (fun i H' => Same H1 H' ∧ ∃ rs, H' D = some (.lst rs) ∧ All2 (R H') (List.range i) rs) ⟨same_new nD, [], upd_same, .nil⟩ ?_ ?_
  · rintro i H' hi ⟨s1, rs, hD, ar⟩
    simp only [tYes, if_true]
    refine hs H1 H' i _ hG hi s1 fun y H3 s3 r3 => ?_
    have hl : rs.length < sizeLine := by
      rw [← ar.length, List.length_range]
      omega
    refine ⟨rs, s3 _ _ hD, hl, fun c o ec => ?_, rs ++ [y], upd_same, ?_⟩
    · rw [upd_ne (ne_of_none ec nD)]
      exact s3 _ _ (s1 _ _ ec)
    · have f3 : Fr [D] H3 (upd H3 D (.lst (rs ++ [y]))) := (Fr.refl _ _).upd (by simp)
      rw [List.range_succ]
      exact (ar.mono fun u v r => hk _ _ D _ u v (s3 _ _ hD) f3 (hk _ _ D _ u v hD (.of s3) r)).snoc (hk _ _ D _ i y (s3 _ _ hD) f3 r3)
  · rintro H' ⟨s1, rs, hD, ar⟩
    exact hd H1 H' D rs hG nD s1 hD ar
/-- [e for i, x in enumerate(a list)] -/
theorem ecut {ta : TA} (G : Addr → Hp → Prop) (R : Hp → Nat × V → V → Prop) (xs : List V) (hk : Keeps R) (h1 : ∀ Z : List V → Hp → Prop, (∀ a H1, G a H1 → Z [.ref a] H1) → ta σ H Z) (h0 : ∀ a H1, G a H1 → SqL K H1 a xs) (hlen : xs.length ≤ sizeLine)
    (hs : ∀ a H1 H2 (i : Nat) x T (Z : VK), G a H1 → xs[i]? = some x → Same H1 H2 → H2 T = some (.tup [.int (i : Nat), x]) → (∀ y H3, Same H2 H3 → R H3 (i, x) y → Z y H3) → g (.ref T) (wipe σ vs) H2 fun σ2 H3' => wipe σ2 vs = wipe σ vs ∧ te σ2 H3' Z)
    (hd : ∀ a H1 H3 D rs, G a H1 → H1 D = none → Same H1 H3 → H3 D = some (.lst rs) → All2 (R H3) ((List.range xs.length).zip xs) rs → Q (.ref D) H3) : tLc (iEnum K ta) g tYes te vs σ H Q := by
  refine h1 _ fun a H1 hG => ⟨a, xs, rfl, h0 a H1 hG, fun D nD => ?_⟩
  refine ⟨fun i m H' => m = xs.length - i ∧ i ≤ xs.length ∧ Same H1 H' ∧ ∃ rs, H' D = some (.lst rs) ∧ All2 (R H') ((List.range i).zip (xs.take i)) rs, ⟨xs.length, by simp, Nat.zero_le _, same_new nD, [], upd_same, .nil⟩, ?_⟩
  rintro i m H' ⟨rfl, hi, s1, rs, hD, ar⟩
  have q := s1.seq (h0 a H1 hG)
  by_cases hlt : i < xs.length
  · refine .inr ⟨⟨xs, xs[i], q, by simp [hlt]⟩, fun H' => i + 1 ≤ xs.length ∧ Same H1 H' ∧ ∃ rs, H' D = some (.lst rs) ∧ All2 (R H') ((List.range (i + 1)).zip (xs.take (i + 1))) rs, fun H' p' => ⟨xs.length - (i + 1), by omega, rfl, hlt, p'.2⟩, fun v H'' y => ?_⟩
    obtain ⟨T, x, rfl, nT, rfl, hx⟩ := y
    have hx := hx xs q
    have sT : Same H' (upd H' T (.tup [.int (i : Nat), x])) := same_new nT
    simp only [tYes, if_true]
    refine hs a H1 _ i x T _ hG hx (s1.trans sT) upd_same fun y H3 s3 r3 => ?_
    have hl : rs.length < sizeLine := by
      rw [← ar.length, List.length_zip, List.length_take, List.length_range]
      omega
    have s4 := sT.trans s3
    refine ⟨rs, s4 _ _ hD, hl, hlt, fun c o ec => ?_, rs ++ [y], upd_same, ?_⟩
    · rw [upd_ne (ne_of_none ec nD)]
      exact s4 _ _ (s1 _ _ ec)
    · have f3 : Fr [D] H3 (upd H3 D (.lst (rs ++ [y]))) := (Fr.refl _ _).upd (by simp)
      have e : xs.take (i + 1) = xs.take i ++ [x] := by rw [List.take_succ, hx]; rfl
      rw [e, List.range_succ, List.zip_append (by rw [List.length_range, List.length_take]; omega)]
      exact (ar.mono fun u v r => hk _ _ D _ u v (s4 _ _ hD) f3 (hk _ _ D _ u v hD (.of s4) r)).snoc (hk _ _ D _ (i, x) y (s4 _ _ hD) f3 r3)
  · have e : i = xs.length := by omega
    subst e
    rw [List.take_length] at ar
    exact .inl ⟨⟨xs, q, Nat.le_refl _⟩, hd a H1 H' D rs hG nD s1 hD ar⟩
/-- [e for x in range(n) if ..] -/
theorem rcutF {tt : TT} {wi : TI} (lo : Int) (n : Nat) (c : Nat → Bool) (G : Hp → Prop) (R : Hp → Nat → V → Prop) (hk : Keeps R) (h1 : ∀ Z : It → Hp → Prop, (∀ H1, G H1 → Z (Itr lo n) H1) → wi σ H Z) (hlen : n ≤ sizeLine)
    (hs : ∀ H1 H2 i (Z : VK) (W : Hp → Prop), G H1 → i < n → Same H1 H2 → (c i = true → ∀ y H3, Same H2 H3 → R H3 i y → Z y H3) → (c i = false → ∀ H3, Same H2 H3 → W H3) → g (.int (lo + i)) (wipe σ vs) H2 fun σ2 H3' => wipe σ2 vs = wipe σ vs ∧ tt σ2 H3' fun b H3 => if b = true then te σ2 H3 Z else W H3)
    (hd : ∀ H1 H3 D rs, G H1 → H1 D = none → Same H1 H3 → H3 D = some (.lst rs) → All2 (R H3) ((List.range n).filter c) rs → Q (.ref D) H3) : tLc wi g tt te vs σ H Q := by
  refine h1 _ fun H1 hG => fun D nD => ?_
  refine lc_range (fun i H' => i ≤ n ∧ Same H1 H' ∧ ∃ rs, H' D = some (.lst rs) ∧ All2 (R H') ((List.range i).filter c) rs) ⟨Nat.zero_le _, same_new nD, [], upd_same, .nil⟩ ?_ ?_
  · rintro i H' hi ⟨_, s1, rs, hD, ar⟩
    refine hs H1 H' i _ _ hG hi s1 (fun hc y H3 s3 r3 => ?_) (fun hc H3 s3 => ?_)
    · have hl : rs.length < sizeLine := by
        rw [← ar.length]
        exact Nat.lt_of_le_of_lt (List.length_filter_le _ _) (by rw [List.length_range]; omega)
      refine ⟨rs, s3 _ _ hD, hl, hi, fun c o ec => ?_, rs ++ [y], upd_same, ?_⟩
      · rw [upd_ne (ne_of_none ec nD)]
        exact s3 _ _ (s1 _ _ ec)
      · have f3 : Fr [D] H3 (upd H3 D (.lst (rs ++ [y]))) := (Fr.refl _ _).upd (by simp)
        rw [List.range_succ, List.filter_append, List.filter_cons, if_pos hc]
        exact (ar.mono fun u v r => hk _ _ D _ u v (s3 _ _ hD) f3 (hk _ _ D _ u v hD (.of s3) r)).snoc (hk _ _ D _ i y (s3 _ _ hD) f3 r3)
    · refine ⟨hi, s1.trans s3, rs, s3 _ _ hD, ?_⟩
      rw [List.range_succ, List.filter_append, List.filter_cons, if_neg (by rw [hc]; exact Bool.false_ne_true), List.filter_nil, List.append_nil]
      exact ar.mono fun u v r => hk _ _ D _ u v hD (.of s3) r
  · rintro H' ⟨_, s1, rs, hD, ar⟩
    exact hd H1 H' D rs hG nD s1 hD ar
/-- [e for x in a list if ..], none of which is taken -/
theorem lcut0 {tt : TT} {tl : TE} (G : Addr → Hp → Prop) (xs : List V) (h1 : ∀ Z : VK, (∀ a H1, G a H1 → Z (.ref a) H1) → tl σ H Z) (h0 : ∀ a H1, G a H1 → SqL K H1 a xs)
    (hs : ∀ a H1 H2 (i : Nat) x (Z : VK) (W : Hp → Prop), G a H1 → xs[i]? = some x → Same H1 H2 → (∀ H3, Same H2 H3 → W H3) → g x (wipe σ vs) H2 fun σ2 H3' => wipe σ2 vs = wipe σ vs ∧ tt σ2 H3' fun b H3 => if b = true then te σ2 H3 Z else W H3)
    (hd : ∀ a H1 H3 D, G a H1 → H1 D = none → Same H1 H3 → H3 D = some (.lst []) → Q (.ref D) H3) : tLc (iList K tl) g tt te vs σ H Q := by
  refine h1 _ fun a H1 hG => ⟨a, rfl, ⟨xs, h0 a H1 hG⟩, fun D nD => ?_⟩
  refine lc_list (xs := xs) (fun i H' => Same H1 H' ∧ H' D = some (.lst [])) ⟨same_new nD, upd_same⟩ (fun i H' _ h => h.1.seq (h0 a H1 hG)) ?_ ?_
  · rintro i x H' hx ⟨s1, hD⟩
    exact hs a H1 H' i x _ _ hG hx s1 fun H3 s3 => ⟨s1.trans s3, s3 _ _ hD⟩
  · rintro H' ⟨s1, hD⟩
    exact hd a H1 H' D hG nD s1 hD
/-- for x in range(..) -/
theorem for_rcut {wi : TI} (lo : Int) (n : Nat) (G : Hp → Prop) (h1 : ∀ Z : It → Hp → Prop, (∀ H1, G H1 → Z (Itr lo n) H1) → wi σ H Z) (Pv : Nat → L2.St → Hp → Prop) (h0 : ∀ H1, G H1 → Pv 0 σ H1)
    (hs : ∀ i σ H, i < n → Pv i σ H → g (.int (lo + i)) σ H fun σ2 H2 => tb { D with nx := Pv (i + 1), ct := Pv (i + 1), bk := D.nx } σ2 H2) (hd : ∀ σ H, Pv n σ H → D.nx σ H) : tFor wi g tb D σ H :=
  h1 _ fun H1 q => for_range Pv (h0 H1 q) hs hd
end
/-! #### sorted of a dict with int keys -/
def srt (ks : List Int) : List Int := ks.mergeSort fun a b => decide (a ≤ b)
theorem srt_perm (ks : List Int) : (srt ks).Perm ks := List.mergeSort_perm ..
theorem srt_mem {ks : List Int} {k : Int} : k ∈ srt ks ↔ k ∈ ks := (srt_perm ks).mem_iff
theorem srt_length (ks : List Int) : (srt ks).length = ks.length := (srt_perm ks).length_eq
theorem call_sortedC {X : Cx} (hcalm : X.calm = true) : CallR X (.builtin "sorted") (fun xs H Q => ∃ (a : Addr) (kvs : List (Key × V)) (ks : List Int), xs = [.ref a] ∧ H a = some (.dK kvs) ∧ kvs.map (·.1) = ks.map Sum.inl ∧ ks.length < 64 ∧
    ∀ p : Addr, H p = none → Q (.ref p) (upd H p (.lst ((srt ks).map V.int)))) :=
  call_imp (call_sortedDI hcalm) fun xs H Q ⟨a, kvs, ks, e, h, hk, l, q⟩ => ⟨a, kvs, ks, e, Rd.of h, hk, l, fun ys p pm so n => by
    have e : ys = srt ks := by
      refine List.Perm.eq_of_pairwise (le := fun a b => a ≤ b) (fun a b _ _ h1 h2 => Int.le_antisymm h1 h2) so ?_ (pm.trans (srt_perm ks).symm)
      have z := List.pairwise_mergeSort (le := fun a b : Int => decide (a ≤ b)) (fun a b c h1 h2 => by simp only [decide_eq_true_eq] at *; omega) (fun a b => by simp only [Bool.or_eq_true, decide_eq_true_eq]; omega) ks
      exact z.imp fun h => of_decide_eq_true h
    rw [e]
    exact q p n⟩
/-! #### texts -/
def TxtOk (n : Nat) (x : Str) : Prop := PyData.strOk x = true ∧ x.length ≤ n
theorem TxtOk.mono {n m : Nat} {x : Str} (h : TxtOk n x) (l : n ≤ m) : TxtOk m x := ⟨h.1, Nat.le_trans h.2 l⟩
theorem strOk_iff {x : Str} : PyData.strOk x = true ↔ ∀ c ∈ x.cps.toList, c < 0x110000 := by
  unfold PyData.strOk
  rw [Array.all_eq_true_iff_forall_mem]
  simp only [decide_eq_true_eq]
  exact ⟨fun h c m => h c (by simpa using m), fun h c m => h c (by simpa using m)⟩
theorem append_cps (x y : Str) : (x ++ y).cps.toList = x.cps.toList ++ y.cps.toList := by
  show (x.cps ++ y.cps).toList = _
  simp
theorem length_append (x y : Str) : (x ++ y).length = x.length + y.length := by
  show (x.cps ++ y.cps).size = _
  rw [Array.size_append]; rfl
theorem TxtOk.app {n m : Nat} {x y : Str} (h : TxtOk n x) (h2 : TxtOk m y) : TxtOk (n + m) (x ++ y) := by
  refine ⟨strOk_iff.mpr fun c hc => ?_, by rw [length_append]; exact Nat.add_le_add h.2 h2.2⟩
  rw [append_cps] at hc
  rcases List.mem_append.mp hc with z | z
  · exact strOk_iff.mp h.1 c z
  · exact strOk_iff.mp h2.1 c z
/-- an attribute, within a block: the reading names no block -/
theorem pe_fldK {X : Cx} {K : PySem.W.Frag} {e : Expr} {ta : TE} {f : Str} {pos : Pos} (hK : X.K = K) (he : PE X e ta) (hb : attributeBase e f X.env (eval e X.env) = eval e X.env) : PE X (.Attribute e f pos) (tFld K ta f) := by
  subst hK
  exact pe_fld he hb
/-- a, b = a tuple -/
def gTupC (n : Nat) (t : TGs) : TG := fun v σ H Q => ∃ a, v = .ref a ∧ ∃ xs, H a = some (.tup xs) ∧ xs.length = n ∧ t xs σ H Q
theorem pg_tupC {X : Cx} {pos : Pos} {es : List Expr} {k : Nat} {t : TGs} {n : Nat} (hc : X.calm = true) (h : PGs X es t)
    (hn : (assignEach es X.env).length = n := by rfl) (hst : (assignEach es X.env).findIdx? (·.1) = none := by rfl) : PG X (.Tuple es k pos) (gTupC n t) :=
  ⟨fun pins s σ H v u Q I r ⟨a, e, xs, ha, hl, q⟩ => (pg_tup hc h hn hst).run pins s σ H v u Q I r ⟨a, xs, e, SqT.of ha, hl, q⟩⟩
/-- b if c else d, as a test -/
def tIfT (c a b : TT) : TT := fun σ H Q => c σ H fun d H1 => if d = true then a σ H1 Q else b σ H1 Q
theorem pt_ifExp {X : Cx} {pos : Pos} {c a b : Expr} {tc ta tb : TT} (hc : PT X c tc) (ha : PT X a ta) (hb : PT X b tb) : PT X (.IfExp c a b pos) (tIfT tc ta tb) := by
  refine ⟨fun pins s σ H Q I h => ?_⟩
  refine PyProof.Rows.isTrue_IfExp (thn (hc.run pins s σ H _ I h) fun d s1 ⟨H1, I1, q1⟩ => ?_)
  cases d with
  | true => exact ha.run pins s1 σ H1 Q I1 q1
  | false => exact hb.run pins s1 σ H1 Q I1 q1
/-- one statement, by where it gets to -/
theorem seq_rel {t u : TS} {D : Ends} {σ : L2.St} {H : Hp} (R : L2.St → Hp → Prop) (h1 : ∀ N : L2.St → Hp → Prop, (∀ σ1 H1, R σ1 H1 → N σ1 H1) → t { D with nx := N } σ H) (h2 : ∀ σ1 H1, R σ1 H1 → u D σ1 H1) : tSeq t u D σ H := h1 _ h2
theorem seq_to {t u : TS} {D : Ends} {σ : L2.St} {H : Hp} (σ1 : L2.St) (H1 : Hp) (h1 : ∀ N : L2.St → Hp → Prop, N σ1 H1 → t { D with nx := N } σ H) (h2 : u D σ1 H1) : tSeq t u D σ H := h1 _ h2
theorem call_listC {X : Cx} : CallR X (.type "list") (fun xs H Q => ∃ p ys, xs = [.ref p] ∧ seqO H p = some ys ∧ ∀ l, H l = none → Q (.ref l) (upd H l (.lst ys))) :=
  call_imp call_list_of fun vs H Q ⟨p, ys, e, h, q⟩ => ⟨p, ys, e, seqO_ok h, q⟩
theorem call_tupleC {X : Cx} : CallR X (.type "tuple") (fun xs H Q => ∃ p ys, xs = [.ref p] ∧ H p = some (.lst ys) ∧ ∀ l, H l = none → Q (.ref l) (upd H l (.tup ys))) :=
  call_imp call_tuple_of fun vs H Q ⟨p, ys, e, h, q⟩ => ⟨p, ys, e, .inl ⟨SqL.of h, q⟩⟩
theorem call_dictC {X : Cx} : CallR X (.type "dict") (fun xs H Q => ∃ p kvs, xs = [.ref p] ∧ H p = some (.dK kvs) ∧ ∀ l : Addr, H l = none → Q (.ref l) (upd H l (.dK kvs))) :=
  call_imp call_dictD fun vs H Q ⟨p, ys, e, h, q⟩ => ⟨p, ys, e, Rd.of h, q⟩
/-- texts: one sign -/
theorem ix_strC {X : Cx} : IxR X (fun x y H Q => ∃ z i, x = .str z ∧ y = .int i ∧ z.length ≤ sizeLine ∧ ∃ c, atI z.cps.toList i = some c ∧ Q (.str ⟨#[c]⟩) H) := ix_imp ix_str fun x y H Q ⟨z, i, e1, e2, l, c, h, q⟩ => ⟨z, i, c, e1, e2, l, h, q⟩
theorem RDq :
    (∀ (σ : L2.St) (H : Hp) (Q : VK), tDNewK σ H Q = ∀ p, H p = none → Q (.ref p) (upd H p (.dK []))) ∧
    (∀ (trs : List (TE × TE)) (σ : L2.St) (H : Hp) (Q : VK), tDisp trs σ H Q = ∀ p, H p = none → tPairs trs σ (upd H p (.dK [])) fun ps H2 => H2 p = some (.dK []) ∧ ∃ kvs : List (Key × V), ps = kvs.map (fun kv => (kV kv.1, kv.2)) ∧ kvs.length ≤ 15 ∧ Q (.ref p) (upd H2 p (.dK (mergeK [] kvs)))) ∧
    (∀ (σ : L2.St) (H : Hp) (Q : List (V × V) → Hp → Prop), tPairs [] σ H Q = Q [] H) ∧
    (∀ (tk tv : TE) (r : List (TE × TE)) (σ : L2.St) (H : Hp) (Q : List (V × V) → Hp → Prop), tPairs ((tk, tv) :: r) σ H Q = tk σ H fun x H1 => tv σ H1 fun y H2 => tPairs r σ H2 fun ps H3 => Q ((x, y) :: ps) H3) ∧
    (∀ (x y : V) (H : Hp) (Q : VK), rCat x y H Q = ∃ l b xs zs, x = .ref l ∧ y = .ref b ∧ H l = some (.lst xs) ∧ H b = some (.lst zs) ∧ xs.length + zs.length ≤ sizeLine ∧ ∀ p, H p = none → Q (.ref p) (upd H p (.lst (xs ++ zs)))) ∧
    (∀ (x y : V) (H : Hp) (Q : VK), rRep x y H Q = ∃ l k xs, x = .ref l ∧ y = .int k ∧ H l = some (.lst xs) ∧ -(2 ^ 63) ≤ k ∧ k < 2 ^ 63 ∧ xs.length * k.toNat ≤ sizeLine ∧ ∀ p, H p = none → Q (.ref p) (upd H p (.lst (List.replicate k.toNat xs).flatten))) ∧
    (∀ (K : PySem.W.Frag) (vs : List V) (H : Hp) (Q : VK), rAll K vs H Q = ∃ (a : Addr) (bs : List Bool), vs = [V.ref a] ∧ SqL K H a (bs.map V.bl) ∧ Q (.bl (bs.all id)) H) ∧
    (∀ (te : L2.St → Hp → (Int → Int → Hp → Prop) → Prop) (σ : L2.St) (H : Hp) (Q : VK), tLstRg te σ H Q = te σ H fun a b H1 => RgOk a b ∧ ∀ q, H1 q = none → Q (.ref q) (upd H1 q (.lst (rgV a b)))) ∧
    (∀ (ta : TE) (σ : L2.St) (H : Hp) (Q : Int → Int → Hp → Prop), tRg1 ta σ H Q = ta σ H fun x H1 => ∃ n, x = .int n ∧ Q 0 n H1) ∧
    (∀ (ta tb : TE) (σ : L2.St) (H : Hp) (Q : Int → Int → Hp → Prop), tRg2 ta tb σ H Q = ta σ H fun x H1 => tb σ H1 fun y H2 => ∃ i j, x = .int i ∧ y = .int j ∧ Q i j H2) ∧
    (∀ (r : V → List V → Hp → VK → Prop) (to te : TE) (σ : L2.St) (H : Hp) (Q : VK), tM1 r to te σ H Q = to σ H fun x H1 => (∃ a, x = .str a) ∧ te σ H1 fun y H2 => r x [y] H2 Q) ∧
    (∀ (x : V) (lo hi : Option Int) (H : Hp) (Q : VK), rSlS x lo hi H Q = ∃ z, x = .str z ∧ z.length ≤ sizeLine ∧ Q (.str (cutS z lo hi)) H) ∧
    (∀ (K : PySem.W.Frag) (x : V) (lo hi : Option Int) (H : Hp) (Q : VK), rSlL K x lo hi H Q = ∃ a xs, x = .ref a ∧ SqL K H a xs ∧ ∀ p, H p = none → Q (.ref p) (upd H p (.lst (cutV xs lo hi)))) ∧
    (∀ (α : Type) (f : α → V), ([] : List α).map f = []) ∧
    (∀ (ta : TA) (σ : L2.St) (H : Hp) (R : It → Hp → Prop), iRng1 ta σ H R = ta σ H fun vs H1 => ∃ j : Int, vs = [.int j] ∧ -(2 ^ 62) ≤ j ∧ j < 2 ^ 62 ∧ R (Itr 0 j.toNat) H1) ∧
    (∀ (ta : TA) (σ : L2.St) (H : Hp) (R : It → Hp → Prop), iRng2 ta σ H R = ta σ H fun vs H1 => ∃ i j : Int, vs = [.int i, .int j] ∧ (-(2 ^ 62) ≤ i ∧ i < 2 ^ 62 ∧ -(2 ^ 62) ≤ j ∧ j < 2 ^ 62) ∧ R (Itr i (j - i).toNat) H1) ∧
    (∀ (n : Nat) (t : TGs) (v : V) (σ : L2.St) (H : Hp) (Q : L2.St → Hp → Prop), gTupC n t v σ H Q = ∃ a, v = .ref a ∧ ∃ xs, H a = some (.tup xs) ∧ xs.length = n ∧ t xs σ H Q) ∧
    (∀ (c a b : TT) (σ : L2.St) (H : Hp) (Q : Bool → Hp → Prop), tIfT c a b σ H Q = c σ H fun d H1 => if d = true then a σ H1 Q else b σ H1 Q) ∧
    (∀ (σ : L2.St), wipe σ [] = σ) ∧ (∀ (σ : L2.St) (v : Nat) (vs : List Nat), wipe σ (v :: vs) = (wipe σ vs).set v none) :=
  ⟨fun _ _ _ => rfl, fun _ _ _ _ => rfl, fun _ _ _ => rfl, fun _ _ _ _ _ _ => rfl, fun _ _ _ _ => rfl, fun _ _ _ _ => rfl, fun _ _ _ _ => rfl, fun _ _ _ _ => rfl, fun _ _ _ _ => rfl, fun _ _ _ _ _ => rfl, fun _ _ _ _ _ _ => rfl, fun _ _ _ _ _ => rfl, fun _ _ _ _ _ _ => rfl, fun _ _ => rfl, fun _ _ _ _ => rfl, fun _ _ _ _ => rfl, fun _ _ _ _ _ _ => rfl, fun _ _ _ _ _ _ => rfl, fun _ => rfl, fun _ _ _ => rfl⟩
/-! #### data under frames -/
theorem mapO_same {f f' : V → Option PyData} (hf : ∀ v d, f v = some d → f' v = some d) : ∀ (xs : List V) (ds : List PyData), mapO f xs = some ds → mapO f' xs = some ds
  | [], ds, h => h
  | v :: r, ds, h => by
    unfold mapO at h ⊢
    split at h
    · rename_i d ds' h1 h2
      cases h
      rw [hf _ _ h1, mapO_same hf r _ h2]
    · cases h
theorem dat_same {H H' : Hp} (s : Same H H') : ∀ (n : Nat) (v : V) (d : PyData), dat H n v = some d → dat H' n v = some d := by
  intro n
  induction n with
  | zero =>
    intro v d h
    cases v <;> exact h
  | succ n ih =>
    intro v d h
    cases v with
    | ref a =>
      unfold dat at h ⊢
      split at h
      · rename_i xs e1
        obtain ⟨ds, e2, rfl⟩ := Option.map_eq_some_iff.mp h
        rw [s _ _ e1]
        dsimp only
        rw [mapO_same ih _ _ e2]
        rfl
      · rename_i xs e1
        obtain ⟨ds, e2, rfl⟩ := Option.map_eq_some_iff.mp h
        rw [s _ _ e1]
        dsimp only
        rw [mapO_same ih _ _ e2]
        rfl
      · rename_i ob xs e1
        obtain ⟨ds, e2, rfl⟩ := Option.map_eq_some_iff.mp h
        rw [s _ _ e1]
        dsimp only
        rw [mapO_same ih _ _ e2]
        rfl
      · cases h
    | _ => exact h
/-- the heap but for A -/
def hm (A : List Addr) (H : Hp) : Hp := fun c => if c ∈ A then none else H c
theorem hm_in {A : List Addr} {H : Hp} {c : Addr} (h : c ∉ A) : hm A H c = H c := if_neg h
theorem hm_same {A : List Addr} {H : Hp} : Same (hm A H) H := fun c o h => by
  unfold hm at h
  split at h
  · cases h
  · exact h
theorem hm_fr {A : List Addr} {H H' : Hp} (f : Fr A H H') : Same (hm A H) (hm A H') := fun c o h => by
  unfold hm at h ⊢
  split at h
  · cases h
  · rename_i n
    rw [if_neg n]
    exact f c o n h
/-- the data of a list of texts -/
theorem dat_strs (H : Hp) (n : Nat) : ∀ (g : List Str), mapO (dat H n) (g.map V.str) = some (g.map PyData.str)
  | [] => rfl
  | x :: r => by
    have e : dat H n (.str x) = some (.str x) := (datE H).2.2.2.1 n x
    rw [List.map_cons]
    unfold mapO
    rw [e, dat_strs H n r]
    rfl
theorem dat_ints (H : Hp) (n : Nat) : ∀ (g : List Int), mapO (dat H n) (g.map V.int) = some (g.map PyData.int)
  | [] => rfl
  | x :: r => by
    have e : dat H n (.int x) = some (.int x) := (datE H).2.2.1 n x
    rw [List.map_cons]
    unfold mapO
    rw [e, dat_ints H n r]
    rfl
theorem mapO_append {f : V → Option PyData} : ∀ {xs ys : List V} {ds es : List PyData}, mapO f xs = some ds → mapO f ys = some es → mapO f (xs ++ ys) = some (ds ++ es)
  | [], ys, ds, es, h1, h2 => by cases h1; exact h2
  | x :: r, ys, ds, es, h1, h2 => by
    unfold mapO at h1
    split at h1
    · rename_i d ds' e1 e2
      cases h1
      rw [List.cons_append, List.cons_append]
      conv => lhs; unfold mapO
      rw [e1, mapO_append e2 h2]
    · cases h1
theorem shp_str {n m : Nat} {x : Str} (h : TxtOk n x) : Shp m (.str x) := (shp_s m).2.2.2 x h.1
theorem Shp.lay {n : Nat} {d : PyData} (h : Shp n d) : d.canLay0 = true := h.1
def mx2 (a b : Int) : Int := if b > a then b else a
end RP

namespace RP
open PySem PySem.Spec PyProof.Rows L2
def top (i : Nat) : Stmt := PySem.Challenge.pw_ringpost_k01_bounds_and_rings.main.body.getD i (.Pass ⟨0, 0, 0, 0⟩)
/-- what the top says of an own error class -/
structure ErrC (K : PySem.W.Frag) (mg : Str → Option Value) (n : Str) : Prop where
  g : mg n = some (.ref (He.ga K n))
  ex : PySem.W.excIn K (He.ga K n) He.veBase "ValueError.__new__" = true
  k : PySem.W.keepIn K (.ref (He.ga K n)) = true
  s : PySem.W.subIn K (.ref (He.ga K n)) (.type "BaseException") = some true
  t : PySem.W.typeIn K (.ref (He.ga K n)) = some (.type "type")
end RP

namespace RP
open PySem PySem.Spec PyProof.Rows L2
abbrev s_is_among : Stmt := top 16
abbrev N_is_among : List Str := ["thing", "least", "most"]
theorem sc_is_among : FnScope N_is_among ["thing", "least", "most"] (defScope s_is_among) := ⟨rfl, rfl, rfl, by decide +kernel, rfl, by decide +kernel, by decide +kernel⟩
def sp_is_among (K : PySem.W.Frag) : Sp := fun vs H Q _ => ∃ x lo hi, vs = [x, .int lo, .int hi] ∧ Kn H x ∧ Q (.bl (amongV x lo hi)) H
theorem ok_is_among {P : Program} {w : World} {K : PySem.W.Frag} {mg : Str → Option Value} {base : Heap} (F : FnP K ("is_among", none) "is_among" "is_among" s_is_among) (hm : mg "is_among" = some (.ref (He.ga K "is_among"))) (bl : Blt mg) : Cal P w K mg base 1 "is_among" (sp_is_among K) := by
  refine fn_cal F hm sc_is_among (fun vs H Q E => by walk_at "len") (fun _ _ _ _ _ _ us hl => match us, hl with | [_, _, _], _ => rfl) (fun f cdv A outer s H vs Q E hr h => ?_)
  have hu := hu_of hr
  obtain ⟨x, lo, hi, rfl, hk, q⟩ := h
  refine ⟨_, (pss_one (ps_ret (pe_and (pe_callB call_isC (by rfl) (bl.isi) (by decide +kernel) (pa_cons (pv 0) (pa_cons (pe_bltn (v := .ty "int") (u := .type "int") rfl (bl.int) (by decide +kernel) rfl) pa_nil))) (pe_and (pe_not (pe_callB call_isC (by rfl) (bl.isi) (by decide +kernel) (pa_cons (pv 0) (pa_cons (pe_bltn (v := .ty "bool") (u := .type "bool") rfl (bl.bool) (by decide +kernel) rfl) pa_nil)))) (pe_one (pe_chain op_le op_le (pv 1) (pv 0) (pv 2))))))), ?_⟩
  walk_at "st0"
  simp only [RDa, RDb, RDv, RDk, RDx, RDe, RDd, RDp, RDq, List.getElem?_cons_zero, List.getElem?_cons_succ, List.set_cons_zero, List.set_cons_succ, List.cons.injEq, List.cons_ne_nil, reduceCtorEq, exists_eq_left', exists_eq_left, exists_and_left, and_assoc, exists_const, true_and, and_true, if_true, if_false, false_and, and_false, exists_false, false_or, or_false, true_implies, false_implies, implies_true, forall_eq, forall_eq', Bool.false_eq_true, if_neg, decide_eq_true_eq, Bool.not_eq_true', decide_eq_false_iff_not, Bool.not_true, Bool.not_false, List.length_cons, List.length_nil, sizeLine_eq, Nat.reduceAdd, Nat.reduceLeDiff, Nat.reduceLT, Int.reduceLT, Int.reduceLE, Int.emod_nonneg, ne_eq, Int.reduceEq, not_false_eq_true, not_true_eq_false]
  rcases hk.cases with rfl | ⟨b, rfl⟩ | ⟨n, rfl⟩ | ⟨z, rfl⟩ | ⟨a, t, rfl, ht, rfl | rfl | rfl⟩
  · simp only [RDa, RDb, RDv, RDk, RDx, RDe, RDd, RDp, RDq, List.getElem?_cons_zero, List.getElem?_cons_succ, List.set_cons_zero, List.set_cons_succ, List.cons.injEq, List.cons_ne_nil, reduceCtorEq, exists_eq_left', exists_eq_left, exists_and_left, and_assoc, exists_const, true_and, and_true, if_true, if_false, false_and, and_false, exists_false, false_or, or_false, true_implies, false_implies, implies_true, forall_eq, forall_eq', Bool.false_eq_true, if_neg, decide_eq_true_eq, Bool.not_eq_true', decide_eq_false_iff_not, Bool.not_true, Bool.not_false, List.length_cons, List.length_nil, sizeLine_eq, Nat.reduceAdd, Nat.reduceLeDiff, Nat.reduceLT, Int.reduceLT, Int.reduceLE, Int.emod_nonneg, ne_eq, Int.reduceEq, not_false_eq_true, not_true_eq_false]
    exact q
  · simp only [RDa, RDb, RDv, RDk, RDx, RDe, RDd, RDp, RDq, List.getElem?_cons_zero, List.getElem?_cons_succ, List.set_cons_zero, List.set_cons_succ, List.cons.injEq, List.cons_ne_nil, reduceCtorEq, exists_eq_left', exists_eq_left, exists_and_left, and_assoc, exists_const, true_and, and_true, if_true, if_false, false_and, and_false, exists_false, false_or, or_false, true_implies, false_implies, implies_true, forall_eq, forall_eq', Bool.false_eq_true, if_neg, decide_eq_true_eq, Bool.not_eq_true', decide_eq_false_iff_not, Bool.not_true, Bool.not_false, List.length_cons, List.length_nil, sizeLine_eq, Nat.reduceAdd, Nat.reduceLeDiff, Nat.reduceLT, Int.reduceLT, Int.reduceLE, Int.emod_nonneg, ne_eq, Int.reduceEq, not_false_eq_true, not_true_eq_false]
    exact q
  · simp only [RDa, RDb, RDv, RDk, RDx, RDe, RDd, RDp, RDq, List.getElem?_cons_zero, List.getElem?_cons_succ, List.set_cons_zero, List.set_cons_succ, List.cons.injEq, List.cons_ne_nil, reduceCtorEq, exists_eq_left', exists_eq_left, exists_and_left, and_assoc, exists_const, true_and, and_true, if_true, if_false, false_and, and_false, exists_false, false_or, or_false, true_implies, false_implies, implies_true, forall_eq, forall_eq', Bool.false_eq_true, if_neg, decide_eq_true_eq, Bool.not_eq_true', decide_eq_false_iff_not, Bool.not_true, Bool.not_false, List.length_cons, List.length_nil, sizeLine_eq, Nat.reduceAdd, Nat.reduceLeDiff, Nat.reduceLT, Int.reduceLT, Int.reduceLE, Int.emod_nonneg, ne_eq, Int.reduceEq, not_false_eq_true, not_true_eq_false]
    unfold amongV at q
    by_cases h1 : lo ≤ n
    · rw [if_pos h1]
      simpa [h1] using q
    · rw [if_neg h1]
      simpa [h1] using q
  · simp only [RDa, RDb, RDv, RDk, RDx, RDe, RDd, RDp, RDq, List.getElem?_cons_zero, List.getElem?_cons_succ, List.set_cons_zero, List.set_cons_succ, List.cons.injEq, List.cons_ne_nil, reduceCtorEq, exists_eq_left', exists_eq_left, exists_and_left, and_assoc, exists_const, true_and, and_true, if_true, if_false, false_and, and_false, exists_false, false_or, or_false, true_implies, false_implies, implies_true, forall_eq, forall_eq', Bool.false_eq_true, if_neg, decide_eq_true_eq, Bool.not_eq_true', decide_eq_false_iff_not, Bool.not_true, Bool.not_false, List.length_cons, List.length_nil, sizeLine_eq, Nat.reduceAdd, Nat.reduceLeDiff, Nat.reduceLT, Int.reduceLT, Int.reduceLE, Int.emod_nonneg, ne_eq, Int.reduceEq, not_false_eq_true, not_true_eq_false]
    exact q
  · simp only [RDa, RDb, RDv, RDk, RDx, RDe, RDd, RDp, RDq, List.getElem?_cons_zero, List.getElem?_cons_succ, List.set_cons_zero, List.set_cons_succ, List.cons.injEq, List.cons_ne_nil, reduceCtorEq, exists_eq_left', exists_eq_left, exists_and_left, and_assoc, exists_const, true_and, and_true, if_true, if_false, false_and, and_false, exists_false, false_or, or_false, true_implies, false_implies, implies_true, forall_eq, forall_eq', Bool.false_eq_true, if_neg, decide_eq_true_eq, Bool.not_eq_true', decide_eq_false_iff_not, Bool.not_true, Bool.not_false, List.length_cons, List.length_nil, sizeLine_eq, Nat.reduceAdd, Nat.reduceLeDiff, Nat.reduceLT, Int.reduceLT, Int.reduceLE, Int.emod_nonneg, ne_eq, Int.reduceEq, not_false_eq_true, not_true_eq_false, ht]
    exact q
  · simp only [RDa, RDb, RDv, RDk, RDx, RDe, RDd, RDp, RDq, List.getElem?_cons_zero, List.getElem?_cons_succ, List.set_cons_zero, List.set_cons_succ, List.cons.injEq, List.cons_ne_nil, reduceCtorEq, exists_eq_left', exists_eq_left, exists_and_left, and_assoc, exists_const, true_and, and_true, if_true, if_false, false_and, and_false, exists_false, false_or, or_false, true_implies, false_implies, implies_true, forall_eq, forall_eq', Bool.false_eq_true, if_neg, decide_eq_true_eq, Bool.not_eq_true', decide_eq_false_iff_not, Bool.not_true, Bool.not_false, List.length_cons, List.length_nil, sizeLine_eq, Nat.reduceAdd, Nat.reduceLeDiff, Nat.reduceLT, Int.reduceLT, Int.reduceLE, Int.emod_nonneg, ne_eq, Int.reduceEq, not_false_eq_true, not_true_eq_false, ht]
    exact q
  · simp only [RDa, RDb, RDv, RDk, RDx, RDe, RDd, RDp, RDq, List.getElem?_cons_zero, List.getElem?_cons_succ, List.set_cons_zero, List.set_cons_succ, List.cons.injEq, List.cons_ne_nil, reduceCtorEq, exists_eq_left', exists_eq_left, exists_and_left, and_assoc, exists_const, true_and, and_true, if_true, if_false, false_and, and_false, exists_false, false_or, or_false, true_implies, false_implies, implies_true, forall_eq, forall_eq', Bool.false_eq_true, if_neg, decide_eq_true_eq, Bool.not_eq_true', decide_eq_false_iff_not, Bool.not_true, Bool.not_false, List.length_cons, List.length_nil, sizeLine_eq, Nat.reduceAdd, Nat.reduceLeDiff, Nat.reduceLT, Int.reduceLT, Int.reduceLE, Int.emod_nonneg, ne_eq, Int.reduceEq, not_false_eq_true, not_true_eq_false, ht]
    exact q
end RP

namespace RP
open PySem PySem.Spec PyProof.Rows L2
def intV : V → Int
  | .int n => n
  | _ => 0
/-- bounds, by the things themselves -/
def bnd4 : List V → Bool
  | [a0, a1, a2, a3] => amongV a0 1 20 && amongV a1 1 (intV a0) && amongV a2 0 20 && amongV a3 0 20
  | _ => false
def boundsV (H : Hp) (x : V) : Bool := match x with
  | .ref a => match H a with
    | some (.tup xs) => bnd4 xs
    | _ => false
  | _ => false
/-- a thing that may be handed in, with its items -/
def KnI (H : Hp) (x : V) : Prop := Kn H x ∧ ∀ a xs, x = .ref a → seqO H a = some xs → ∀ y ∈ xs, Kn H y
theorem Kn.same {H H' : Hp} {x : V} (h : Kn H x) (s : Same H H') : Kn H' x := by
  rcases h.cases with rfl | ⟨b, rfl⟩ | ⟨n, rfl⟩ | ⟨z, rfl⟩ | ⟨a, t, rfl, ht, _⟩
  · rfl
  · rfl
  · rfl
  · rfl
  · unfold tyN at ht
    dsimp only at ht
    unfold Kn tyN
    dsimp only
    split at ht
    · rename_i e; rw [s _ _ e]; rfl
    · rename_i e; rw [s _ _ e]; rfl
    · rename_i e; rw [s _ _ e]; rfl
    · cases ht
theorem bnd4_len {xs : List V} (h : xs.length ≠ 4) : bnd4 xs = false := by
  match xs with
  | [] => rfl
  | [_] => rfl
  | [_, _] => rfl
  | [_, _, _] => rfl
  | [_, _, _, _] => exact absurd rfl h
  | _ :: _ :: _ :: _ :: _ :: _ => rfl
theorem amongV_int {x : V} {lo hi : Int} (h : amongV x lo hi = true) : ∃ n, x = .int n ∧ lo ≤ n ∧ n ≤ hi := by
  cases x <;> simp only [amongV, Bool.false_eq_true, reduceCtorEq, Bool.and_eq_true, decide_eq_true_eq] at h
  exact ⟨_, rfl, h.1, h.2⟩
abbrev s_is_bounds : Stmt := top 17
abbrev N_is_bounds : List Str := ["thing"]
theorem sc_is_bounds : FnScope N_is_bounds ["thing"] (defScope s_is_bounds) := ⟨rfl, rfl, rfl, by decide +kernel, rfl, by decide +kernel, by decide +kernel⟩
def sp_is_bounds (K : PySem.W.Frag) : Sp := fun vs H Q _ => ∃ x, vs = [x] ∧ KnI H x ∧ Q (.bl (boundsV H x)) H
theorem ok_is_bounds {P : Program} {w : World} {K : PySem.W.Frag} {mg : Str → Option Value} {base : Heap} (F : FnP K ("is_bounds", none) "is_bounds" "is_bounds" s_is_bounds) (hm : mg "is_bounds" = some (.ref (He.ga K "is_bounds"))) (bl : Blt mg) (c_is_among : Cal P w K mg base 1 "is_among" (sp_is_among K)) (G_MOST_DELAY : ∃ t, mg "MOST_DELAY" = some (.int 20 t)) (G_MOST_WINDOW : ∃ t, mg "MOST_WINDOW" = some (.int 20 t)) : Cal P w K mg base 2 "is_bounds" (sp_is_bounds K) := by
  refine fn_cal F hm sc_is_bounds (fun vs H Q E => by walk_at "len") (fun _ _ _ _ _ _ us hl => match us, hl with | [_], _ => rfl) (fun f cdv A outer s H vs Q E hr h => ?_)
  have hu := hu_of hr
  obtain ⟨t_MOST_DELAY, g_MOST_DELAY⟩ := G_MOST_DELAY
  obtain ⟨t_MOST_WINDOW, g_MOST_WINDOW⟩ := G_MOST_WINDOW
  obtain ⟨x, rfl, hk, q⟩ := h
  refine ⟨_, (pss_cons (ps_if (PW.pt (pw_or (pt_not (pt_val (pe_callB call_isC (by rfl) (bl.isi) (by decide +kernel) (pa_cons (pv 0) (pa_cons (pe_bltn (v := .ty "tuple") (u := .type "tuple") rfl (bl.tuple) (by decide +kernel) rfl) pa_nil))))) (pw_or1 (pt_cmpR op_ne (pe_callB call_lenC (by rfl) (bl.len) (by decide +kernel) (pa_cons (pv 0) pa_nil)) pe_int (nomark _)))))
  (pss_one (ps_ret pe_bl))
  pss_nil)
  (pss_cons (ps_if (PW.pt (pw_or (pt_not (pt_val (pe_fn c_is_among (hr.mono (by decide)) (L2N.takes_of rfl rfl rfl rfl) (pa_cons (pe_ix ix_C (pv 0) pe_int (fun _ _ => rfl)) (pa_cons pe_int (pa_cons (pe_glob (v := .int 20) rfl g_MOST_WINDOW ⟨_, rfl⟩) pa_nil)))))) (pw_or1 (pt_not (pt_val (pe_fn c_is_among (hr.mono (by decide)) (L2N.takes_of rfl rfl rfl rfl) (pa_cons (pe_ix ix_C (pv 0) pe_int (fun _ _ => rfl)) (pa_cons pe_int (pa_cons (pe_ix ix_C (pv 0) pe_int (fun _ _ => rfl)) pa_nil)))))))))
  (pss_one (ps_ret pe_bl))
  pss_nil)
  (pss_one (ps_ret (pe_and (pe_fn c_is_among (hr.mono (by decide)) (L2N.takes_of rfl rfl rfl rfl) (pa_cons (pe_ix ix_C (pv 0) pe_int (fun _ _ => rfl)) (pa_cons pe_int (pa_cons (pe_glob (v := .int 20) rfl g_MOST_DELAY ⟨_, rfl⟩) pa_nil)))) (pe_one (pe_fn c_is_among (hr.mono (by decide)) (L2N.takes_of rfl rfl rfl rfl) (pa_cons (pe_ix ix_C (pv 0) pe_int (fun _ _ => rfl)) (pa_cons pe_int (pa_cons (pe_glob (v := .int 20) rfl g_MOST_DELAY ⟨_, rfl⟩) pa_nil)))))))))), ?_⟩
  walk_at "st0"
  simp only [RDa, RDb, RDv, RDk, RDx, RDe, RDd, RDp, RDq, List.getElem?_cons_zero, List.getElem?_cons_succ, List.set_cons_zero, List.set_cons_succ, List.cons.injEq, List.cons_ne_nil, reduceCtorEq, exists_eq_left', exists_eq_left, exists_and_left, and_assoc, exists_const, true_and, and_true, if_true, if_false, false_and, and_false, exists_false, false_or, or_false, true_implies, false_implies, implies_true, forall_eq, forall_eq', Bool.false_eq_true, if_neg, decide_eq_true_eq, Bool.not_eq_true', decide_eq_false_iff_not, Bool.not_true, Bool.not_false, List.length_cons, List.length_nil, sizeLine_eq, Nat.reduceAdd, Nat.reduceLeDiff, Nat.reduceLT, Int.reduceLT, Int.reduceLE, Int.emod_nonneg, ne_eq, Int.reduceEq, not_false_eq_true, not_true_eq_false]
  have nb : (∀ a xs, x = .ref a → H a ≠ some (.tup xs)) → boundsV H x = false := fun hn => by
    unfold boundsV
    cases x with
    | ref a =>
      dsimp only
      split
      · rename_i xs e; exact absurd e (hn a xs rfl)
      · rfl
    | _ => rfl
  rcases hk.1.cases with rfl | ⟨b, rfl⟩ | ⟨n, rfl⟩ | ⟨z, rfl⟩ | ⟨a, t, rfl, ht, rfl | rfl | rfl⟩
  · simp only [RDa, RDb, RDv, RDk, RDx, RDe, RDd, RDp, RDq, List.getElem?_cons_zero, List.getElem?_cons_succ, List.set_cons_zero, List.set_cons_succ, List.cons.injEq, List.cons_ne_nil, reduceCtorEq, exists_eq_left', exists_eq_left, exists_and_left, and_assoc, exists_const, true_and, and_true, if_true, if_false, false_and, and_false, exists_false, false_or, or_false, true_implies, false_implies, implies_true, forall_eq, forall_eq', Bool.false_eq_true, if_neg, decide_eq_true_eq, Bool.not_eq_true', decide_eq_false_iff_not, Bool.not_true, Bool.not_false, List.length_cons, List.length_nil, sizeLine_eq, Nat.reduceAdd, Nat.reduceLeDiff, Nat.reduceLT, Int.reduceLT, Int.reduceLE, Int.emod_nonneg, ne_eq, Int.reduceEq, not_false_eq_true, not_true_eq_false]
    exact q
  · simp only [RDa, RDb, RDv, RDk, RDx, RDe, RDd, RDp, RDq, List.getElem?_cons_zero, List.getElem?_cons_succ, List.set_cons_zero, List.set_cons_succ, List.cons.injEq, List.cons_ne_nil, reduceCtorEq, exists_eq_left', exists_eq_left, exists_and_left, and_assoc, exists_const, true_and, and_true, if_true, if_false, false_and, and_false, exists_false, false_or, or_false, true_implies, false_implies, implies_true, forall_eq, forall_eq', Bool.false_eq_true, if_neg, decide_eq_true_eq, Bool.not_eq_true', decide_eq_false_iff_not, Bool.not_true, Bool.not_false, List.length_cons, List.length_nil, sizeLine_eq, Nat.reduceAdd, Nat.reduceLeDiff, Nat.reduceLT, Int.reduceLT, Int.reduceLE, Int.emod_nonneg, ne_eq, Int.reduceEq, not_false_eq_true, not_true_eq_false]
    exact q
  · simp only [RDa, RDb, RDv, RDk, RDx, RDe, RDd, RDp, RDq, List.getElem?_cons_zero, List.getElem?_cons_succ, List.set_cons_zero, List.set_cons_succ, List.cons.injEq, List.cons_ne_nil, reduceCtorEq, exists_eq_left', exists_eq_left, exists_and_left, and_assoc, exists_const, true_and, and_true, if_true, if_false, false_and, and_false, exists_false, false_or, or_false, true_implies, false_implies, implies_true, forall_eq, forall_eq', Bool.false_eq_true, if_neg, decide_eq_true_eq, Bool.not_eq_true', decide_eq_false_iff_not, Bool.not_true, Bool.not_false, List.length_cons, List.length_nil, sizeLine_eq, Nat.reduceAdd, Nat.reduceLeDiff, Nat.reduceLT, Int.reduceLT, Int.reduceLE, Int.emod_nonneg, ne_eq, Int.reduceEq, not_false_eq_true, not_true_eq_false]
    exact q
  · simp only [RDa, RDb, RDv, RDk, RDx, RDe, RDd, RDp, RDq, List.getElem?_cons_zero, List.getElem?_cons_succ, List.set_cons_zero, List.set_cons_succ, List.cons.injEq, List.cons_ne_nil, reduceCtorEq, exists_eq_left', exists_eq_left, exists_and_left, and_assoc, exists_const, true_and, and_true, if_true, if_false, false_and, and_false, exists_false, false_or, or_false, true_implies, false_implies, implies_true, forall_eq, forall_eq', Bool.false_eq_true, if_neg, decide_eq_true_eq, Bool.not_eq_true', decide_eq_false_iff_not, Bool.not_true, Bool.not_false, List.length_cons, List.length_nil, sizeLine_eq, Nat.reduceAdd, Nat.reduceLeDiff, Nat.reduceLT, Int.reduceLT, Int.reduceLE, Int.emod_nonneg, ne_eq, Int.reduceEq, not_false_eq_true, not_true_eq_false]
    exact q
  · rw [nb (fun a' xs e h2 => by cases e; rw [tyN_tup h2] at ht; exact absurd ht (by decide))] at q
    simp only [RDa, RDb, RDv, RDk, RDx, RDe, RDd, RDp, RDq, List.getElem?_cons_zero, List.getElem?_cons_succ, List.set_cons_zero, List.set_cons_succ, List.cons.injEq, List.cons_ne_nil, reduceCtorEq, exists_eq_left', exists_eq_left, exists_and_left, and_assoc, exists_const, true_and, and_true, if_true, if_false, false_and, and_false, exists_false, false_or, or_false, true_implies, false_implies, implies_true, forall_eq, forall_eq', Bool.false_eq_true, if_neg, decide_eq_true_eq, Bool.not_eq_true', decide_eq_false_iff_not, Bool.not_true, Bool.not_false, List.length_cons, List.length_nil, sizeLine_eq, Nat.reduceAdd, Nat.reduceLeDiff, Nat.reduceLT, Int.reduceLT, Int.reduceLE, Int.emod_nonneg, ne_eq, Int.reduceEq, not_false_eq_true, not_true_eq_false, ht]
    exact q
  · obtain ⟨xs, hxs⟩ : ∃ xs, H a = some (.tup xs) := by
      unfold tyN at ht
      dsimp only at ht
      split at ht
      · exact absurd ht (by decide)
      · exact ⟨_, by assumption⟩
      · exact absurd ht (by decide)
      · cases ht
    have eb : boundsV H (.ref a) = bnd4 xs := by unfold boundsV; dsimp only; rw [hxs]
    rw [eb] at q
    have hy := hk.2 a xs rfl (seqO_tup hxs)
    simp only [RDa, RDb, RDv, RDk, RDx, RDe, RDd, RDp, RDq, List.getElem?_cons_zero, List.getElem?_cons_succ, List.set_cons_zero, List.set_cons_succ, List.cons.injEq, List.cons_ne_nil, reduceCtorEq, exists_eq_left', exists_eq_left, exists_and_left, and_assoc, exists_const, true_and, and_true, if_true, if_false, false_and, and_false, exists_false, false_or, or_false, true_implies, false_implies, implies_true, forall_eq, forall_eq', Bool.false_eq_true, if_neg, decide_eq_true_eq, Bool.not_eq_true', decide_eq_false_iff_not, Bool.not_true, Bool.not_false, List.length_cons, List.length_nil, sizeLine_eq, Nat.reduceAdd, Nat.reduceLeDiff, Nat.reduceLT, Int.reduceLT, Int.reduceLE, Int.emod_nonneg, ne_eq, Int.reduceEq, not_false_eq_true, not_true_eq_false, ht, lenO_tup hxs, seqO_tup hxs]
    by_cases l4 : xs.length = 4
    · rw [if_neg (by omega)]
      match xs, l4, hxs, hy, q with
      | [a0, a1, a2, a3], _, hxs, hy, q =>
        have k0 := hy a0 (by simp)
        have k1 := hy a1 (by simp)
        have k2 := hy a2 (by simp)
        have k3 := hy a3 (by simp)
        have eb4 : bnd4 [a0, a1, a2, a3] = (amongV a0 1 20 && amongV a1 1 (intV a0) && amongV a2 0 20 && amongV a3 0 20) := rfl
        rw [eb4] at q
        simp only [RDa, RDb, RDv, RDk, RDx, RDe, RDd, RDp, RDq, List.getElem?_cons_zero, List.getElem?_cons_succ, List.set_cons_zero, List.set_cons_succ, List.cons.injEq, List.cons_ne_nil, reduceCtorEq, exists_eq_left', exists_eq_left, exists_and_left, and_assoc, exists_const, true_and, and_true, if_true, if_false, false_and, and_false, exists_false, false_or, or_false, true_implies, false_implies, implies_true, forall_eq, forall_eq', Bool.false_eq_true, if_neg, decide_eq_true_eq, Bool.not_eq_true', decide_eq_false_iff_not, Bool.not_true, Bool.not_false, List.length_cons, List.length_nil, sizeLine_eq, Nat.reduceAdd, Nat.reduceLeDiff, Nat.reduceLT, Int.reduceLT, Int.reduceLE, Int.emod_nonneg, ne_eq, Int.reduceEq, not_false_eq_true, not_true_eq_false, sp_is_among, k0, k1, k2, k3, seqO_tup hxs]
        cases h0 : amongV a0 1 20 with
        | false =>
          rw [h0] at q
          rw [if_pos rfl]
          exact q
        | true =>
          obtain ⟨w0, rfl, _, _⟩ := amongV_int h0
          rw [h0] at q
          rw [if_neg (by decide)]
          refine ⟨w0, rfl, ?_⟩
          have ei : intV (.int w0) = w0 := rfl
          rw [ei] at q
          cases h1 : amongV a1 1 w0 with
          | false =>
            rw [h1] at q
            rw [if_pos rfl]
            exact q
          | true =>
            rw [h1] at q
            rw [if_neg (by decide)]
            cases h2 : amongV a2 0 20 with
            | false =>
              rw [h2] at q
              rw [if_neg (by decide)]
              exact q
            | true =>
              rw [h2] at q
              rw [if_pos rfl]
              exact q
    · rw [if_pos (by omega)]
      rw [bnd4_len l4] at q
      exact q
  · rw [nb (fun a' xs e h2 => by cases e; rw [tyN_tup h2] at ht; exact absurd ht (by decide))] at q
    simp only [RDa, RDb, RDv, RDk, RDx, RDe, RDd, RDp, RDq, List.getElem?_cons_zero, List.getElem?_cons_succ, List.set_cons_zero, List.set_cons_succ, List.cons.injEq, List.cons_ne_nil, reduceCtorEq, exists_eq_left', exists_eq_left, exists_and_left, and_assoc, exists_const, true_and, and_true, if_true, if_false, false_and, and_false, exists_false, false_or, or_false, true_implies, false_implies, implies_true, forall_eq, forall_eq', Bool.false_eq_true, if_neg, decide_eq_true_eq, Bool.not_eq_true', decide_eq_false_iff_not, Bool.not_true, Bool.not_false, List.length_cons, List.length_nil, sizeLine_eq, Nat.reduceAdd, Nat.reduceLeDiff, Nat.reduceLT, Int.reduceLT, Int.reduceLE, Int.emod_nonneg, ne_eq, Int.reduceEq, not_false_eq_true, not_true_eq_false, ht]
    exact q
abbrev s_need_bounds : Stmt := top 19
abbrev N_need_bounds : List Str := ["thing"]
theorem sc_need_bounds : FnScope N_need_bounds ["thing"] (defScope s_need_bounds) := ⟨rfl, rfl, rfl, by decide +kernel, rfl, by decide +kernel, by decide +kernel⟩
def sp_need_bounds (K : PySem.W.Frag) : Sp := fun vs H Q E => ∃ x, vs = [x] ∧ KnI H x ∧ (boundsV H x = true → Q .non H) ∧ (boundsV H x = false → E (.ref (He.ga K "BadBounds")) none H)
theorem ok_need_bounds {P : Program} {w : World} {K : PySem.W.Frag} {mg : Str → Option Value} {base : Heap} (F : FnP K ("need_bounds", none) "need_bounds" "need_bounds" s_need_bounds) (hm : mg "need_bounds" = some (.ref (He.ga K "need_bounds"))) (bl : Blt mg) (c_is_bounds : Cal P w K mg base 2 "is_bounds" (sp_is_bounds K)) (e_BadBounds : ErrC K mg "BadBounds") : Cal P w K mg base 3 "need_bounds" (sp_need_bounds K) := by
  refine fn_cal F hm sc_need_bounds (fun vs H Q E => by walk_at "len") (fun _ _ _ _ _ _ us hl => match us, hl with | [_], _ => rfl) (fun f cdv A outer s H vs Q E hr h => ?_)
  have hu := hu_of hr
  obtain ⟨x, rfl, hk, q1, q2⟩ := h
  refine ⟨_, (pss_one (ps_if (pt_not (pt_val (pe_fn c_is_bounds (hr.mono (by decide)) (L2N.takes_of rfl rfl rfl rfl) (pa_cons (pv 0) pa_nil))))
  (pss_one (L2N.ps_raise rfl (L2N.takes_of rfl rfl rfl rfl) (L2N.pmk_own PySem.F.excBase_ValueError e_BadBounds.ex e_BadBounds.g e_BadBounds.k (raises_own e_BadBounds.s e_BadBounds.t) rfl)))
  pss_nil)), ?_⟩
  walk_at "st0"
  simp only [RDa, RDb, RDv, RDk, RDx, RDe, RDd, RDp, RDq, List.getElem?_cons_zero, List.getElem?_cons_succ, List.set_cons_zero, List.set_cons_succ, List.cons.injEq, List.cons_ne_nil, reduceCtorEq, exists_eq_left', exists_eq_left, exists_and_left, and_assoc, exists_const, true_and, and_true, if_true, if_false, false_and, and_false, exists_false, false_or, or_false, true_implies, false_implies, implies_true, forall_eq, forall_eq', Bool.false_eq_true, if_neg, decide_eq_true_eq, Bool.not_eq_true', decide_eq_false_iff_not, Bool.not_true, Bool.not_false, List.length_cons, List.length_nil, sizeLine_eq, Nat.reduceAdd, Nat.reduceLeDiff, Nat.reduceLT, Int.reduceLT, Int.reduceLE, Int.emod_nonneg, ne_eq, Int.reduceEq, not_false_eq_true, not_true_eq_false, sp_is_bounds, hk]
  cases hb : boundsV H x with
  | false => rw [if_pos rfl]; exact q2 hb
  | true => rw [if_neg (by decide)]; exact q1 hb
abbrev s_need_ring : Stmt := top 20
abbrev N_need_ring : List Str := ["thing"]
theorem sc_need_ring : FnScope N_need_ring ["thing"] (defScope s_need_ring) := ⟨rfl, rfl, rfl, by decide +kernel, rfl, by decide +kernel, by decide +kernel⟩
def sp_need_ring (K : PySem.W.Frag) : Sp := fun vs H Q E => ∃ x, vs = [x] ∧ Kn H x ∧ (amongV x 1 200 = true → Q .non H) ∧ (amongV x 1 200 = false → E (.ref (He.ga K "BadRing")) none H)
theorem ok_need_ring {P : Program} {w : World} {K : PySem.W.Frag} {mg : Str → Option Value} {base : Heap} (F : FnP K ("need_ring", none) "need_ring" "need_ring" s_need_ring) (hm : mg "need_ring" = some (.ref (He.ga K "need_ring"))) (bl : Blt mg) (c_is_among : Cal P w K mg base 1 "is_among" (sp_is_among K)) (e_BadRing : ErrC K mg "BadRing") (G_MOST_RING : ∃ t, mg "MOST_RING" = some (.int 200 t)) : Cal P w K mg base 2 "need_ring" (sp_need_ring K) := by
  refine fn_cal F hm sc_need_ring (fun vs H Q E => by walk_at "len") (fun _ _ _ _ _ _ us hl => match us, hl with | [_], _ => rfl) (fun f cdv A outer s H vs Q E hr h => ?_)
  have hu := hu_of hr
  obtain ⟨t_MOST_RING, g_MOST_RING⟩ := G_MOST_RING
  obtain ⟨x, rfl, hk, q1, q2⟩ := h
  refine ⟨_, (pss_one (ps_if (pt_not (pt_val (pe_fn c_is_among (hr.mono (by decide)) (L2N.takes_of rfl rfl rfl rfl) (pa_cons (pv 0) (pa_cons pe_int (pa_cons (pe_glob (v := .int 200) rfl g_MOST_RING ⟨_, rfl⟩) pa_nil))))))
  (pss_one (L2N.ps_raise rfl (L2N.takes_of rfl rfl rfl rfl) (L2N.pmk_own PySem.F.excBase_ValueError e_BadRing.ex e_BadRing.g e_BadRing.k (raises_own e_BadRing.s e_BadRing.t) rfl)))
  pss_nil)), ?_⟩
  walk_at "st0"
  simp only [RDa, RDb, RDv, RDk, RDx, RDe, RDd, RDp, RDq, List.getElem?_cons_zero, List.getElem?_cons_succ, List.set_cons_zero, List.set_cons_succ, List.cons.injEq, List.cons_ne_nil, reduceCtorEq, exists_eq_left', exists_eq_left, exists_and_left, and_assoc, exists_const, true_and, and_true, if_true, if_false, false_and, and_false, exists_false, false_or, or_false, true_implies, false_implies, implies_true, forall_eq, forall_eq', Bool.false_eq_true, if_neg, decide_eq_true_eq, Bool.not_eq_true', decide_eq_false_iff_not, Bool.not_true, Bool.not_false, List.length_cons, List.length_nil, sizeLine_eq, Nat.reduceAdd, Nat.reduceLeDiff, Nat.reduceLT, Int.reduceLT, Int.reduceLE, Int.emod_nonneg, ne_eq, Int.reduceEq, not_false_eq_true, not_true_eq_false, sp_is_among, hk]
  cases hb : amongV x 1 200 with
  | false => rw [if_pos rfl]; exact q2 hb
  | true => rw [if_neg (by decide)]; exact q1 hb
abbrev s_least_ring : Stmt := top 22
abbrev N_least_ring : List Str := ["bounds"]
theorem sc_least_ring : FnScope N_least_ring ["bounds"] (defScope s_least_ring) := ⟨rfl, rfl, rfl, by decide +kernel, rfl, by decide +kernel, by decide +kernel⟩
theorem boundsV_ints {H : Hp} {x : V} (h : boundsV H x = true) : ∃ a w r d b, x = .ref a ∧ H a = some (.tup [.int w, .int r, .int d, .int b]) ∧ 1 ≤ w ∧ w ≤ 20 ∧ 1 ≤ r ∧ r ≤ w ∧ 0 ≤ d ∧ d ≤ 20 ∧ 0 ≤ b ∧ b ≤ 20 := by
  unfold boundsV at h
  split at h
  · rename_i a
    split at h
    · rename_i xs e
      unfold bnd4 at h
      split at h
      · rename_i a0 a1 a2 a3
        simp only [Bool.and_eq_true] at h
        obtain ⟨⟨⟨h0, h1⟩, h2⟩, h3⟩ := h
        obtain ⟨w, rfl, _, _⟩ := amongV_int h0
        obtain ⟨r, rfl, _, _⟩ := amongV_int h1
        obtain ⟨d, rfl, _, _⟩ := amongV_int h2
        obtain ⟨b, rfl, _, _⟩ := amongV_int h3
        exact ⟨a, w, r, d, b, rfl, e, by assumption, by assumption, by assumption, by assumption, by assumption, by assumption, by assumption, by assumption⟩
      · cases h
    · cases h
  · cases h
theorem boundsV_of {H : Hp} {a : Addr} {w r d b : Int} (h : H a = some (.tup [.int w, .int r, .int d, .int b])) (c : 1 ≤ w ∧ w ≤ 20 ∧ 1 ≤ r ∧ r ≤ w ∧ 0 ≤ d ∧ d ≤ 20 ∧ 0 ≤ b ∧ b ≤ 20) : boundsV H (.ref a) = true := by
  unfold boundsV
  dsimp only
  rw [h]
  show ((decide (1 ≤ w) && decide (w ≤ 20)) && (decide (1 ≤ r) && decide (r ≤ w)) && (decide (0 ≤ d) && decide (d ≤ 20)) && (decide (0 ≤ b) && decide (b ≤ 20))) = true
  simp only [Bool.and_eq_true, decide_eq_true_eq]
  omega
theorem KnI_ints {H : Hp} {a : Addr} {w r d b : Int} (h : H a = some (.tup [.int w, .int r, .int d, .int b])) : KnI H (.ref a) := by
  refine ⟨by unfold Kn; rw [tyN_tup h]; rfl, fun a' xs e hx y hy => ?_⟩
  cases e
  rw [seqO_tup h] at hx
  cases hx
  simp only [List.mem_cons, List.not_mem_nil, or_false] at hy
  rcases hy with rfl | rfl | rfl | rfl <;> rfl
def sp_least_ring (K : PySem.W.Frag) : Sp := fun vs H Q E => ∃ x, vs = [x] ∧ KnI H x ∧ (∀ a w r d b, x = .ref a → H a = some (.tup [.int w, .int r, .int d, .int b]) → boundsV H x = true → Q (.int (w + r + mx2 d b)) H) ∧ (boundsV H x = false → E (.ref (He.ga K "BadBounds")) none H)
theorem ok_least_ring {P : Program} {w : World} {K : PySem.W.Frag} {mg : Str → Option Value} {base : Heap} (F : FnP K ("least_ring", none) "least_ring" "least_ring" s_least_ring) (hm : mg "least_ring" = some (.ref (He.ga K "least_ring"))) (bl : Blt mg) (c_need_bounds : Cal P w K mg base 3 "need_bounds" (sp_need_bounds K)) : Cal P w K mg base 4 "least_ring" (sp_least_ring K) := by
  refine fn_cal F hm sc_least_ring (fun vs H Q E => by walk_at "len") (fun _ _ _ _ _ _ us hl => match us, hl with | [_], _ => rfl) (fun f cdv A outer s H vs Q E hr h => ?_)
  have hu := hu_of hr
  obtain ⟨x, rfl, hk, q1, q2⟩ := h
  refine ⟨_, (pss_cons (ps_expr (pe_fn c_need_bounds (hr.mono (by decide)) (L2N.takes_of rfl rfl rfl rfl) (pa_cons (pv 0) pa_nil)))
  (pss_one (ps_ret (pe_op op_add (pe_op op_add (pe_ix ix_C (pv 0) pe_int (fun _ _ => rfl)) (pe_ix ix_C (pv 0) pe_int (fun _ _ => rfl))) (pe_callB (call_max2 rfl) (by rfl) (bl.max) (by decide +kernel) (pa_cons (pe_ix ix_C (pv 0) pe_int (fun _ _ => rfl)) (pa_cons (pe_ix ix_C (pv 0) pe_int (fun _ _ => rfl)) pa_nil))))))), ?_⟩
  walk_at "st0"
  simp only [RDa, RDb, RDv, RDk, RDx, RDe, RDd, RDp, RDq, List.getElem?_cons_zero, List.getElem?_cons_succ, List.set_cons_zero, List.set_cons_succ, List.cons.injEq, List.cons_ne_nil, reduceCtorEq, exists_eq_left', exists_eq_left, exists_and_left, and_assoc, exists_const, true_and, and_true, if_true, if_false, false_and, and_false, exists_false, false_or, or_false, true_implies, false_implies, implies_true, forall_eq, forall_eq', Bool.false_eq_true, if_neg, decide_eq_true_eq, Bool.not_eq_true', decide_eq_false_iff_not, Bool.not_true, Bool.not_false, List.length_cons, List.length_nil, sizeLine_eq, Nat.reduceAdd, Nat.reduceLeDiff, Nat.reduceLT, Int.reduceLT, Int.reduceLE, Int.emod_nonneg, ne_eq, Int.reduceEq, not_false_eq_true, not_true_eq_false, sp_need_bounds, hk]
  refine ⟨fun hb => ?_, q2⟩
  obtain ⟨a, w', r, d, b, rfl, ha, _⟩ := boundsV_ints hb
  simp only [RDa, RDb, RDv, RDk, RDx, RDe, RDd, RDp, RDq, List.getElem?_cons_zero, List.getElem?_cons_succ, List.set_cons_zero, List.set_cons_succ, List.cons.injEq, List.cons_ne_nil, reduceCtorEq, exists_eq_left', exists_eq_left, exists_and_left, and_assoc, exists_const, true_and, and_true, if_true, if_false, false_and, and_false, exists_false, false_or, or_false, true_implies, false_implies, implies_true, forall_eq, forall_eq', Bool.false_eq_true, if_neg, decide_eq_true_eq, Bool.not_eq_true', decide_eq_false_iff_not, Bool.not_true, Bool.not_false, List.length_cons, List.length_nil, sizeLine_eq, Nat.reduceAdd, Nat.reduceLeDiff, Nat.reduceLT, Int.reduceLT, Int.reduceLE, Int.emod_nonneg, ne_eq, Int.reduceEq, not_false_eq_true, not_true_eq_false, seqO_tup ha]
  exact q1 a w' r d b rfl ha hb
end RP

namespace RP
open PySem PySem.Spec PyProof.Rows L2
def textV : V → Bool
  | .str z => decide (z.length ≤ 40)
  | _ => false
abbrev s_is_text : Stmt := top 18
abbrev N_is_text : List Str := ["thing"]
theorem sc_is_text : FnScope N_is_text ["thing"] (defScope s_is_text) := ⟨rfl, rfl, rfl, by decide +kernel, rfl, by decide +kernel, by decide +kernel⟩
def sp_is_text (K : PySem.W.Frag) : Sp := fun vs H Q _ => ∃ x, vs = [x] ∧ Kn H x ∧ (∀ z, x = .str z → z.length ≤ 100000) ∧ Q (.bl (textV x)) H
theorem ok_is_text {P : Program} {w : World} {K : PySem.W.Frag} {mg : Str → Option Value} {base : Heap} (F : FnP K ("is_text", none) "is_text" "is_text" s_is_text) (hm : mg "is_text" = some (.ref (He.ga K "is_text"))) (bl : Blt mg) (G_MOST_SIGNS : ∃ t, mg "MOST_SIGNS" = some (.int 40 t)) : Cal P w K mg base 1 "is_text" (sp_is_text K) := by
  refine fn_cal F hm sc_is_text (fun vs H Q E => by walk_at "len") (fun _ _ _ _ _ _ us hl => match us, hl with | [_], _ => rfl) (fun f cdv A outer s H vs Q E hr h => ?_)
  have hu := hu_of hr
  obtain ⟨t_MOST_SIGNS, g_MOST_SIGNS⟩ := G_MOST_SIGNS
  obtain ⟨x, rfl, hk, hz, q⟩ := h
  refine ⟨_, (pss_one (ps_ret (pe_and (pe_callB call_isC (by rfl) (bl.isi) (by decide +kernel) (pa_cons (pv 0) (pa_cons (pe_bltn (v := .ty "str") (u := .type "str") rfl (bl.str) (by decide +kernel) rfl) pa_nil))) (pe_one (pe_cmpR op_le (pe_callB call_len_str (by rfl) (bl.len) (by decide +kernel) (pa_cons (pv 0) pa_nil)) (pe_glob (v := .int 40) rfl g_MOST_SIGNS ⟨_, rfl⟩) (nomark _)))))), ?_⟩
  walk_at "st0"
  simp only [RDa, RDb, RDv, RDk, RDx, RDe, RDd, RDp, RDq, List.getElem?_cons_zero, List.getElem?_cons_succ, List.set_cons_zero, List.set_cons_succ, List.cons.injEq, List.cons_ne_nil, reduceCtorEq, exists_eq_left', exists_eq_left, exists_and_left, and_assoc, exists_const, true_and, and_true, if_true, if_false, false_and, and_false, exists_false, false_or, or_false, true_implies, false_implies, implies_true, forall_eq, forall_eq', Bool.false_eq_true, if_neg, decide_eq_true_eq, Bool.not_eq_true', decide_eq_false_iff_not, Bool.not_true, Bool.not_false, List.length_cons, List.length_nil, sizeLine_eq, Nat.reduceAdd, Nat.reduceLeDiff, Nat.reduceLT, Int.reduceLT, Int.reduceLE, Int.emod_nonneg, ne_eq, Int.reduceEq, not_false_eq_true, not_true_eq_false]
  rcases hk.cases with rfl | ⟨b, rfl⟩ | ⟨n, rfl⟩ | ⟨z, rfl⟩ | ⟨a, t, rfl, ht, rfl | rfl | rfl⟩
  · simp only [RDa, RDb, RDv, RDk, RDx, RDe, RDd, RDp, RDq, List.getElem?_cons_zero, List.getElem?_cons_succ, List.set_cons_zero, List.set_cons_succ, List.cons.injEq, List.cons_ne_nil, reduceCtorEq, exists_eq_left', exists_eq_left, exists_and_left, and_assoc, exists_const, true_and, and_true, if_true, if_false, false_and, and_false, exists_false, false_or, or_false, true_implies, false_implies, implies_true, forall_eq, forall_eq', Bool.false_eq_true, if_neg, decide_eq_true_eq, Bool.not_eq_true', decide_eq_false_iff_not, Bool.not_true, Bool.not_false, List.length_cons, List.length_nil, sizeLine_eq, Nat.reduceAdd, Nat.reduceLeDiff, Nat.reduceLT, Int.reduceLT, Int.reduceLE, Int.emod_nonneg, ne_eq, Int.reduceEq, not_false_eq_true, not_true_eq_false]
    exact q
  · simp only [RDa, RDb, RDv, RDk, RDx, RDe, RDd, RDp, RDq, List.getElem?_cons_zero, List.getElem?_cons_succ, List.set_cons_zero, List.set_cons_succ, List.cons.injEq, List.cons_ne_nil, reduceCtorEq, exists_eq_left', exists_eq_left, exists_and_left, and_assoc, exists_const, true_and, and_true, if_true, if_false, false_and, and_false, exists_false, false_or, or_false, true_implies, false_implies, implies_true, forall_eq, forall_eq', Bool.false_eq_true, if_neg, decide_eq_true_eq, Bool.not_eq_true', decide_eq_false_iff_not, Bool.not_true, Bool.not_false, List.length_cons, List.length_nil, sizeLine_eq, Nat.reduceAdd, Nat.reduceLeDiff, Nat.reduceLT, Int.reduceLT, Int.reduceLE, Int.emod_nonneg, ne_eq, Int.reduceEq, not_false_eq_true, not_true_eq_false]
    exact q
  · simp only [RDa, RDb, RDv, RDk, RDx, RDe, RDd, RDp, RDq, List.getElem?_cons_zero, List.getElem?_cons_succ, List.set_cons_zero, List.set_cons_succ, List.cons.injEq, List.cons_ne_nil, reduceCtorEq, exists_eq_left', exists_eq_left, exists_and_left, and_assoc, exists_const, true_and, and_true, if_true, if_false, false_and, and_false, exists_false, false_or, or_false, true_implies, false_implies, implies_true, forall_eq, forall_eq', Bool.false_eq_true, if_neg, decide_eq_true_eq, Bool.not_eq_true', decide_eq_false_iff_not, Bool.not_true, Bool.not_false, List.length_cons, List.length_nil, sizeLine_eq, Nat.reduceAdd, Nat.reduceLeDiff, Nat.reduceLT, Int.reduceLT, Int.reduceLE, Int.emod_nonneg, ne_eq, Int.reduceEq, not_false_eq_true, not_true_eq_false]
    exact q
  · simp only [RDa, RDb, RDv, RDk, RDx, RDe, RDd, RDp, RDq, List.getElem?_cons_zero, List.getElem?_cons_succ, List.set_cons_zero, List.set_cons_succ, List.cons.injEq, List.cons_ne_nil, reduceCtorEq, exists_eq_left', exists_eq_left, exists_and_left, and_assoc, exists_const, true_and, and_true, if_true, if_false, false_and, and_false, exists_false, false_or, or_false, true_implies, false_implies, implies_true, forall_eq, forall_eq', Bool.false_eq_true, if_neg, decide_eq_true_eq, Bool.not_eq_true', decide_eq_false_iff_not, Bool.not_true, Bool.not_false, List.length_cons, List.length_nil, sizeLine_eq, Nat.reduceAdd, Nat.reduceLeDiff, Nat.reduceLT, Int.reduceLT, Int.reduceLE, Int.emod_nonneg, ne_eq, Int.reduceEq, not_false_eq_true, not_true_eq_false]
    have := hz z rfl
    refine ⟨by omega, ?_⟩
    have e : decide ((z.length : Int) ≤ 40) = decide (z.length ≤ 40) := by
      rw [Bool.eq_iff_iff]
      simp only [decide_eq_true_eq]
      omega
    rw [e]
    exact q
  · simp only [RDa, RDb, RDv, RDk, RDx, RDe, RDd, RDp, RDq, List.getElem?_cons_zero, List.getElem?_cons_succ, List.set_cons_zero, List.set_cons_succ, List.cons.injEq, List.cons_ne_nil, reduceCtorEq, exists_eq_left', exists_eq_left, exists_and_left, and_assoc, exists_const, true_and, and_true, if_true, if_false, false_and, and_false, exists_false, false_or, or_false, true_implies, false_implies, implies_true, forall_eq, forall_eq', Bool.false_eq_true, if_neg, decide_eq_true_eq, Bool.not_eq_true', decide_eq_false_iff_not, Bool.not_true, Bool.not_false, List.length_cons, List.length_nil, sizeLine_eq, Nat.reduceAdd, Nat.reduceLeDiff, Nat.reduceLT, Int.reduceLT, Int.reduceLE, Int.emod_nonneg, ne_eq, Int.reduceEq, not_false_eq_true, not_true_eq_false, ht]
    exact q
  · simp only [RDa, RDb, RDv, RDk, RDx, RDe, RDd, RDp, RDq, List.getElem?_cons_zero, List.getElem?_cons_succ, List.set_cons_zero, List.set_cons_succ, List.cons.injEq, List.cons_ne_nil, reduceCtorEq, exists_eq_left', exists_eq_left, exists_and_left, and_assoc, exists_const, true_and, and_true, if_true, if_false, false_and, and_false, exists_false, false_or, or_false, true_implies, false_implies, implies_true, forall_eq, forall_eq', Bool.false_eq_true, if_neg, decide_eq_true_eq, Bool.not_eq_true', decide_eq_false_iff_not, Bool.not_true, Bool.not_false, List.length_cons, List.length_nil, sizeLine_eq, Nat.reduceAdd, Nat.reduceLeDiff, Nat.reduceLT, Int.reduceLT, Int.reduceLE, Int.emod_nonneg, ne_eq, Int.reduceEq, not_false_eq_true, not_true_eq_false, ht]
    exact q
  · simp only [RDa, RDb, RDv, RDk, RDx, RDe, RDd, RDp, RDq, List.getElem?_cons_zero, List.getElem?_cons_succ, List.set_cons_zero, List.set_cons_succ, List.cons.injEq, List.cons_ne_nil, reduceCtorEq, exists_eq_left', exists_eq_left, exists_and_left, and_assoc, exists_const, true_and, and_true, if_true, if_false, false_and, and_false, exists_false, false_or, or_false, true_implies, false_implies, implies_true, forall_eq, forall_eq', Bool.false_eq_true, if_neg, decide_eq_true_eq, Bool.not_eq_true', decide_eq_false_iff_not, Bool.not_true, Bool.not_false, List.length_cons, List.length_nil, sizeLine_eq, Nat.reduceAdd, Nat.reduceLeDiff, Nat.reduceLT, Int.reduceLT, Int.reduceLE, Int.emod_nonneg, ne_eq, Int.reduceEq, not_false_eq_true, not_true_eq_false, ht]
    exact q
/-- texts, by the thing itself -/
def textsV (H : Hp) (x : V) : Bool := match x with
  | .ref a => match H a with
    | some (.lst xs) => decide (xs.length ≤ 400) && xs.all textV
    | _ => false
  | _ => false
abbrev s_need_texts : Stmt := top 21
abbrev N_need_texts : List Str := ["thing", "one"]
theorem sc_need_texts : FnScope N_need_texts ["thing"] (defScope s_need_texts) := ⟨rfl, rfl, rfl, by decide +kernel, rfl, by decide +kernel, by decide +kernel⟩
def sp_need_texts (K : PySem.W.Frag) : Sp := fun vs H Q E => ∃ x, vs = [x] ∧ KnI H x ∧ (∀ a xs z, x = .ref a → H a = some (.lst xs) → .str z ∈ xs → z.length ≤ 100000) ∧ (textsV H x = true → Q .non H) ∧ (textsV H x = false → E (.ref (He.ga K "BadTexts")) none H)
theorem ok_need_texts {P : Program} {w : World} {K : PySem.W.Frag} {mg : Str → Option Value} {base : Heap} (F : FnP K ("need_texts", none) "need_texts" "need_texts" s_need_texts) (hm : mg "need_texts" = some (.ref (He.ga K "need_texts"))) (bl : Blt mg) (c_is_text : Cal P w K mg base 1 "is_text" (sp_is_text K)) (e_BadTexts : ErrC K mg "BadTexts") (G_MOST_TEXTS : ∃ t, mg "MOST_TEXTS" = some (.int 400 t)) : Cal P w K mg base 2 "need_texts" (sp_need_texts K) := by
  refine fn_cal F hm sc_need_texts (fun vs H Q E => by walk_at "len") (fun _ _ _ _ _ _ us hl => match us, hl with | [_], _ => rfl) (fun f cdv A outer s H vs Q E hr h => ?_)
  have hu := hu_of hr
  obtain ⟨t_MOST_TEXTS, g_MOST_TEXTS⟩ := G_MOST_TEXTS
  obtain ⟨x, rfl, hk, hz, q1, q2⟩ := h
  refine ⟨_, (pss_cons (ps_if (PW.pt (pw_or (pt_not (pt_val (pe_callB call_isC (by rfl) (bl.isi) (by decide +kernel) (pa_cons (pv 0) (pa_cons (pe_bltn (v := .ty "list") (u := .type "list") rfl (bl.list) (by decide +kernel) rfl) pa_nil))))) (pw_or1 (pt_cmpR op_gt (pe_callB call_lenC (by rfl) (bl.len) (by decide +kernel) (pa_cons (pv 0) pa_nil)) (pe_glob (v := .int 400) rfl g_MOST_TEXTS ⟨_, rfl⟩) (nomark _)))))
  (pss_one (L2N.ps_raise rfl (L2N.takes_of rfl rfl rfl rfl) (L2N.pmk_own PySem.F.excBase_ValueError e_BadTexts.ex e_BadTexts.g e_BadTexts.k (raises_own e_BadTexts.s e_BadTexts.t) rfl)))
  pss_nil)
  (pss_one (ps_for (passes_of rfl) rfl (pi_list (pv 0)) (pg_name (i := 1) sc_need_texts.nd rfl (Or.inl rfl))
  (pss_one (ps_if (pt_not (pt_val (pe_fn c_is_text (hr.mono (by decide)) (L2N.takes_of rfl rfl rfl rfl) (pa_cons (pv 1) pa_nil))))
  (pss_one (L2N.ps_raise rfl (L2N.takes_of rfl rfl rfl rfl) (L2N.pmk_own PySem.F.excBase_ValueError e_BadTexts.ex e_BadTexts.g e_BadTexts.k (raises_own e_BadTexts.s e_BadTexts.t) rfl)))
  pss_nil))))), ?_⟩
  walk_at "st0"
  have nb : (∀ a xs, x = .ref a → H a ≠ some (.lst xs)) → textsV H x = false := fun hn => by
    unfold textsV
    cases x with
    | ref a =>
      dsimp only
      split
      · rename_i xs e; exact absurd e (hn a xs rfl)
      · rfl
    | _ => rfl
  refine seq_gen fun N_a h_a => ?_
  simp only [RDa, RDb, RDv, RDk, RDx, RDe, RDd, RDp, RDq, List.getElem?_cons_zero, List.getElem?_cons_succ, List.set_cons_zero, List.set_cons_succ, List.cons.injEq, List.cons_ne_nil, reduceCtorEq, exists_eq_left', exists_eq_left, exists_and_left, and_assoc, exists_const, true_and, and_true, if_true, if_false, false_and, and_false, exists_false, false_or, or_false, true_implies, false_implies, implies_true, forall_eq, forall_eq', Bool.false_eq_true, if_neg, decide_eq_true_eq, Bool.not_eq_true', decide_eq_false_iff_not, Bool.not_true, Bool.not_false, List.length_cons, List.length_nil, sizeLine_eq, Nat.reduceAdd, Nat.reduceLeDiff, Nat.reduceLT, Int.reduceLT, Int.reduceLE, Int.emod_nonneg, ne_eq, Int.reduceEq, not_false_eq_true, not_true_eq_false]
  rcases hk.1.cases with rfl | ⟨b, rfl⟩ | ⟨n, rfl⟩ | ⟨z, rfl⟩ | ⟨a, t, rfl, ht, rfl | rfl | rfl⟩
  · simp only [RDa, RDb, RDv, RDk, RDx, RDe, RDd, RDp, RDq, List.getElem?_cons_zero, List.getElem?_cons_succ, List.set_cons_zero, List.set_cons_succ, List.cons.injEq, List.cons_ne_nil, reduceCtorEq, exists_eq_left', exists_eq_left, exists_and_left, and_assoc, exists_const, true_and, and_true, if_true, if_false, false_and, and_false, exists_false, false_or, or_false, true_implies, false_implies, implies_true, forall_eq, forall_eq', Bool.false_eq_true, if_neg, decide_eq_true_eq, Bool.not_eq_true', decide_eq_false_iff_not, Bool.not_true, Bool.not_false, List.length_cons, List.length_nil, sizeLine_eq, Nat.reduceAdd, Nat.reduceLeDiff, Nat.reduceLT, Int.reduceLT, Int.reduceLE, Int.emod_nonneg, ne_eq, Int.reduceEq, not_false_eq_true, not_true_eq_false]
    exact q2 rfl
  · simp only [RDa, RDb, RDv, RDk, RDx, RDe, RDd, RDp, RDq, List.getElem?_cons_zero, List.getElem?_cons_succ, List.set_cons_zero, List.set_cons_succ, List.cons.injEq, List.cons_ne_nil, reduceCtorEq, exists_eq_left', exists_eq_left, exists_and_left, and_assoc, exists_const, true_and, and_true, if_true, if_false, false_and, and_false, exists_false, false_or, or_false, true_implies, false_implies, implies_true, forall_eq, forall_eq', Bool.false_eq_true, if_neg, decide_eq_true_eq, Bool.not_eq_true', decide_eq_false_iff_not, Bool.not_true, Bool.not_false, List.length_cons, List.length_nil, sizeLine_eq, Nat.reduceAdd, Nat.reduceLeDiff, Nat.reduceLT, Int.reduceLT, Int.reduceLE, Int.emod_nonneg, ne_eq, Int.reduceEq, not_false_eq_true, not_true_eq_false]
    exact q2 rfl
  · simp only [RDa, RDb, RDv, RDk, RDx, RDe, RDd, RDp, RDq, List.getElem?_cons_zero, List.getElem?_cons_succ, List.set_cons_zero, List.set_cons_succ, List.cons.injEq, List.cons_ne_nil, reduceCtorEq, exists_eq_left', exists_eq_left, exists_and_left, and_assoc, exists_const, true_and, and_true, if_true, if_false, false_and, and_false, exists_false, false_or, or_false, true_implies, false_implies, implies_true, forall_eq, forall_eq', Bool.false_eq_true, if_neg, decide_eq_true_eq, Bool.not_eq_true', decide_eq_false_iff_not, Bool.not_true, Bool.not_false, List.length_cons, List.length_nil, sizeLine_eq, Nat.reduceAdd, Nat.reduceLeDiff, Nat.reduceLT, Int.reduceLT, Int.reduceLE, Int.emod_nonneg, ne_eq, Int.reduceEq, not_false_eq_true, not_true_eq_false]
    exact q2 rfl
  · simp only [RDa, RDb, RDv, RDk, RDx, RDe, RDd, RDp, RDq, List.getElem?_cons_zero, List.getElem?_cons_succ, List.set_cons_zero, List.set_cons_succ, List.cons.injEq, List.cons_ne_nil, reduceCtorEq, exists_eq_left', exists_eq_left, exists_and_left, and_assoc, exists_const, true_and, and_true, if_true, if_false, false_and, and_false, exists_false, false_or, or_false, true_implies, false_implies, implies_true, forall_eq, forall_eq', Bool.false_eq_true, if_neg, decide_eq_true_eq, Bool.not_eq_true', decide_eq_false_iff_not, Bool.not_true, Bool.not_false, List.length_cons, List.length_nil, sizeLine_eq, Nat.reduceAdd, Nat.reduceLeDiff, Nat.reduceLT, Int.reduceLT, Int.reduceLE, Int.emod_nonneg, ne_eq, Int.reduceEq, not_false_eq_true, not_true_eq_false]
    exact q2 rfl
  · obtain ⟨xs, hxs⟩ : ∃ xs, H a = some (.lst xs) := by
      unfold tyN at ht
      dsimp only at ht
      split at ht
      · exact ⟨_, by assumption⟩
      · exact absurd ht (by decide)
      · exact absurd ht (by decide)
      · cases ht
    have eb : textsV H (.ref a) = (decide (xs.length ≤ 400) && xs.all textV) := by unfold textsV; dsimp only; rw [hxs]
    rw [eb] at q1 q2
    have hy := hk.2 a xs rfl (seqO_lst hxs)
    simp only [RDa, RDb, RDv, RDk, RDx, RDe, RDd, RDp, RDq, List.getElem?_cons_zero, List.getElem?_cons_succ, List.set_cons_zero, List.set_cons_succ, List.cons.injEq, List.cons_ne_nil, reduceCtorEq, exists_eq_left', exists_eq_left, exists_and_left, and_assoc, exists_const, true_and, and_true, if_true, if_false, false_and, and_false, exists_false, false_or, or_false, true_implies, false_implies, implies_true, forall_eq, forall_eq', Bool.false_eq_true, if_neg, decide_eq_true_eq, Bool.not_eq_true', decide_eq_false_iff_not, Bool.not_true, Bool.not_false, List.length_cons, List.length_nil, sizeLine_eq, Nat.reduceAdd, Nat.reduceLeDiff, Nat.reduceLT, Int.reduceLT, Int.reduceLE, Int.emod_nonneg, ne_eq, Int.reduceEq, not_false_eq_true, not_true_eq_false, ht, lenO_lst hxs]
    by_cases l4 : xs.length ≤ 400
    · rw [if_neg (by omega)]
      refine h_a _ _ ?_
      rw [decide_eq_true l4, Bool.true_and] at q1 q2
      refine for_lcut (fun a' H1 => a' = a ∧ H = H1) xs (fun Z hZ => ?_) (fun a' i σ H' => a' = a ∧ (∃ u, σ = [some (.ref a), u]) ∧ H = H' ∧ ∀ y ∈ xs.take i, textV y = true) ?_ ?_ ?_ ?_
      · simp only [RDa, RDb, RDv, RDk, RDx, RDe, RDd, RDp, RDq, List.getElem?_cons_zero, List.getElem?_cons_succ, List.set_cons_zero, List.set_cons_succ, List.cons.injEq, List.cons_ne_nil, reduceCtorEq, exists_eq_left', exists_eq_left, exists_and_left, and_assoc, exists_const, true_and, and_true, if_true, if_false, false_and, and_false, exists_false, false_or, or_false, true_implies, false_implies, implies_true, forall_eq, forall_eq', Bool.false_eq_true, if_neg, decide_eq_true_eq, Bool.not_eq_true', decide_eq_false_iff_not, Bool.not_true, Bool.not_false, List.length_cons, List.length_nil, sizeLine_eq, Nat.reduceAdd, Nat.reduceLeDiff, Nat.reduceLT, Int.reduceLT, Int.reduceLE, Int.emod_nonneg, ne_eq, Int.reduceEq, not_false_eq_true, not_true_eq_false]
        exact hZ _ _ ⟨rfl, rfl⟩
      · rintro a' H1 ⟨rfl, rfl⟩
        exact ⟨SqL.of hxs, rfl, ⟨_, rfl⟩, rfl, by simp⟩
      · rintro a' i σ H1 _ ⟨rfl, _, rfl, _⟩
        exact SqL.of hxs
      · rintro a' i y σ H1 hy' ⟨rfl, ⟨u, rfl⟩, rfl, all⟩
        have my := List.mem_of_getElem? hy'
        simp only [RDa, RDb, RDv, RDk, RDx, RDe, RDd, RDp, RDq, List.getElem?_cons_zero, List.getElem?_cons_succ, List.set_cons_zero, List.set_cons_succ, List.cons.injEq, List.cons_ne_nil, reduceCtorEq, exists_eq_left', exists_eq_left, exists_and_left, and_assoc, exists_const, true_and, and_true, if_true, if_false, false_and, and_false, exists_false, false_or, or_false, true_implies, false_implies, implies_true, forall_eq, forall_eq', Bool.false_eq_true, if_neg, decide_eq_true_eq, Bool.not_eq_true', decide_eq_false_iff_not, Bool.not_true, Bool.not_false, List.length_cons, List.length_nil, sizeLine_eq, Nat.reduceAdd, Nat.reduceLeDiff, Nat.reduceLT, Int.reduceLT, Int.reduceLE, Int.emod_nonneg, ne_eq, Int.reduceEq, not_false_eq_true, not_true_eq_false, sp_is_text, hy y my]
        refine ⟨fun z e => hz a' xs z rfl hxs (e ▸ my), ?_⟩
        cases ty : textV y with
        | false =>
          rw [if_pos rfl]
          refine q2 ?_
          rw [List.all_eq_false]
          exact ⟨y, my, by rw [ty]; decide⟩
        | true =>
          rw [if_neg (by decide)]
          refine ⟨⟨_, rfl⟩, fun y' m' => ?_⟩
          rw [List.take_succ, hy'] at m'
          rcases List.mem_append.mp m' with z | z
          · exact all y' z
          · have e : y' = y := by simpa using z
            rw [e]; exact ty
      · rintro a' σ H1 ⟨rfl, ⟨u, rfl⟩, rfl, all⟩
        rw [List.take_length] at all
        exact q1 (List.all_eq_true.mpr all)
    · rw [if_pos (by omega)]
      rw [decide_eq_false l4, Bool.false_and] at q2
      exact q2 rfl
  · rw [nb (fun a' xs e h2 => by cases e; rw [tyN_lst h2] at ht; exact absurd ht (by decide))] at q2
    simp only [RDa, RDb, RDv, RDk, RDx, RDe, RDd, RDp, RDq, List.getElem?_cons_zero, List.getElem?_cons_succ, List.set_cons_zero, List.set_cons_succ, List.cons.injEq, List.cons_ne_nil, reduceCtorEq, exists_eq_left', exists_eq_left, exists_and_left, and_assoc, exists_const, true_and, and_true, if_true, if_false, false_and, and_false, exists_false, false_or, or_false, true_implies, false_implies, implies_true, forall_eq, forall_eq', Bool.false_eq_true, if_neg, decide_eq_true_eq, Bool.not_eq_true', decide_eq_false_iff_not, Bool.not_true, Bool.not_false, List.length_cons, List.length_nil, sizeLine_eq, Nat.reduceAdd, Nat.reduceLeDiff, Nat.reduceLT, Int.reduceLT, Int.reduceLE, Int.emod_nonneg, ne_eq, Int.reduceEq, not_false_eq_true, not_true_eq_false, ht]
    exact q2 rfl
  · rw [nb (fun a' xs e h2 => by cases e; rw [tyN_lst h2] at ht; exact absurd ht (by decide))] at q2
    simp only [RDa, RDb, RDv, RDk, RDx, RDe, RDd, RDp, RDq, List.getElem?_cons_zero, List.getElem?_cons_succ, List.set_cons_zero, List.set_cons_succ, List.cons.injEq, List.cons_ne_nil, reduceCtorEq, exists_eq_left', exists_eq_left, exists_and_left, and_assoc, exists_const, true_and, and_true, if_true, if_false, false_and, and_false, exists_false, false_or, or_false, true_implies, false_implies, implies_true, forall_eq, forall_eq', Bool.false_eq_true, if_neg, decide_eq_true_eq, Bool.not_eq_true', decide_eq_false_iff_not, Bool.not_true, Bool.not_false, List.length_cons, List.length_nil, sizeLine_eq, Nat.reduceAdd, Nat.reduceLeDiff, Nat.reduceLT, Int.reduceLT, Int.reduceLE, Int.emod_nonneg, ne_eq, Int.reduceEq, not_false_eq_true, not_true_eq_false, ht]
    exact q2 rfl
end RP

namespace RP
open PySem PySem.Spec PyProof.Rows L2
def cell (ns : List Int) (k : Int) : Int := ns.getD k.toNat 0
abbrev s__law_at : Stmt := top 24
abbrev N__law_at : List Str := ["_law_script", "_law_k"]
theorem sc__law_at : FnScope N__law_at ["_law_script", "_law_k"] (defScope s__law_at) := ⟨rfl, rfl, rfl, by decide +kernel, rfl, by decide +kernel, by decide +kernel⟩
def sp__law_at (K : PySem.W.Frag) (a : Addr) (ns : List Int) : Sp := fun vs H Q _ => ∃ k, vs = [.ref a, .int k] ∧ SqL K H a (ns.map V.int) ∧ 0 ≤ k ∧ Q (.int (cell ns k)) H
theorem ok__law_at {P : Program} {w : World} {K : PySem.W.Frag} {mg : Str → Option Value} {base : Heap} (F : FnP K ("_law_at", none) "_law_at" "_law_at" s__law_at) (hm : mg "_law_at" = some (.ref (He.ga K "_law_at"))) (bl : Blt mg) (a : Addr) (ns : List Int) : Cal P w K mg base 1 "_law_at" (sp__law_at K a ns) := by
  refine fn_cal F hm sc__law_at (fun vs H Q E => by walk_at "len") (fun _ _ _ _ _ _ us hl => match us, hl with | [_, _], _ => rfl) (fun f cdv A outer s H vs Q E hr h => ?_)
  have hu := hu_of hr
  obtain ⟨k, rfl, hS, hk, q⟩ := h
  refine ⟨_, (pss_cons (ps_if (pt_cmpR op_lt (pv 1) (pe_callB call_len_seq (by rfl) (bl.len) (by decide +kernel) (pa_cons (pv 0) pa_nil)) (nomark _))
  (pss_one (ps_ret (pe_ix ix_list (pv 0) (pv 1) (fun _ _ => rfl))))
  pss_nil)
  (pss_one (ps_ret pe_int))), ?_⟩
  walk_at "st0"
  simp only [RDa, RDb, RDv, RDk, RDx, RDe, RDd, RDp, RDq, List.getElem?_cons_zero, List.getElem?_cons_succ, List.set_cons_zero, List.set_cons_succ, List.cons.injEq, List.cons_ne_nil, reduceCtorEq, exists_eq_left', exists_eq_left, exists_and_left, and_assoc, exists_const, true_and, and_true, if_true, if_false, false_and, and_false, exists_false, false_or, or_false, true_implies, false_implies, implies_true, forall_eq, forall_eq', Bool.false_eq_true, if_neg, decide_eq_true_eq, Bool.not_eq_true', decide_eq_false_iff_not, Bool.not_true, Bool.not_false, List.length_cons, List.length_nil, sizeLine_eq, Nat.reduceAdd, Nat.reduceLeDiff, Nat.reduceLT, Int.reduceLT, Int.reduceLE, Int.emod_nonneg, ne_eq, Int.reduceEq, not_false_eq_true, not_true_eq_false, hS]
  refine ⟨_, .inl hS, ?_⟩
  rw [List.length_map]
  by_cases e : k < (ns.length : Int)
  · rw [if_pos e]
    refine ⟨_, _, k, V.int (cell ns k), rfl, rfl, hS, ?_, q⟩
    have e2 : k = ((k.toNat : Nat) : Int) := by omega
    have e3 : k.toNat < ns.length := by omega
    rw [e2]
    refine atI_nat ?_
    unfold cell
    rw [List.getElem?_map, List.getElem?_eq_getElem e3, List.getD_eq_getElem?_getD, Int.toNat_natCast, List.getElem?_eq_getElem e3]
    rfl
  · rw [if_neg e]
    have e3 : ns.length ≤ k.toNat := by omega
    have e4 : cell ns k = 0 := by
      unfold cell
      rw [List.getD_eq_getElem?_getD, List.getElem?_eq_none e3]
      rfl
    rw [e4] at q
    exact q
def mixed (c k : Int) : Int := (c * 48271 + 7919 * (k + 1) * (k + 3)) % 2147483647
abbrev s__law_mixed : Stmt := top 25
abbrev N__law_mixed : List Str := ["_law_cell", "_law_k"]
theorem sc__law_mixed : FnScope N__law_mixed ["_law_cell", "_law_k"] (defScope s__law_mixed) := ⟨rfl, rfl, rfl, by decide +kernel, rfl, by decide +kernel, by decide +kernel⟩
def sp__law_mixed (K : PySem.W.Frag) : Sp := fun vs H Q _ => ∃ c k : Int, vs = [.int c, .int k] ∧ 0 ≤ k ∧ k < 100 ∧ Q (.int (mixed c k)) H
theorem ok__law_mixed {P : Program} {w : World} {K : PySem.W.Frag} {mg : Str → Option Value} {base : Heap} (F : FnP K ("_law_mixed", none) "_law_mixed" "_law_mixed" s__law_mixed) (hm : mg "_law_mixed" = some (.ref (He.ga K "_law_mixed"))) (bl : Blt mg) : Cal P w K mg base 1 "_law_mixed" (sp__law_mixed K) := by
  refine fn_cal F hm sc__law_mixed (fun vs H Q E => by walk_at "len") (fun _ _ _ _ _ _ us hl => match us, hl with | [_, _], _ => rfl) (fun f cdv A outer s H vs Q E hr h => ?_)
  have hu := hu_of hr
  obtain ⟨c, k, rfl, h0, h1, q⟩ := h
  refine ⟨_, (pss_one (ps_ret (pe_op op_mod (pe_op op_add (pe_op op_mul (pv 0) pe_int) (pe_op op_mul (pe_op op_mul pe_int (pe_op op_add (pv 1) pe_int)) (pe_op op_add (pv 1) pe_int))) pe_int))), ?_⟩
  walk_at "st0"
  simp only [RDa, RDb, RDv, RDk, RDx, RDe, RDd, RDp, RDq, List.getElem?_cons_zero, List.getElem?_cons_succ, List.set_cons_zero, List.set_cons_succ, List.cons.injEq, List.cons_ne_nil, reduceCtorEq, exists_eq_left', exists_eq_left, exists_and_left, and_assoc, exists_const, true_and, and_true, if_true, if_false, false_and, and_false, exists_false, false_or, or_false, true_implies, false_implies, implies_true, forall_eq, forall_eq', Bool.false_eq_true, if_neg, decide_eq_true_eq, Bool.not_eq_true', decide_eq_false_iff_not, Bool.not_true, Bool.not_false, List.length_cons, List.length_nil, sizeLine_eq, Nat.reduceAdd, Nat.reduceLeDiff, Nat.reduceLT, Int.reduceLT, Int.reduceLE, Int.emod_nonneg, ne_eq, Int.reduceEq, not_false_eq_true, not_true_eq_false]
  refine ⟨.inr ⟨by decide, by decide⟩, .inl ⟨by decide, by decide⟩, .inr ⟨by omega, by omega⟩, q⟩
theorem mixed_pos (c k : Int) : 0 ≤ mixed c k := Int.emod_nonneg _ (by decide)
abbrev s__law_whole : Stmt := top 26
abbrev N__law_whole : List Str := ["_law_thing"]
theorem sc__law_whole : FnScope N__law_whole ["_law_thing"] (defScope s__law_whole) := ⟨rfl, rfl, rfl, by decide +kernel, rfl, by decide +kernel, by decide +kernel⟩
def wholeV (x : V) : Bool := match x with
  | .int _ => true
  | _ => false
def sp__law_whole (K : PySem.W.Frag) : Sp := fun vs H Q _ => ∃ x, vs = [x] ∧ Kn H x ∧ Q (.bl (wholeV x)) H
theorem ok__law_whole {P : Program} {w : World} {K : PySem.W.Frag} {mg : Str → Option Value} {base : Heap} (F : FnP K ("_law_whole", none) "_law_whole" "_law_whole" s__law_whole) (hm : mg "_law_whole" = some (.ref (He.ga K "_law_whole"))) (bl : Blt mg) : Cal P w K mg base 1 "_law_whole" (sp__law_whole K) := by
  refine fn_cal F hm sc__law_whole (fun vs H Q E => by walk_at "len") (fun _ _ _ _ _ _ us hl => match us, hl with | [_], _ => rfl) (fun f cdv A outer s H vs Q E hr h => ?_)
  have hu := hu_of hr
  obtain ⟨x, rfl, hk, q⟩ := h
  refine ⟨_, (pss_one (ps_ret (pe_and (pe_callB call_isC (by rfl) (bl.isi) (by decide +kernel) (pa_cons (pv 0) (pa_cons (pe_bltn (v := .ty "int") (u := .type "int") rfl (bl.int) (by decide +kernel) rfl) pa_nil))) (pe_one (pe_not (pe_callB call_isC (by rfl) (bl.isi) (by decide +kernel) (pa_cons (pv 0) (pa_cons (pe_bltn (v := .ty "bool") (u := .type "bool") rfl (bl.bool) (by decide +kernel) rfl) pa_nil)))))))), ?_⟩
  walk_at "st0"
  simp only [RDa, RDb, RDv, RDk, RDx, RDe, RDd, RDp, RDq, List.getElem?_cons_zero, List.getElem?_cons_succ, List.set_cons_zero, List.set_cons_succ, List.cons.injEq, List.cons_ne_nil, reduceCtorEq, exists_eq_left', exists_eq_left, exists_and_left, and_assoc, exists_const, true_and, and_true, if_true, if_false, false_and, and_false, exists_false, false_or, or_false, true_implies, false_implies, implies_true, forall_eq, forall_eq', Bool.false_eq_true, if_neg, decide_eq_true_eq, Bool.not_eq_true', decide_eq_false_iff_not, Bool.not_true, Bool.not_false, List.length_cons, List.length_nil, sizeLine_eq, Nat.reduceAdd, Nat.reduceLeDiff, Nat.reduceLT, Int.reduceLT, Int.reduceLE, Int.emod_nonneg, ne_eq, Int.reduceEq, not_false_eq_true, not_true_eq_false]
  rcases hk.cases with rfl | ⟨b, rfl⟩ | ⟨n, rfl⟩ | ⟨z, rfl⟩ | ⟨a, t, rfl, ht, rfl | rfl | rfl⟩
  · simp only [RDv, RDk, exists_eq_left', if_true, Bool.false_eq_true, if_false]; exact q
  · simp only [RDv, RDk, exists_eq_left', if_true, Bool.false_eq_true, if_false, Bool.not_true]; exact q
  · simp only [RDv, RDk, exists_eq_left', if_true, Bool.false_eq_true, if_false, Bool.not_false]; exact q
  · simp only [RDv, RDk, exists_eq_left', if_true, Bool.false_eq_true, if_false]; exact q
  · simp only [ht, RDv, RDk, exists_eq_left', if_true, Bool.false_eq_true, if_false]; exact q
  · simp only [ht, RDv, RDk, exists_eq_left', if_true, Bool.false_eq_true, if_false]; exact q
  · simp only [ht, RDv, RDk, exists_eq_left', if_true, Bool.false_eq_true, if_false]; exact q
end RP

namespace RP
open PySem PySem.Spec PyProof.Rows L2
theorem toList_ofString (s : String) : (Str.ofString s).cps.toList = s.toList.map Char.toNat := by
  unfold Str.ofString
  rw [← cpsOfBytes_string]
theorem strOk_lit (s : String) : PyData.strOk (Str.ofString s) = true := by
  refine strOk_iff.mpr fun c hc => ?_
  rw [toList_ofString] at hc
  obtain ⟨ch, _, rfl⟩ := List.mem_map.mp hc
  have v := ch.valid
  rcases v with v | ⟨_, v⟩
  · show ch.val.toNat < _
    have : ch.val.toNat < 55296 := v
    omega
  · exact v
theorem length_lit (s : String) : (Str.ofString s).length = s.toList.length := by
  show (Str.ofString s).cps.size = _
  rw [← Array.length_toList, toList_ofString, List.length_map]
theorem int_txt {i : Int} (h0 : 0 ≤ i) (h1 : i < 1000000) : TxtOk 6 (Str.ofString (toString i)) := by
  obtain ⟨n, rfl⟩ := Int.eq_ofNat_of_zero_le h0
  refine ⟨strOk_lit _, ?_⟩
  rw [length_lit]
  have e : (toString (n : Int)).toList = Nat.toDigits 10 n := by
    show (toString n).toList = _
    simp [Nat.repr, toString]
  rw [e]
  exact PyProof.Rows.digits10_le (by decide) (by omega)
theorem log_small {i : Int} (h0 : 0 ≤ i) (h1 : i < 1000000) : i.natAbs.log2 < 1920 := by
  by_cases e : i.natAbs = 0
  · rw [e]; decide
  · exact (Nat.log2_lt e).mpr (Nat.lt_of_lt_of_le (show i.natAbs < 2 ^ 20 by omega) (Nat.pow_le_pow_right (by decide) (by decide)))
theorem join_ok {n : Nat} (sep : Str) (hs : sep.length = 0) : ∀ (ys : List Str), (∀ y ∈ ys, TxtOk n y) → TxtOk (ys.length * n) (PySem.Str.join sep ys)
  | [], _ => by
    exact ⟨strOk_iff.mpr fun c hc => (by cases hc), Nat.zero_le _⟩
  | [x], h => by
    rw [List.length_singleton, Nat.one_mul]
    exact h x List.mem_cons_self
  | x :: y :: r, h => by
    have ih := join_ok sep hs (y :: r) fun z hz => h z (List.mem_cons_of_mem _ hz)
    have e : PySem.Str.join sep (x :: y :: r) = x ++ sep ++ PySem.Str.join sep (y :: r) := rfl
    have hsep : TxtOk 0 sep := ⟨strOk_iff.mpr fun c hc => by
      have : sep.cps.toList.length = 0 := by rw [Array.length_toList]; exact hs
      rw [List.length_eq_zero_iff.mp this] at hc
      exact absurd hc (by simp), by omega⟩
    rw [e]
    refine ((h x List.mem_cons_self).app hsep |>.app ih).mono ?_
    simp only [List.length_cons, Nat.succ_mul]
    omega
theorem cutS_ok {n : Nat} {z : Str} (h : TxtOk n z) (lo hi : Option Int) : TxtOk n (cutS z lo hi) := by
  refine ⟨strOk_iff.mpr fun c hc => ?_, ?_⟩
  · unfold cutS at hc
    exact strOk_iff.mp h.1 c (List.mem_of_mem_drop (List.mem_of_mem_take (by simpa using hc)))
  · refine Nat.le_trans ?_ h.2
    show (cutS z lo hi).cps.size ≤ z.cps.size
    unfold cutS
    rw [List.size_toArray, List.length_take, List.length_drop, Array.length_toList]
    omega
abbrev s__law_texts : Stmt := top 28
abbrev N__law_texts : List Str := ["_law_cell", "_law_many", "_law_sorts", "_law_some", "_law_number", "_law_tail", "_law_at_here", "_law_found", "_law_j", "_law_k", "_law_one"]
theorem sc__law_texts : FnScope N__law_texts ["_law_cell", "_law_many", "_law_sorts"] (defScope s__law_texts) := ⟨rfl, rfl, rfl, by decide +kernel, rfl, by decide +kernel, by decide +kernel⟩
abbrev someS : Str := " !\"#$&'()*+,-./:;<=>?@ABCDEFGHIJKLMNOPQRSTUVWXYZ[\\]^_abcdefghijklmnopqrstuvwxyz{|}~"
theorem someS_len : someS.length = 83 := by decide +kernel
/-- the text k, of n: the mixed cell -/
def lawTail (n : Int) : Str := Txt.join "" ((List.range (n / 77 % 39).toNat).map fun j : Nat => (⟨#[someS.cps.toList.getD ((n / 7 + (j : Int) * (1 + n % 11)) % 83).toNat 0]⟩ : Str))
def lawTxt0 (n sorts : Int) (k : Nat) : Str := cutS (lawTail n) none (some (n / 5000 % ((lawTail n).length + 1))) ++ Str.ofString (toString ((k : Int) % sorts)) ++ cutS (lawTail n) (some (n / 5000 % ((lawTail n).length + 1))) none
def lawTxt (n sorts : Int) (k : Nat) : Str := if n / 200 % 4 = 1 ∧ (k : Int) % sorts = n / 800 % sorts then "" else lawTxt0 n sorts k
theorem lawTail_ok (n : Int) : TxtOk 38 (lawTail n) := by
  unfold lawTail Txt.join
  rw [StrLaws.glued_eq_join]
  refine (join_ok (n := 1) "" (by decide +kernel) _ fun y hy => ?_).mono ?_
  · obtain ⟨j, _, rfl⟩ := List.mem_map.mp hy
    refine ⟨strOk_iff.mpr fun c hc => ?_, Nat.le_refl _⟩
    have e : c = someS.cps.toList.getD ((n / 7 + (j : Int) * (1 + n % 11)) % 83).toNat 0 := by simpa using hc
    rw [e]
    exact getD_all (p := fun x => x < 1114112) (by decide +kernel) (by decide) _
  · rw [List.length_map, List.length_range]
    have := md_rng (n / 77) (show (0 : Int) < 39 by decide)
    omega
theorem lawTxt0_ok {n sorts : Int} (h : 0 < sorts) (hs : sorts < 1000000) (k : Nat) : TxtOk 82 (lawTxt0 n sorts k) := by
  have m := md_rng (k : Int) h
  exact ((cutS_ok (lawTail_ok n) _ _).app (int_txt m.1 (by omega))).app (cutS_ok (lawTail_ok n) _ _)
theorem lawTxt_ok {n sorts : Int} (h : 0 < sorts) (hs : sorts < 1000000) (k : Nat) : TxtOk 82 (lawTxt n sorts k) := by
  unfold lawTxt
  split
  · exact ⟨by decide +kernel, by decide +kernel⟩
  · exact lawTxt0_ok h hs k
theorem cut2_len {z : Str} {m : Int} (h0 : 0 ≤ m) (h1 : m ≤ z.length) : (cutS z none (some m)).length + (cutS z (some m) none).length = z.length := by
  obtain ⟨k, rfl⟩ := Int.eq_ofNat_of_zero_le h0
  have hz : z.cps.toList.length = z.length := Array.length_toList
  have l1 : ∀ l : List Nat, (⟨l.toArray⟩ : Str).length = l.length := fun l => by show l.toArray.size = _; simp
  have a1 : (cutS z none (some (k : Int))).length = ((z.cps.toList.drop (HT.sIx z.length 0 none)).take (HT.sIx z.length z.length (some (k : Int)) - HT.sIx z.length 0 none)).length := l1 _
  have a2 : (cutS z (some (k : Int)) none).length = ((z.cps.toList.drop (HT.sIx z.length 0 (some (k : Int)))).take (HT.sIx z.length z.length none - HT.sIx z.length 0 (some (k : Int)))).length := l1 _
  rw [List.length_take, List.length_drop, hz] at a1 a2
  have e1 : HT.sIx z.length 0 none = 0 := rfl
  have e2 : HT.sIx z.length z.length none = z.length := rfl
  have e3 : ∀ d, HT.sIx z.length d (some (k : Int)) = min k z.length := fun d => HT.sIx_nat _ _ _
  rw [e1, e3] at a1
  rw [e2, e3] at a2
  show (cutS z none (some (k : Int))).length + (cutS z (some (k : Int)) none).length = z.length
  have h2 : k ≤ z.length := by omega
  omega
theorem int_txt2 {i : Int} (h0 : 0 ≤ i) (h1 : i < 100) : TxtOk 2 (Str.ofString (toString i)) := by
  obtain ⟨n, rfl⟩ := Int.eq_ofNat_of_zero_le h0
  refine ⟨strOk_lit _, ?_⟩
  rw [length_lit]
  have e : (toString (n : Int)).toList = Nat.toDigits 10 n := by
    show (toString n).toList = _
    simp [Nat.repr, toString]
  rw [e]
  exact PyProof.Rows.digits10_le (by decide) (by omega)
/-- no more than forty signs -/
theorem lawTxt_40 {n sorts : Int} (h : 0 < sorts) (hs : sorts ≤ 100) (k : Nat) : TxtOk 40 (lawTxt n sorts k) := by
  unfold lawTxt
  split
  · exact ⟨by decide +kernel, by decide +kernel⟩
  · have m := md_rng (k : Int) h
    have o := lawTxt0_ok (n := n) h (by omega) k
    refine ⟨o.1, ?_⟩
    unfold lawTxt0
    have m2 := md_rng (n / 5000) (show (0 : Int) < ((lawTail n).length : Int) + 1 by omega)
    have c := cut2_len (z := lawTail n) m2.1 (by omega)
    have t := (lawTail_ok n).2
    have d := (int_txt2 m.1 (by omega)).2
    rw [length_append, length_append]
    omega
def lawTexts (n sorts : Int) (many : Nat) : List Str := (List.range many).map (lawTxt n sorts)
def sp__law_texts (K : PySem.W.Frag) : Sp := fun vs H Q _ => ∃ c many sorts : Int, vs = [.int c, .int many, .int sorts] ∧ 0 ≤ many ∧ many < 1000 ∧ 0 < sorts ∧ sorts < 1000000 ∧
  ∀ l H', H l = none → Same H H' → H' l = some (.lst ((lawTexts (mixed c 5) sorts many.toNat).map V.str)) → Q (.ref l) H'
theorem ok__law_texts {P : Program} {w : World} {K : PySem.W.Frag} {mg : Str → Option Value} {base : Heap} (F : FnP K ("_law_texts", none) "_law_texts" "_law_texts" s__law_texts) (hm : mg "_law_texts" = some (.ref (He.ga K "_law_texts"))) (bl : Blt mg) (c__law_mixed : Cal P w K mg base 1 "_law_mixed" (sp__law_mixed K)) : Cal P w K mg base 2 "_law_texts" (sp__law_texts K) := by
  refine fn_cal F hm sc__law_texts (fun vs H Q E => by walk_at "len") (fun _ _ _ _ _ _ us hl => match us, hl with | [_, _, _], _ => rfl) (fun f cdv A outer s H vs Q E hr h => ?_)
  have hu := hu_of hr
  obtain ⟨c, many, sorts, rfl, hm0, hm1, hs0, hs1, q⟩ := h
  have hn := mixed_pos c 5
  generalize en : mixed c 5 = n at hn q
  refine ⟨_, (pss_cons (ps_set (i := 3) sc__law_texts.nd rfl (Or.inr rfl) pe_str)
  (pss_cons (ps_set (i := 4) sc__law_texts.nd rfl (Or.inr rfl) (pe_fn c__law_mixed (hr.mono (by decide)) (L2N.takes_of rfl rfl rfl rfl) (pa_cons (pv 0) (pa_cons pe_int pa_nil))))
  (pss_cons (ps_set (i := 5) sc__law_texts.nd rfl (Or.inr rfl) (pe_join pe_str (pe_lc (own := [("_law_j", 8)]) rfl sc__law_texts.nd (pi_range1 rfl (bl.range) (pa_cons (pe_op op_mod (pe_op op_fdiv (pv 4) pe_int) pe_int) pa_nil)) (blkOk_by (own := [("_law_j", 8)]) (N := N__law_texts) (sc := defScope s__law_texts) (by decide +kernel)) (fun _ _ _ _ _ =>  by exact (pg_name (i := 8) sc__law_texts.nd rfl (Or.inl rfl))) (fun _ _ _ _ _ =>  by exact pts_nil) (fun _ _ _ _ _ =>  by exact (pe_ix ix_strC (pv 3) (pe_op op_mod (pe_op op_add (pe_op op_fdiv (pv 4) pe_int) (pe_op op_mul (pv 8) (pe_op op_add pe_int (pe_op op_mod (pv 4) pe_int)))) (pe_callB call_len_str (by rfl) (bl.len) (by decide +kernel) (pa_cons (pv 3) pa_nil))) (fun _ _ => rfl))))))
  (pss_cons (ps_set (i := 6) sc__law_texts.nd rfl (Or.inr rfl) (pe_op op_mod (pe_op op_fdiv (pv 4) pe_int) (pe_op op_add (pe_callB call_len_str (by rfl) (bl.len) (by decide +kernel) (pa_cons (pv 5) pa_nil)) pe_int)))
  (pss_cons (ps_setLc (i := 7) (own := [("_law_k", 9)]) rfl sc__law_texts.nd rfl rfl (sw_true rfl rfl rfl (by decide +kernel)) (pi_range1 rfl (bl.range) (pa_cons (pv 1) pa_nil)) (blkOk_by (own := [("_law_k", 9)]) (N := N__law_texts) (sc := defScope s__law_texts) (by decide +kernel)) (fun _ _ _ _ _ =>  by exact (pg_name (i := 9) sc__law_texts.nd rfl (Or.inl rfl))) (fun _ _ _ _ _ =>  by exact pts_nil) (fun _ _ _ _ _ =>  by exact (pe_op op_add_str (pe_op op_add_str (pe_slice sl_str (pv 5) po_none (po_some (pv 6))) (pe_callTy call_str_int (by rfl) (bl.str) (by decide +kernel) (pa_cons (pe_op op_mod (pv 9) (pv 2)) pa_nil))) (pe_slice sl_str (pv 5) (po_some (pv 6)) po_none))))
  (pss_cons (ps_if (pt_cmpR op_eq (pe_op op_mod (pe_op op_fdiv (pv 4) pe_int) pe_int) pe_int (nomark _))
  (pss_one (ps_setLc (i := 7) (own := [("_law_k", 9), ("_law_one", 10)]) rfl sc__law_texts.nd rfl rfl (sw_true rfl rfl rfl (by decide +kernel)) (pi_enum (by rfl) (bl.enumerate) (pa_cons (pv 7) pa_nil)) (blkOk_by (own := [("_law_k", 9), ("_law_one", 10)]) (N := N__law_texts) (sc := defScope s__law_texts) (by decide +kernel)) (fun _ _ _ _ _ =>  by exact (pg_tupC (n := 2) rfl (pgs_cons (pg_name (i := 9) sc__law_texts.nd rfl (Or.inl rfl)) (pgs_cons (pg_name (i := 10) sc__law_texts.nd rfl (Or.inl rfl)) pgs_nil)))) (fun _ _ _ _ _ =>  by exact pts_nil) (fun _ _ _ _ _ =>  by exact (pe_pick (pa_cons (pv 10) (pa_cons pe_str pa_nil)) (pe_callTy call_int1 (by rfl) (bl.int) (by decide +kernel) (pa_cons (pe_cmpR op_eq (pe_op op_mod (pv 9) (pv 2)) (pe_op op_mod (pe_op op_fdiv (pv 4) pe_int) (pv 2)) (nomark _)) pa_nil)) (fun _ _ => rfl)))))
  pss_nil)
  (pss_one (ps_ret (pv 7))))))))), ?_⟩
  walk_at "st0"
  refine seq_gen fun N_a h_a => ?_
  simp only [RDa, RDb, RDv, RDk, RDx, RDe, RDd, RDp, RDq, List.getElem?_cons_zero, List.getElem?_cons_succ, List.set_cons_zero, List.set_cons_succ, List.cons.injEq, List.cons_ne_nil, reduceCtorEq, exists_eq_left', exists_eq_left, exists_and_left, and_assoc, exists_const, true_and, and_true, if_true, if_false, false_and, and_false, exists_false, false_or, or_false, true_implies, false_implies, implies_true, forall_eq, forall_eq', Bool.false_eq_true, if_neg, decide_eq_true_eq, Bool.not_eq_true', decide_eq_false_iff_not, Bool.not_true, Bool.not_false, List.length_cons, List.length_nil, sizeLine_eq, Nat.reduceAdd, Nat.reduceLeDiff, Nat.reduceLT, Int.reduceLT, Int.reduceLE, Int.emod_nonneg, ne_eq, Int.reduceEq, not_false_eq_true, not_true_eq_false]
  refine h_a _ _ ?_
  refine seq_gen fun N_b h_b => ?_
  simp only [RDa, RDb, RDv, RDk, RDx, RDe, RDd, RDp, RDq, List.getElem?_cons_zero, List.getElem?_cons_succ, List.set_cons_zero, List.set_cons_succ, List.cons.injEq, List.cons_ne_nil, reduceCtorEq, exists_eq_left', exists_eq_left, exists_and_left, and_assoc, exists_const, true_and, and_true, if_true, if_false, false_and, and_false, exists_false, false_or, or_false, true_implies, false_implies, implies_true, forall_eq, forall_eq', Bool.false_eq_true, if_neg, decide_eq_true_eq, Bool.not_eq_true', decide_eq_false_iff_not, Bool.not_true, Bool.not_false, List.length_cons, List.length_nil, sizeLine_eq, Nat.reduceAdd, Nat.reduceLeDiff, Nat.reduceLT, Int.reduceLT, Int.reduceLE, Int.emod_nonneg, ne_eq, Int.reduceEq, not_false_eq_true, not_true_eq_false, sp__law_mixed, en]
  refine h_b _ _ ?_
  clear h_a h_b
  refine seq_gen fun N_c h_c => ?_
  simp only [RDa, RDx, RDq]
  have h39 := md_rng (n / 77) (show (0 : Int) < 39 by decide)
  have h11 := md_rng n (show (0 : Int) < 11 by decide)
  have sl := someS_len
  have c83 : ((83 : Nat) : Int) = 83 := rfl
  refine ⟨⟨_, rfl⟩, ?_⟩
  refine rcut 0 (n / 77 % 39).toNat (fun H1 => H = H1) (fun _ j y => y = .str ⟨#[someS.cps.toList.getD ((n / 7 + (j : Int) * (1 + n % 11)) % 83).toNat 0]⟩) keeps_pure ?_ ?_ ?_ ?_
  · intro Z hZ
    simp only [RDa, RDb, RDv, RDk, RDx, RDe, RDd, RDp, RDq, List.getElem?_cons_zero, List.getElem?_cons_succ, List.set_cons_zero, List.set_cons_succ, List.cons.injEq, List.cons_ne_nil, reduceCtorEq, exists_eq_left', exists_eq_left, exists_and_left, and_assoc, exists_const, true_and, and_true, if_true, if_false, false_and, and_false, exists_false, false_or, or_false, true_implies, false_implies, implies_true, forall_eq, forall_eq', Bool.false_eq_true, if_neg, decide_eq_true_eq, Bool.not_eq_true', decide_eq_false_iff_not, Bool.not_true, Bool.not_false, List.length_cons, List.length_nil, sizeLine_eq, Nat.reduceAdd, Nat.reduceLeDiff, Nat.reduceLT, Int.reduceLT, Int.reduceLE, Int.emod_nonneg, ne_eq, Int.reduceEq, not_false_eq_true, not_true_eq_false]
    exact ⟨by omega, by omega, hZ H rfl⟩
  · rw [sizeLine_eq]
    omega
  · rintro H1 H2 j Z rfl hj s2 hZ
    simp only [RDa, RDb, RDv, RDk, RDx, RDe, RDd, RDp, RDq, List.getElem?_cons_zero, List.getElem?_cons_succ, List.set_cons_zero, List.set_cons_succ, List.cons.injEq, List.cons_ne_nil, reduceCtorEq, exists_eq_left', exists_eq_left, exists_and_left, and_assoc, exists_const, true_and, and_true, if_true, if_false, false_and, and_false, exists_false, false_or, or_false, true_implies, false_implies, implies_true, forall_eq, forall_eq', Bool.false_eq_true, if_neg, decide_eq_true_eq, Bool.not_eq_true', decide_eq_false_iff_not, Bool.not_true, Bool.not_false, List.length_cons, List.length_nil, sizeLine_eq, Nat.reduceAdd, Nat.reduceLeDiff, Nat.reduceLT, Int.reduceLT, Int.reduceLE, Int.emod_nonneg, ne_eq, Int.reduceEq, not_false_eq_true, not_true_eq_false, sl, c83, Int.zero_add]
    have hm := md_rng (n / 7 + (j : Int) * (1 + n % 11)) (show (0 : Int) < 83 by decide)
    refine ⟨.inr ⟨by omega, by omega⟩, _, ?_, hZ _ _ (Same.refl _) rfl⟩
    have hlen : someS.cps.toList.length = 83 := by rw [Array.length_toList]; exact someS_len
    generalize (n / 7 + (j : Int) * (1 + n % 11)) % 83 = k at hm
    rw [show k = ((k.toNat : Nat) : Int) by omega]
    refine atI_nat ?_
    have hk : k.toNat < someS.cps.toList.length := by omega
    rw [Int.toNat_natCast, List.getElem?_eq_getElem hk, List.getD_eq_getElem?_getD, List.getElem?_eq_getElem hk]
    rfl
  · rintro H1 H3 D rs rfl nD s3 hD ar
    have er := ar.map_eq
    refine ⟨_, D, (List.range (n / 77 % 39).toNat).map fun j : Nat => (⟨#[someS.cps.toList.getD ((n / 7 + (j : Int) * (1 + n % 11)) % 83).toNat 0]⟩ : Str), rfl, rfl, .inl (SqL.of (by rw [hD, er, List.map_map]; rfl)), ?_, ?_⟩
    · have hsum : ∀ (g : Nat → Nat) (m : Nat), (List.map (fun x : Str => x.length) (List.map (fun j => (⟨#[g j]⟩ : Str)) (List.range m))).sum = m := by
        intro g m
        rw [List.map_map]
        have e1 : ((fun x : Str => x.length) ∘ fun j => (⟨#[g j]⟩ : Str)) = fun _ => 1 := rfl
        rw [e1, List.map_const', List.sum_replicate_nat, List.length_range, Nat.mul_one]
      have e0 : (Str.ofString "").length = 0 := by decide +kernel
      rw [hsum fun j : Nat => someS.cps.toList.getD ((n / 7 + (j : Int) * (1 + n % 11)) % 83).toNat 0, e0, Nat.mul_zero]
      omega
    show N_c (List.set _ 5 (some (.str (lawTail n)))) H3
    refine h_c _ _ ?_
    clear h_c
    have ht := lawTail_ok n
    generalize et : lawTail n = tl at ht
    refine seq_gen fun N_d h_d => ?_
    simp only [RDa, RDb, RDv, RDk, RDx, RDe, RDd, RDp, RDq, List.getElem?_cons_zero, List.getElem?_cons_succ, List.set_cons_zero, List.set_cons_succ, List.cons.injEq, List.cons_ne_nil, reduceCtorEq, exists_eq_left', exists_eq_left, exists_and_left, and_assoc, exists_const, true_and, and_true, if_true, if_false, false_and, and_false, exists_false, false_or, or_false, true_implies, false_implies, implies_true, forall_eq, forall_eq', Bool.false_eq_true, if_neg, decide_eq_true_eq, Bool.not_eq_true', decide_eq_false_iff_not, Bool.not_true, Bool.not_false, List.length_cons, List.length_nil, sizeLine_eq, Nat.reduceAdd, Nat.reduceLeDiff, Nat.reduceLT, Int.reduceLT, Int.reduceLE, Int.emod_nonneg, ne_eq, Int.reduceEq, not_false_eq_true, not_true_eq_false]
    refine ⟨Nat.le_trans ht.2 (by decide), by omega, h_d _ _ ?_⟩
    clear h_d
    have hat := md_rng (n / 5000) (show (0 : Int) < (tl.length : Int) + 1 by omega)
    have elt : ∀ k : Nat, lawTxt0 n sorts k = cutS tl none (some (n / 5000 % ((tl.length : Int) + 1))) ++ Str.ofString (toString ((k : Int) % sorts)) ++ cutS tl (some (n / 5000 % ((tl.length : Int) + 1))) none := fun k => by
      unfold lawTxt0
      rw [et]
    have s1 : Same H H3 := s3
    refine seq_gen fun N_e h_e => ?_
    simp only [RDa, RDx, RDq]
    refine rcut 0 many.toNat (fun H1 => H3 = H1) (fun _ k y => y = .str (lawTxt0 n sorts k)) keeps_pure ?_ ?_ ?_ ?_
    · intro Z hZ
      simp only [RDa, RDb, RDv, RDk, RDx, RDe, RDd, RDp, RDq, List.getElem?_cons_zero, List.getElem?_cons_succ, List.set_cons_zero, List.set_cons_succ, List.cons.injEq, List.cons_ne_nil, reduceCtorEq, exists_eq_left', exists_eq_left, exists_and_left, and_assoc, exists_const, true_and, and_true, if_true, if_false, false_and, and_false, exists_false, false_or, or_false, true_implies, false_implies, implies_true, forall_eq, forall_eq', Bool.false_eq_true, if_neg, decide_eq_true_eq, Bool.not_eq_true', decide_eq_false_iff_not, Bool.not_true, Bool.not_false, List.length_cons, List.length_nil, sizeLine_eq, Nat.reduceAdd, Nat.reduceLeDiff, Nat.reduceLT, Int.reduceLT, Int.reduceLE, Int.emod_nonneg, ne_eq, Int.reduceEq, not_false_eq_true, not_true_eq_false]
      exact ⟨by omega, by omega, hZ H3 rfl⟩
    · rw [sizeLine_eq]
      omega
    · rintro H1 H2 k Z rfl hk s2 hZ
      simp only [RDa, RDb, RDv, RDk, RDx, RDe, RDd, RDp, RDq, List.getElem?_cons_zero, List.getElem?_cons_succ, List.set_cons_zero, List.set_cons_succ, List.cons.injEq, List.cons_ne_nil, reduceCtorEq, exists_eq_left', exists_eq_left, exists_and_left, and_assoc, exists_const, true_and, and_true, if_true, if_false, false_and, and_false, exists_false, false_or, or_false, true_implies, false_implies, implies_true, forall_eq, forall_eq', Bool.false_eq_true, if_neg, decide_eq_true_eq, Bool.not_eq_true', decide_eq_false_iff_not, Bool.not_true, Bool.not_false, List.length_cons, List.length_nil, sizeLine_eq, Nat.reduceAdd, Nat.reduceLeDiff, Nat.reduceLT, Int.reduceLT, Int.reduceLE, Int.emod_nonneg, ne_eq, Int.reduceEq, not_false_eq_true, not_true_eq_false, sl, c83, Int.zero_add]
      have hm := md_rng (k : Int) hs0
      have o1 := cutS_ok ht none (some (n / 5000 % ((tl.length : Int) + 1)))
      have o2 := cutS_ok ht (some (n / 5000 % ((tl.length : Int) + 1))) none
      have o3 := int_txt hm.1 (by omega)
      refine ⟨Nat.le_trans ht.2 (by decide), hs0, log_small hm.1 (by omega), ?_, Nat.le_trans ht.2 (by decide), ?_, hZ _ _ (Same.refl _) (by rw [elt])⟩
      · exact Nat.le_trans (Nat.add_le_add o1.2 o3.2) (by decide)
      · exact Nat.le_trans (Nat.add_le_add (o1.app o3).2 o2.2) (by decide)
    · rintro H1 H4 D2 rs2 rfl nD2 s4 hD2 ar2
      have er2 := ar2.map_eq
      show N_e (List.set _ 7 (some (.ref D2))) H4
      refine h_e _ _ ?_
      clear h_e
      refine seq_gen fun N_f h_f => ?_
      simp only [RDa, RDb, RDv, RDk, RDx, RDe, RDd, RDp, RDq, List.getElem?_cons_zero, List.getElem?_cons_succ, List.set_cons_zero, List.set_cons_succ, List.cons.injEq, List.cons_ne_nil, reduceCtorEq, exists_eq_left', exists_eq_left, exists_and_left, and_assoc, exists_const, true_and, and_true, if_true, if_false, false_and, and_false, exists_false, false_or, or_false, true_implies, false_implies, implies_true, forall_eq, forall_eq', Bool.false_eq_true, if_neg, decide_eq_true_eq, Bool.not_eq_true', decide_eq_false_iff_not, Bool.not_true, Bool.not_false, List.length_cons, List.length_nil, sizeLine_eq, Nat.reduceAdd, Nat.reduceLeDiff, Nat.reduceLT, Int.reduceLT, Int.reduceLE, Int.emod_nonneg, ne_eq, Int.reduceEq, not_false_eq_true, not_true_eq_false]
      have fin : ∀ (σ : L2.St) (D : Addr) (H5 : Hp), σ[7]? = some (some (.ref D)) → Same H H5 → H D = none → H5 D = some (.lst ((lawTexts n sorts many.toNat).map V.str)) → N_f σ H5 := by
        intro σ D H5 h7 s5 nD h5
        refine h_f _ _ ?_
        simp only [RDa, RDb, RDv, RDk, RDx, RDe, RDd, RDp, RDq, List.getElem?_cons_zero, List.getElem?_cons_succ, List.set_cons_zero, List.set_cons_succ, List.cons.injEq, List.cons_ne_nil, reduceCtorEq, exists_eq_left', exists_eq_left, exists_and_left, and_assoc, exists_const, true_and, and_true, if_true, if_false, false_and, and_false, exists_false, false_or, or_false, true_implies, false_implies, implies_true, forall_eq, forall_eq', Bool.false_eq_true, if_neg, decide_eq_true_eq, Bool.not_eq_true', decide_eq_false_iff_not, Bool.not_true, Bool.not_false, List.length_cons, List.length_nil, sizeLine_eq, Nat.reduceAdd, Nat.reduceLeDiff, Nat.reduceLT, Int.reduceLT, Int.reduceLE, Int.emod_nonneg, ne_eq, Int.reduceEq, not_false_eq_true, not_true_eq_false, h7]
        exact q D H5 nD s5 h5
      by_cases c1 : n / 200 % 4 = 1
      · rw [if_pos c1]
        refine ecut (fun a H1 => a = D2 ∧ H4 = H1) (fun _ x y => ∃ k : Nat, x.1 = k ∧ y = .str (lawTxt n sorts k)) ((List.range many.toNat).map fun k => V.str (lawTxt0 n sorts k)) ?_ ?_ ?_ ?_ ?_ ?_
        · exact keeps_pure
        · intro Z hZ
          simp only [RDa, RDb, RDv, RDk, RDx, RDe, RDd, RDp, RDq, List.getElem?_cons_zero, List.getElem?_cons_succ, List.set_cons_zero, List.set_cons_succ, List.cons.injEq, List.cons_ne_nil, reduceCtorEq, exists_eq_left', exists_eq_left, exists_and_left, and_assoc, exists_const, true_and, and_true, if_true, if_false, false_and, and_false, exists_false, false_or, or_false, true_implies, false_implies, implies_true, forall_eq, forall_eq', Bool.false_eq_true, if_neg, decide_eq_true_eq, Bool.not_eq_true', decide_eq_false_iff_not, Bool.not_true, Bool.not_false, List.length_cons, List.length_nil, sizeLine_eq, Nat.reduceAdd, Nat.reduceLeDiff, Nat.reduceLT, Int.reduceLT, Int.reduceLE, Int.emod_nonneg, ne_eq, Int.reduceEq, not_false_eq_true, not_true_eq_false]
          exact hZ _ _ ⟨rfl, rfl⟩
        · rintro a H1 ⟨rfl, rfl⟩
          rw [← er2]
          exact SqL.of hD2
        · rw [List.length_map, List.length_range, sizeLine_eq]
          omega
        · rintro a H1 H5 k x T Z ⟨rfl, rfl⟩ hx s5 hT hZ
          rw [List.getElem?_map] at hx
          obtain ⟨k', hk', rfl⟩ := Option.map_eq_some_iff.mp hx
          have ek : k' = k := by
            obtain ⟨hlt, e⟩ := List.getElem?_eq_some_iff.mp hk'
            rw [← e, List.getElem_range]
          subst ek
          simp only [RDa, RDb, RDv, RDk, RDx, RDe, RDd, RDp, RDq, List.getElem?_cons_zero, List.getElem?_cons_succ, List.set_cons_zero, List.set_cons_succ, List.cons.injEq, List.cons_ne_nil, reduceCtorEq, exists_eq_left', exists_eq_left, exists_and_left, and_assoc, exists_const, true_and, and_true, if_true, if_false, false_and, and_false, exists_false, false_or, or_false, true_implies, false_implies, implies_true, forall_eq, forall_eq', Bool.false_eq_true, if_neg, decide_eq_true_eq, Bool.not_eq_true', decide_eq_false_iff_not, Bool.not_true, Bool.not_false, List.length_cons, List.length_nil, sizeLine_eq, Nat.reduceAdd, Nat.reduceLeDiff, Nat.reduceLT, Int.reduceLT, Int.reduceLE, Int.emod_nonneg, ne_eq, Int.reduceEq, not_false_eq_true, not_true_eq_false, hT]
          have e01 : ∀ P : Prop, [Decidable P] → (0 : Int) ≤ if P then 1 else 0 := fun P _ => by split <;> decide
          refine ⟨hs0, hs0, e01 _, if (k' : Int) % sorts = n / 800 % sorts then .str "" else .str (lawTxt0 n sorts k'), by split <;> rfl, hZ _ _ (Same.refl _) ⟨k', rfl, ?_⟩⟩
          unfold lawTxt
          by_cases c2 : (k' : Int) % sorts = n / 800 % sorts
          · rw [if_pos c2, if_pos ⟨c1, c2⟩]
          · rw [if_neg c2, if_neg (fun h => c2 h.2)]
        · rintro a H1 H5 D3 rs3 ⟨rfl, rfl⟩ nD3 s5 hD3 ar3
          refine fin _ D3 H5 rfl (s1.trans (s4.trans s5)) (s1.free (s4.free nD3)) ?_
          have ez : rs3 = (lawTexts n sorts many.toNat).map V.str := by
            refine List.ext_getElem? fun i => ?_
            have hl := ar3.length
            rw [List.length_zip, List.length_range, List.length_map, List.length_range, Nat.min_self] at hl
            unfold lawTexts
            rw [List.getElem?_map, List.getElem?_map]
            by_cases hi : i < many.toNat
            · rw [List.getElem?_range hi]
              obtain ⟨y, hy⟩ : ∃ y, rs3[i]? = some y := ⟨_, List.getElem?_eq_getElem (by omega)⟩
              obtain ⟨x, hx, k, e1, e2⟩ := ar3.get hy
              obtain ⟨hz1, hz2⟩ := List.getElem?_zip_eq_some.mp hx
              have hlen : (List.map (fun k => V.str (lawTxt0 n sorts k)) (List.range many.toNat)).length = many.toNat := by rw [List.length_map, List.length_range]
              rw [hlen, List.getElem?_range hi] at hz1
              have e3 : i = x.1 := Option.some.inj hz1
              rw [hy, e2, ← e1, ← e3]
              rfl
            · rw [List.getElem?_eq_none (by omega), List.getElem?_eq_none (by rw [List.length_range]; omega)]
              rfl
          rw [hD3, ez]
      · rw [if_neg c1]
        refine fin _ D2 H4 rfl (s1.trans s4) (s1.free nD2) ?_
        rw [hD2, er2]
        unfold lawTexts
        rw [List.map_map]
        congr 3
        funext k
        show _ = V.str (lawTxt n sorts k)
        unfold lawTxt
        rw [if_neg (fun h => c1 h.1)]
end RP

namespace RP
open PySem PySem.Spec PyProof.Rows L2
abbrev s__law_bounds : Stmt := top 27
abbrev N__law_bounds : List Str := ["_law_script", "_law_one", "_law_two", "_law_window", "_law_delay", "_law_back"]
theorem sc__law_bounds : FnScope N__law_bounds ["_law_script"] (defScope s__law_bounds) := ⟨rfl, rfl, rfl, by decide +kernel, rfl, by decide +kernel, by decide +kernel⟩
/-- the law's bounds, by the two mixed cells -/
def lbW (one : Int) : Int := if one / 5 % 6 = 1 then 1 + one / 30 % 20 else 1 + one % 5
def lbD (two : Int) : Int := if two / 16 % 6 = 1 ∨ two / 16 % 6 = 2 then two / 96 % 21 else two % 4
def lbB (two : Int) : Int := if 3 < two / 16 % 6 then two / 96 % (if two / 16 % 2 = 0 then 21 else 9) else if two / 16 % 6 = 2 then two / 2016 % 21 else two / 4 % 4
def lbR (one : Int) : Int := 1 + one / 600 % lbW one
theorem lb_ok {one two : Int} : 1 ≤ lbW one ∧ lbW one ≤ 20 ∧ 1 ≤ lbR one ∧ lbR one ≤ lbW one ∧ 0 ≤ lbD two ∧ lbD two ≤ 20 ∧ 0 ≤ lbB two ∧ lbB two ≤ 20 := by
  have h1 : 1 ≤ lbW one ∧ lbW one ≤ 20 := by unfold lbW; split <;> omega
  have h2 := md_rng (one / 600) (show 0 < lbW one by omega)
  refine ⟨h1.1, h1.2, by unfold lbR; omega, by unfold lbR; omega, ?_, ?_, ?_, ?_⟩
  · unfold lbD; split <;> omega
  · unfold lbD; split <;> omega
  · unfold lbB; repeat' split
    all_goals omega
  · unfold lbB; repeat' split
    all_goals omega
def sp__law_bounds (K : PySem.W.Frag) (a : Addr) (ns : List Int) : Sp := fun vs H Q _ => vs = [.ref a] ∧ SqL K H a (ns.map V.int) ∧
  ∀ t H', H t = none → Same H H' → H' t = some (.tup [.int (lbW (mixed (cell ns 0) 0)), .int (lbR (mixed (cell ns 0) 0)), .int (lbD (mixed (cell ns 1) 1)), .int (lbB (mixed (cell ns 1) 1))]) → Q (.ref t) H'
theorem ok__law_bounds {P : Program} {w : World} {K : PySem.W.Frag} {mg : Str → Option Value} {base : Heap} (F : FnP K ("_law_bounds", none) "_law_bounds" "_law_bounds" s__law_bounds) (hm : mg "_law_bounds" = some (.ref (He.ga K "_law_bounds"))) (bl : Blt mg) (c__law_at : ∀ (a : Addr) (ns : List Int), Cal P w K mg base 1 "_law_at" (sp__law_at K a ns)) (c__law_mixed : Cal P w K mg base 1 "_law_mixed" (sp__law_mixed K)) (a : Addr) (ns : List Int) : Cal P w K mg base 2 "_law_bounds" (sp__law_bounds K a ns) := by
  refine fn_cal F hm sc__law_bounds (fun vs H Q E => by walk_at "len") (fun _ _ _ _ _ _ us hl => match us, hl with | [_], _ => rfl) (fun f cdv A outer s H vs Q E hr h => ?_)
  have hu := hu_of hr
  obtain ⟨rfl, hS, q⟩ := h
  refine ⟨_, (pss_cons (ps_set (i := 1) sc__law_bounds.nd rfl (Or.inl rfl) (pe_fn c__law_mixed (hr.mono (by decide)) (L2N.takes_of rfl rfl rfl rfl) (pa_cons (pe_fn (c__law_at a ns) (hr.mono (by decide)) (L2N.takes_of rfl rfl rfl rfl) (pa_cons (pv 0) (pa_cons pe_int pa_nil))) (pa_cons pe_int pa_nil))))
  (pss_cons (ps_set (i := 2) sc__law_bounds.nd rfl (Or.inl rfl) (pe_fn c__law_mixed (hr.mono (by decide)) (L2N.takes_of rfl rfl rfl rfl) (pa_cons (pe_fn (c__law_at a ns) (hr.mono (by decide)) (L2N.takes_of rfl rfl rfl rfl) (pa_cons (pv 0) (pa_cons pe_int pa_nil))) (pa_cons pe_int pa_nil))))
  (pss_cons (ps_set (i := 3) sc__law_bounds.nd rfl (Or.inl rfl) (pe_op op_add pe_int (pe_op op_mod (pv 1) pe_int)))
  (pss_cons (ps_set (i := 4) sc__law_bounds.nd rfl (Or.inl rfl) (pe_op op_mod (pv 2) pe_int))
  (pss_cons (ps_set (i := 5) sc__law_bounds.nd rfl (Or.inl rfl) (pe_op op_mod (pe_op op_fdiv (pv 2) pe_int) pe_int))
  (pss_cons (ps_if (pt_cmpR op_eq (pe_op op_mod (pe_op op_fdiv (pv 1) pe_int) pe_int) pe_int (nomark _))
  (pss_one (ps_set (i := 3) sc__law_bounds.nd rfl (Or.inl rfl) (pe_op op_add pe_int (pe_op op_mod (pe_op op_fdiv (pv 1) pe_int) pe_int))))
  pss_nil)
  (pss_cons (ps_if (pt_cmp (pc_inT (pe_op op_mod (pe_op op_fdiv (pv 2) pe_int) pe_int) (pa_cons pe_int (pa_cons pe_int pa_nil))) rfl)
  (pss_one (ps_set (i := 4) sc__law_bounds.nd rfl (Or.inl rfl) (pe_op op_mod (pe_op op_fdiv (pv 2) pe_int) pe_int)))
  pss_nil)
  (pss_cons (ps_if (pt_cmpR op_eq (pe_op op_mod (pe_op op_fdiv (pv 2) pe_int) pe_int) pe_int (nomark _))
  (pss_one (ps_set (i := 5) sc__law_bounds.nd rfl (Or.inl rfl) (pe_op op_mod (pe_op op_fdiv (pv 2) pe_int) pe_int)))
  pss_nil)
  (pss_cons (ps_if (pt_cmpR op_gt (pe_op op_mod (pe_op op_fdiv (pv 2) pe_int) pe_int) pe_int (nomark _))
  (pss_one (ps_set (i := 5) sc__law_bounds.nd rfl (Or.inl rfl) (pe_op op_mod (pe_op op_fdiv (pv 2) pe_int) (pe_pick (pa_cons pe_int (pa_cons pe_int pa_nil)) (pe_op op_mod (pe_op op_fdiv (pv 2) pe_int) pe_int) (fun _ _ => rfl)))))
  pss_nil)
  (pss_one (ps_ret (pe_tup (pa_cons (pv 3) (pa_cons (pe_op op_add pe_int (pe_op op_mod (pe_op op_fdiv (pv 1) pe_int) (pv 3))) (pa_cons (pv 4) (pa_cons (pv 5) pa_nil)))))))))))))))), ?_⟩
  walk_at "st0"
  refine seq_gen fun N_a h_a => ?_
  simp only [RDa, RDb, RDv, RDk, RDx, RDe, RDd, RDp, RDq, List.getElem?_cons_zero, List.getElem?_cons_succ, List.set_cons_zero, List.set_cons_succ, List.cons.injEq, List.cons_ne_nil, reduceCtorEq, exists_eq_left', exists_eq_left, exists_and_left, and_assoc, exists_const, true_and, and_true, if_true, if_false, false_and, and_false, exists_false, false_or, or_false, true_implies, false_implies, implies_true, forall_eq, forall_eq', Bool.false_eq_true, if_neg, decide_eq_true_eq, Bool.not_eq_true', decide_eq_false_iff_not, Bool.not_true, Bool.not_false, List.length_cons, List.length_nil, sizeLine_eq, Nat.reduceAdd, Nat.reduceLeDiff, Nat.reduceLT, Int.reduceLT, Int.reduceLE, Int.emod_nonneg, ne_eq, Int.reduceEq, not_false_eq_true, not_true_eq_false, hS, sp__law_at, sp__law_mixed]
  refine h_a _ _ ?_
  refine seq_gen fun N_b h_b => ?_
  simp only [RDa, RDb, RDv, RDk, RDx, RDe, RDd, RDp, RDq, List.getElem?_cons_zero, List.getElem?_cons_succ, List.set_cons_zero, List.set_cons_succ, List.cons.injEq, List.cons_ne_nil, reduceCtorEq, exists_eq_left', exists_eq_left, exists_and_left, and_assoc, exists_const, true_and, and_true, if_true, if_false, false_and, and_false, exists_false, false_or, or_false, true_implies, false_implies, implies_true, forall_eq, forall_eq', Bool.false_eq_true, if_neg, decide_eq_true_eq, Bool.not_eq_true', decide_eq_false_iff_not, Bool.not_true, Bool.not_false, List.length_cons, List.length_nil, sizeLine_eq, Nat.reduceAdd, Nat.reduceLeDiff, Nat.reduceLT, Int.reduceLT, Int.reduceLE, Int.emod_nonneg, ne_eq, Int.reduceEq, not_false_eq_true, not_true_eq_false, hS, sp__law_at, sp__law_mixed]
  refine h_b _ _ ?_
  clear h_a h_b
  generalize mixed (cell ns 0) 0 = one at q
  generalize mixed (cell ns 1) 1 = two at q
  refine seq_gen fun N_c h_c => ?_
  simp only [RDa, RDb, RDv, RDk, RDx, RDe, RDd, RDp, RDq, List.getElem?_cons_zero, List.getElem?_cons_succ, List.set_cons_zero, List.set_cons_succ, List.cons.injEq, List.cons_ne_nil, reduceCtorEq, exists_eq_left', exists_eq_left, exists_and_left, and_assoc, exists_const, true_and, and_true, if_true, if_false, false_and, and_false, exists_false, false_or, or_false, true_implies, false_implies, implies_true, forall_eq, forall_eq', Bool.false_eq_true, if_neg, decide_eq_true_eq, Bool.not_eq_true', decide_eq_false_iff_not, Bool.not_true, Bool.not_false, List.length_cons, List.length_nil, sizeLine_eq, Nat.reduceAdd, Nat.reduceLeDiff, Nat.reduceLT, Int.reduceLT, Int.reduceLE, Int.emod_nonneg, ne_eq, Int.reduceEq, not_false_eq_true, not_true_eq_false]
  refine h_c _ _ ?_
  refine seq_gen fun N_d h_d => ?_
  simp only [RDa, RDb, RDv, RDk, RDx, RDe, RDd, RDp, RDq, List.getElem?_cons_zero, List.getElem?_cons_succ, List.set_cons_zero, List.set_cons_succ, List.cons.injEq, List.cons_ne_nil, reduceCtorEq, exists_eq_left', exists_eq_left, exists_and_left, and_assoc, exists_const, true_and, and_true, if_true, if_false, false_and, and_false, exists_false, false_or, or_false, true_implies, false_implies, implies_true, forall_eq, forall_eq', Bool.false_eq_true, if_neg, decide_eq_true_eq, Bool.not_eq_true', decide_eq_false_iff_not, Bool.not_true, Bool.not_false, List.length_cons, List.length_nil, sizeLine_eq, Nat.reduceAdd, Nat.reduceLeDiff, Nat.reduceLT, Int.reduceLT, Int.reduceLE, Int.emod_nonneg, ne_eq, Int.reduceEq, not_false_eq_true, not_true_eq_false]
  refine h_d _ _ ?_
  refine seq_gen fun N_e h_e => ?_
  simp only [RDa, RDb, RDv, RDk, RDx, RDe, RDd, RDp, RDq, List.getElem?_cons_zero, List.getElem?_cons_succ, List.set_cons_zero, List.set_cons_succ, List.cons.injEq, List.cons_ne_nil, reduceCtorEq, exists_eq_left', exists_eq_left, exists_and_left, and_assoc, exists_const, true_and, and_true, if_true, if_false, false_and, and_false, exists_false, false_or, or_false, true_implies, false_implies, implies_true, forall_eq, forall_eq', Bool.false_eq_true, if_neg, decide_eq_true_eq, Bool.not_eq_true', decide_eq_false_iff_not, Bool.not_true, Bool.not_false, List.length_cons, List.length_nil, sizeLine_eq, Nat.reduceAdd, Nat.reduceLeDiff, Nat.reduceLT, Int.reduceLT, Int.reduceLE, Int.emod_nonneg, ne_eq, Int.reduceEq, not_false_eq_true, not_true_eq_false]
  refine h_e _ _ ?_
  clear h_c h_d h_e
  refine seq_to [some (.ref a), some (.int one), some (.int two), some (.int (lbW one)), some (.int (two % 4)), some (.int (two / 4 % 4))] H (fun N hN => ?_) ?_
  · simp only [RDa, RDb, RDv, RDk, RDx, RDe, RDd, RDp, RDq, List.getElem?_cons_zero, List.getElem?_cons_succ, List.set_cons_zero, List.set_cons_succ, List.cons.injEq, List.cons_ne_nil, reduceCtorEq, exists_eq_left', exists_eq_left, exists_and_left, and_assoc, exists_const, true_and, and_true, if_true, if_false, false_and, and_false, exists_false, false_or, or_false, true_implies, false_implies, implies_true, forall_eq, forall_eq', Bool.false_eq_true, if_neg, decide_eq_true_eq, Bool.not_eq_true', decide_eq_false_iff_not, Bool.not_true, Bool.not_false, List.length_cons, List.length_nil, sizeLine_eq, Nat.reduceAdd, Nat.reduceLeDiff, Nat.reduceLT, Int.reduceLT, Int.reduceLE, Int.emod_nonneg, ne_eq, Int.reduceEq, not_false_eq_true, not_true_eq_false]
    unfold lbW at hN
    by_cases c1 : one / 5 % 6 = 1
    · rw [if_pos c1] at hN ⊢; exact hN
    · rw [if_neg c1] at hN ⊢; exact hN
  refine seq_to [some (.ref a), some (.int one), some (.int two), some (.int (lbW one)), some (.int (lbD two)), some (.int (two / 4 % 4))] H (fun N hN => ?_) ?_
  · simp only [RDa, RDb, RDv, RDk, RDx, RDe, RDd, RDp, RDq, List.getElem?_cons_zero, List.getElem?_cons_succ, List.set_cons_zero, List.set_cons_succ, List.cons.injEq, List.cons_ne_nil, reduceCtorEq, exists_eq_left', exists_eq_left, exists_and_left, and_assoc, exists_const, true_and, and_true, if_true, if_false, false_and, and_false, exists_false, false_or, or_false, true_implies, false_implies, implies_true, forall_eq, forall_eq', Bool.false_eq_true, if_neg, decide_eq_true_eq, Bool.not_eq_true', decide_eq_false_iff_not, Bool.not_true, Bool.not_false, List.length_cons, List.length_nil, sizeLine_eq, Nat.reduceAdd, Nat.reduceLeDiff, Nat.reduceLT, Int.reduceLT, Int.reduceLE, Int.emod_nonneg, ne_eq, Int.reduceEq, not_false_eq_true, not_true_eq_false]
    have ei : inV (V.int (two / 16 % 6)) [V.int 1, V.int 2] = decide (two / 16 % 6 = 1 ∨ two / 16 % 6 = 2) := by
      rw [Bool.eq_iff_iff]
      simp only [inV, List.any_cons, List.any_nil, eqV, Bool.or_false, Bool.or_eq_true, beq_iff_eq, decide_eq_true_eq]
      omega
    refine ⟨rfl, rfl, ?_⟩
    rw [ei]
    unfold lbD at hN
    by_cases c1 : two / 16 % 6 = 1 ∨ two / 16 % 6 = 2
    · rw [if_pos c1] at hN
      rw [if_pos (decide_eq_true c1)]; exact hN
    · rw [if_neg c1] at hN
      rw [if_neg (by simpa using c1)]; exact hN
  refine seq_to [some (.ref a), some (.int one), some (.int two), some (.int (lbW one)), some (.int (lbD two)), some (.int (if two / 16 % 6 = 2 then two / 2016 % 21 else two / 4 % 4))] H (fun N hN => ?_) ?_
  · simp only [RDa, RDb, RDv, RDk, RDx, RDe, RDd, RDp, RDq, List.getElem?_cons_zero, List.getElem?_cons_succ, List.set_cons_zero, List.set_cons_succ, List.cons.injEq, List.cons_ne_nil, reduceCtorEq, exists_eq_left', exists_eq_left, exists_and_left, and_assoc, exists_const, true_and, and_true, if_true, if_false, false_and, and_false, exists_false, false_or, or_false, true_implies, false_implies, implies_true, forall_eq, forall_eq', Bool.false_eq_true, if_neg, decide_eq_true_eq, Bool.not_eq_true', decide_eq_false_iff_not, Bool.not_true, Bool.not_false, List.length_cons, List.length_nil, sizeLine_eq, Nat.reduceAdd, Nat.reduceLeDiff, Nat.reduceLT, Int.reduceLT, Int.reduceLE, Int.emod_nonneg, ne_eq, Int.reduceEq, not_false_eq_true, not_true_eq_false]
    by_cases c1 : two / 16 % 6 = 2
    · rw [if_pos c1] at hN ⊢; exact hN
    · rw [if_neg c1] at hN ⊢; exact hN
  refine seq_to [some (.ref a), some (.int one), some (.int two), some (.int (lbW one)), some (.int (lbD two)), some (.int (lbB two))] H (fun N hN => ?_) ?_
  · simp only [RDa, RDb, RDv, RDk, RDx, RDe, RDd, RDp, RDq, List.getElem?_cons_zero, List.getElem?_cons_succ, List.set_cons_zero, List.set_cons_succ, List.cons.injEq, List.cons_ne_nil, reduceCtorEq, exists_eq_left', exists_eq_left, exists_and_left, and_assoc, exists_const, true_and, and_true, if_true, if_false, false_and, and_false, exists_false, false_or, or_false, true_implies, false_implies, implies_true, forall_eq, forall_eq', Bool.false_eq_true, if_neg, decide_eq_true_eq, Bool.not_eq_true', decide_eq_false_iff_not, Bool.not_true, Bool.not_false, List.length_cons, List.length_nil, sizeLine_eq, Nat.reduceAdd, Nat.reduceLeDiff, Nat.reduceLT, Int.reduceLT, Int.reduceLE, Int.emod_nonneg, ne_eq, Int.reduceEq, not_false_eq_true, not_true_eq_false]
    unfold lbB at hN
    by_cases c1 : 3 < two / 16 % 6
    · rw [if_pos c1] at hN ⊢
      exact ⟨_, pickI2 (by omega) (by omega), _, rfl, by split <;> decide, hN⟩
    · rw [if_neg c1] at hN ⊢; exact hN
  have ok := lb_ok (one := one) (two := two)
  simp only [RDa, RDb, RDv, RDk, RDx, RDe, RDd, RDp, RDq, List.getElem?_cons_zero, List.getElem?_cons_succ, List.set_cons_zero, List.set_cons_succ, List.cons.injEq, List.cons_ne_nil, reduceCtorEq, exists_eq_left', exists_eq_left, exists_and_left, and_assoc, exists_const, true_and, and_true, if_true, if_false, false_and, and_false, exists_false, false_or, or_false, true_implies, false_implies, implies_true, forall_eq, forall_eq', Bool.false_eq_true, if_neg, decide_eq_true_eq, Bool.not_eq_true', decide_eq_false_iff_not, Bool.not_true, Bool.not_false, List.length_cons, List.length_nil, sizeLine_eq, Nat.reduceAdd, Nat.reduceLeDiff, Nat.reduceLT, Int.reduceLT, Int.reduceLE, Int.emod_nonneg, ne_eq, Int.reduceEq, not_false_eq_true, not_true_eq_false]
  exact ⟨by omega, fun t ht => q t _ ht (same_new ht) upd_same⟩
end RP

namespace RP
open PySem PySem.Spec PyProof.Rows L2 L2H
/-- what isinstance says of an error of the class D -/
abbrev KitF (K : PySem.W.Frag) (D : Str) (l : List (Str × Bool)) : Prop := ∀ q ∈ l, PySem.W.kitOne K (.ref (He.ga K D)) (.ref (He.ga K q.1)) = some q.2
abbrev errNames : List Str := ["BadBounds", "BadRing", "BadTexts", "BadStep", "NotNow", "NoLetter", "Safe", "NoLine"]
theorem empty_app (z : Str) : Str.empty ++ z = z := by
  refine str_ext ?_
  show (#[] ++ z.cps).toList = _
  simp
theorem bl_rep {n i : Nat} {x : V} (h : (List.replicate n (V.bl false))[i]? = some x) : x = .bl false := by
  have := List.mem_of_getElem? h
  exact List.eq_of_mem_replicate this
abbrev s__law_word : Stmt := top 30
abbrev N__law_word : List Str := ["_law_error", "_law_word_here", "_law_is_other"]
theorem sc__law_word : FnScope N__law_word ["_law_error"] (defScope s__law_word) := ⟨rfl, rfl, rfl, by decide +kernel, rfl, by decide +kernel, by decide +kernel⟩
/-- the word of an error -/
def wordOf (D w : Str) : Prop := (D = "BadBounds" ∧ w = "bounds") ∨ (D = "BadRing" ∧ w = "ring") ∨ (D = "BadTexts" ∧ w = "texts")
def sp__law_word (K : PySem.W.Frag) (a : Addr) (c : Value) (d : Option Addr) : Sp := fun vs H Q _ => ∃ D w, vs = [.ref a] ∧ c = .ref (He.ga K D) ∧ wordOf D w ∧ d = none ∧ ∀ H', Same H H' → Q (.str w) H'
theorem ok__law_word {P : Program} {w : World} {K : PySem.W.Frag} {mg : Str → Option Value} {base : Heap} (F : FnP K ("_law_word", none) "_law_word" "_law_word" s__law_word) (hm : mg "_law_word" = some (.ref (He.ga K "_law_word"))) (bl : Blt mg) (e_BadBounds : ErrC K mg "BadBounds") (e_BadRing : ErrC K mg "BadRing") (e_BadStep : ErrC K mg "BadStep") (e_BadTexts : ErrC K mg "BadTexts") (e_NoLetter : ErrC K mg "NoLetter") (e_NoLine : ErrC K mg "NoLine") (e_NotNow : ErrC K mg "NotNow") (e_Safe : ErrC K mg "Safe") (hEBadBounds : ExcC K (He.ga K "BadBounds")) (hkfBadBounds : KitF K "BadBounds" (errNames.map fun x => (x, decide (x = "BadBounds")))) (hkvBadBounds : PySem.W.kitOne K (.ref (He.ga K "BadBounds")) (.type "ValueError") = some true) (hEBadRing : ExcC K (He.ga K "BadRing")) (hkfBadRing : KitF K "BadRing" (errNames.map fun x => (x, decide (x = "BadRing")))) (hkvBadRing : PySem.W.kitOne K (.ref (He.ga K "BadRing")) (.type "ValueError") = some true) (hEBadTexts : ExcC K (He.ga K "BadTexts")) (hkfBadTexts : KitF K "BadTexts" (errNames.map fun x => (x, decide (x = "BadTexts")))) (hkvBadTexts : PySem.W.kitOne K (.ref (He.ga K "BadTexts")) (.type "ValueError") = some true) : CalE P w K mg base 1 "_law_word" (sp__law_word K) := by
  refine fn_calE F hm sc__law_word (fun _ _ _ vs H Q E => by walk_at "len") (fun _ _ _ _ _ _ us hl => match us, hl with | [_], _ => rfl) (fun f cdv A outer s H vs Q E p c d hot hz hr h => ?_)
  obtain ⟨D, w', rfl, rfl, hw, rfl, q⟩ := h
  have hfl : ∃ vs, p.2.data = .fields vs := hot.2.elim fun vs e => ⟨vs, e.1⟩
  rcases hw with ⟨rfl, rfl⟩ | ⟨rfl, rfl⟩ | ⟨rfl, rfl⟩
  · have hE := hEBadBounds
    have hkv := hkvBadBounds
    have k1 := hkfBadBounds ("BadBounds", true) (by decide)
    have k2 := hkfBadBounds ("BadRing", false) (by decide)
    have k3 := hkfBadBounds ("BadTexts", false) (by decide)
    have k4 := hkfBadBounds ("BadStep", false) (by decide)
    have k5 := hkfBadBounds ("NotNow", false) (by decide)
    have k6 := hkfBadBounds ("NoLetter", false) (by decide)
    have k7 := hkfBadBounds ("Safe", false) (by decide)
    have k8 := hkfBadBounds ("NoLine", false) (by decide)
    refine ⟨_, (pss_cons (ps_set (i := 1) sc__law_word.nd rfl (Or.inl rfl) (pe_op op_add_str (pe_op op_mul_str pe_str (pe_callTy call_int1 (by rfl) (bl.int) (by decide +kernel) (pa_cons (pe_callB (isE hE (a := p.1) (oe := p.2) List.mem_cons_self hz rfl rfl hfl) (by rfl) (bl.isi) (by decide +kernel) (pa_cons (pv 0) (pa_cons (pe_glob (v := .ref (He.ga K "BadBounds")) rfl e_BadBounds.g rfl) pa_nil))) pa_nil))) (pe_op op_mul_str pe_str (pe_callTy call_int1 (by rfl) (bl.int) (by decide +kernel) (pa_cons (pe_callB (isE hE (a := p.1) (oe := p.2) List.mem_cons_self hz rfl rfl hfl) (by rfl) (bl.isi) (by decide +kernel) (pa_cons (pv 0) (pa_cons (pe_glob (v := .ref (He.ga K "BadRing")) rfl e_BadRing.g rfl) pa_nil))) pa_nil)))))
  (pss_cons (ps_set (i := 1) sc__law_word.nd rfl (Or.inl rfl) (pe_op op_add_str (pv 1) (pe_op op_mul_str pe_str (pe_callTy call_int1 (by rfl) (bl.int) (by decide +kernel) (pa_cons (pe_callB (isE hE (a := p.1) (oe := p.2) List.mem_cons_self hz rfl rfl hfl) (by rfl) (bl.isi) (by decide +kernel) (pa_cons (pv 0) (pa_cons (pe_glob (v := .ref (He.ga K "BadTexts")) rfl e_BadTexts.g rfl) pa_nil))) pa_nil)))))
  (pss_cons (L2H.ps_forH (passes_of rfl) ⟨p, hot, List.mem_cons_self⟩ (pi_listH (pe_lst (pa_cons (pe_callB (isE hE (a := p.1) (oe := p.2) List.mem_cons_self hz rfl rfl hfl) (by rfl) (bl.isi) (by decide +kernel) (pa_cons (pv 0) (pa_cons (pe_glob (v := .ref (He.ga K "BadStep")) rfl e_BadStep.g rfl) pa_nil))) (pa_cons (pe_callB (isE hE (a := p.1) (oe := p.2) List.mem_cons_self hz rfl rfl hfl) (by rfl) (bl.isi) (by decide +kernel) (pa_cons (pv 0) (pa_cons (pe_glob (v := .ref (He.ga K "NotNow")) rfl e_NotNow.g rfl) pa_nil))) (pa_cons (pe_callB (isE hE (a := p.1) (oe := p.2) List.mem_cons_self hz rfl rfl hfl) (by rfl) (bl.isi) (by decide +kernel) (pa_cons (pv 0) (pa_cons (pe_glob (v := .ref (He.ga K "NoLetter")) rfl e_NoLetter.g rfl) pa_nil))) pa_nil))))) (pg_name (i := 2) sc__law_word.nd rfl (Or.inl rfl))
  (pss_one (ps_set (i := 1) sc__law_word.nd rfl (Or.inl rfl) (pe_op op_add_str (pv 1) (pe_op op_mul_str pe_str (pe_callTy call_int1 (by rfl) (bl.int) (by decide +kernel) (pa_cons (pv 2) pa_nil)))))))
  (pss_cons (L2H.ps_forH (passes_of rfl) ⟨p, hot, List.mem_cons_self⟩ (pi_listH (pe_lst (pa_cons (pe_callB (isE hE (a := p.1) (oe := p.2) List.mem_cons_self hz rfl rfl hfl) (by rfl) (bl.isi) (by decide +kernel) (pa_cons (pv 0) (pa_cons (pe_glob (v := .ref (He.ga K "Safe")) rfl e_Safe.g rfl) pa_nil))) (pa_cons (pe_callB (isE hE (a := p.1) (oe := p.2) List.mem_cons_self hz rfl rfl hfl) (by rfl) (bl.isi) (by decide +kernel) (pa_cons (pv 0) (pa_cons (pe_glob (v := .ref (He.ga K "NoLine")) rfl e_NoLine.g rfl) pa_nil))) pa_nil)))) (pg_name (i := 2) sc__law_word.nd rfl (Or.inl rfl))
  (pss_one (ps_set (i := 1) sc__law_word.nd rfl (Or.inl rfl) (pe_op op_add_str (pv 1) (pe_op op_mul_str pe_str (pe_callTy call_int1 (by rfl) (bl.int) (by decide +kernel) (pa_cons (pv 2) pa_nil)))))))
  (pss_one (ps_ret (pe_op op_mul_str (pv 1) (pe_callTy call_int1 (by rfl) (bl.int) (by decide +kernel) (pa_cons (pe_callB (isE hE (a := p.1) (oe := p.2) List.mem_cons_self hz rfl rfl hfl) (by rfl) (bl.isi) (by decide +kernel) (pa_cons (pv 0) (pa_cons (pe_bltn (v := .ty "ValueError") (u := .type "ValueError") rfl (bl.ValueError) (by decide +kernel) rfl) pa_nil))) pa_nil))))))))), ?_⟩
    walk_at "st0"
    simp only [RDa, RDb, RDv, RDk, RDx, RDe, RDd, RDp, RDq, List.getElem?_cons_zero, List.getElem?_cons_succ, List.set_cons_zero, List.set_cons_succ, List.cons.injEq, List.cons_ne_nil, reduceCtorEq, exists_eq_left', exists_eq_left, exists_and_left, and_assoc, exists_const, true_and, and_true, if_true, if_false, false_and, and_false, exists_false, false_or, or_false, true_implies, false_implies, implies_true, forall_eq, forall_eq', Bool.false_eq_true, if_neg, decide_eq_true_eq, Bool.not_eq_true', decide_eq_false_iff_not, Bool.not_true, Bool.not_false, List.length_cons, List.length_nil, sizeLine_eq, Nat.reduceAdd, Nat.reduceLeDiff, Nat.reduceLT, Int.reduceLT, Int.reduceLE, Int.emod_nonneg, ne_eq, Int.reduceEq, not_false_eq_true, not_true_eq_false, k1, k2, k3, k4, k5, k6, k7, k8, hkv, mul_one, mul_zero, mulOk_one, mulOk_zero, app_empty, empty_app]
    have hl : ("bounds" : Str).length + Str.empty.length ≤ 16777216 := by decide +kernel
    refine ⟨by decide +kernel, by decide +kernel, ?_⟩
    refine for_lcut (fun a H2 => Same H H2 ∧ H2 a = some (.lst [.bl false, .bl false, .bl false])) [.bl false, .bl false, .bl false] (fun Z hZ => ?_)
      (fun a i σ H' => (∃ v, σ = [some (.ref p.1), some (.str "bounds"), v]) ∧ Same H H' ∧ H' a = some (.lst [.bl false, .bl false, .bl false])) ?_ ?_ ?_ ?_
    · simp only [RDa, RDb, RDv, RDk, RDx, RDe, RDd, RDp, RDq, List.getElem?_cons_zero, List.getElem?_cons_succ, List.set_cons_zero, List.set_cons_succ, List.cons.injEq, List.cons_ne_nil, reduceCtorEq, exists_eq_left', exists_eq_left, exists_and_left, and_assoc, exists_const, true_and, and_true, if_true, if_false, false_and, and_false, exists_false, false_or, or_false, true_implies, false_implies, implies_true, forall_eq, forall_eq', Bool.false_eq_true, if_neg, decide_eq_true_eq, Bool.not_eq_true', decide_eq_false_iff_not, Bool.not_true, Bool.not_false, List.length_cons, List.length_nil, sizeLine_eq, Nat.reduceAdd, Nat.reduceLeDiff, Nat.reduceLT, Int.reduceLT, Int.reduceLE, Int.emod_nonneg, ne_eq, Int.reduceEq, not_false_eq_true, not_true_eq_false, k1, k2, k3, k4, k5, k6, k7, k8, hkv, mul_one, mul_zero, mulOk_one, mulOk_zero, app_empty, empty_app]
      exact fun a ha => hZ a _ ⟨same_new ha, upd_same⟩
    · rintro a H1 ⟨h1, h2⟩
      exact ⟨SqL.of h2, ⟨none, rfl⟩, h1, h2⟩
    · rintro a i σ H1 _ ⟨_, _, h2⟩
      exact SqL.of h2
    · rintro a i x σ H1 hx ⟨⟨v, rfl⟩, h1, h2⟩
      rw [bl_rep (n := 3) hx]
      simp only [RDa, RDb, RDv, RDk, RDx, RDe, RDd, RDp, RDq, List.getElem?_cons_zero, List.getElem?_cons_succ, List.set_cons_zero, List.set_cons_succ, List.cons.injEq, List.cons_ne_nil, reduceCtorEq, exists_eq_left', exists_eq_left, exists_and_left, and_assoc, exists_const, true_and, and_true, if_true, if_false, false_and, and_false, exists_false, false_or, or_false, true_implies, false_implies, implies_true, forall_eq, forall_eq', Bool.false_eq_true, if_neg, decide_eq_true_eq, Bool.not_eq_true', decide_eq_false_iff_not, Bool.not_true, Bool.not_false, List.length_cons, List.length_nil, sizeLine_eq, Nat.reduceAdd, Nat.reduceLeDiff, Nat.reduceLT, Int.reduceLT, Int.reduceLE, Int.emod_nonneg, ne_eq, Int.reduceEq, not_false_eq_true, not_true_eq_false, k1, k2, k3, k4, k5, k6, k7, k8, hkv, mul_one, mul_zero, mulOk_one, mulOk_zero, app_empty, empty_app]
      exact ⟨hl, ⟨_, rfl⟩, h1, h2⟩
    rintro a1 σ H1 ⟨⟨v, rfl⟩, h1, h2⟩
    dsimp only
    simp only [RDa]
    refine for_lcut (fun a H2 => Same H H2 ∧ H2 a = some (.lst [.bl false, .bl false])) [.bl false, .bl false] (fun Z hZ => ?_)
      (fun a i σ H' => (∃ v, σ = [some (.ref p.1), some (.str "bounds"), v]) ∧ Same H H' ∧ H' a = some (.lst [.bl false, .bl false])) ?_ ?_ ?_ ?_
    · simp only [RDa, RDb, RDv, RDk, RDx, RDe, RDd, RDp, RDq, List.getElem?_cons_zero, List.getElem?_cons_succ, List.set_cons_zero, List.set_cons_succ, List.cons.injEq, List.cons_ne_nil, reduceCtorEq, exists_eq_left', exists_eq_left, exists_and_left, and_assoc, exists_const, true_and, and_true, if_true, if_false, false_and, and_false, exists_false, false_or, or_false, true_implies, false_implies, implies_true, forall_eq, forall_eq', Bool.false_eq_true, if_neg, decide_eq_true_eq, Bool.not_eq_true', decide_eq_false_iff_not, Bool.not_true, Bool.not_false, List.length_cons, List.length_nil, sizeLine_eq, Nat.reduceAdd, Nat.reduceLeDiff, Nat.reduceLT, Int.reduceLT, Int.reduceLE, Int.emod_nonneg, ne_eq, Int.reduceEq, not_false_eq_true, not_true_eq_false, k1, k2, k3, k4, k5, k6, k7, k8, hkv, mul_one, mul_zero, mulOk_one, mulOk_zero, app_empty, empty_app]
      exact fun a ha => hZ a _ ⟨h1.trans (same_new ha), upd_same⟩
    · rintro a H2 ⟨h3, h4⟩
      exact ⟨SqL.of h4, ⟨v, rfl⟩, h3, h4⟩
    · rintro a i σ H2 _ ⟨_, _, h4⟩
      exact SqL.of h4
    · rintro a i x σ H2 hx ⟨⟨v, rfl⟩, h3, h4⟩
      rw [bl_rep (n := 2) hx]
      simp only [RDa, RDb, RDv, RDk, RDx, RDe, RDd, RDp, RDq, List.getElem?_cons_zero, List.getElem?_cons_succ, List.set_cons_zero, List.set_cons_succ, List.cons.injEq, List.cons_ne_nil, reduceCtorEq, exists_eq_left', exists_eq_left, exists_and_left, and_assoc, exists_const, true_and, and_true, if_true, if_false, false_and, and_false, exists_false, false_or, or_false, true_implies, false_implies, implies_true, forall_eq, forall_eq', Bool.false_eq_true, if_neg, decide_eq_true_eq, Bool.not_eq_true', decide_eq_false_iff_not, Bool.not_true, Bool.not_false, List.length_cons, List.length_nil, sizeLine_eq, Nat.reduceAdd, Nat.reduceLeDiff, Nat.reduceLT, Int.reduceLT, Int.reduceLE, Int.emod_nonneg, ne_eq, Int.reduceEq, not_false_eq_true, not_true_eq_false, k1, k2, k3, k4, k5, k6, k7, k8, hkv, mul_one, mul_zero, mulOk_one, mulOk_zero, app_empty, empty_app]
      exact ⟨hl, ⟨_, rfl⟩, h3, h4⟩
    rintro a2 σ H2 ⟨⟨v, rfl⟩, h3, h4⟩
    simp only [RDa, RDb, RDv, RDk, RDx, RDe, RDd, RDp, RDq, List.getElem?_cons_zero, List.getElem?_cons_succ, List.set_cons_zero, List.set_cons_succ, List.cons.injEq, List.cons_ne_nil, reduceCtorEq, exists_eq_left', exists_eq_left, exists_and_left, and_assoc, exists_const, true_and, and_true, if_true, if_false, false_and, and_false, exists_false, false_or, or_false, true_implies, false_implies, implies_true, forall_eq, forall_eq', Bool.false_eq_true, if_neg, decide_eq_true_eq, Bool.not_eq_true', decide_eq_false_iff_not, Bool.not_true, Bool.not_false, List.length_cons, List.length_nil, sizeLine_eq, Nat.reduceAdd, Nat.reduceLeDiff, Nat.reduceLT, Int.reduceLT, Int.reduceLE, Int.emod_nonneg, ne_eq, Int.reduceEq, not_false_eq_true, not_true_eq_false, k1, k2, k3, k4, k5, k6, k7, k8, hkv, mul_one, mul_zero, mulOk_one, mulOk_zero, app_empty, empty_app]
    exact q H2 h3
  · have hE := hEBadRing
    have hkv := hkvBadRing
    have k1 := hkfBadRing ("BadBounds", false) (by decide)
    have k2 := hkfBadRing ("BadRing", true) (by decide)
    have k3 := hkfBadRing ("BadTexts", false) (by decide)
    have k4 := hkfBadRing ("BadStep", false) (by decide)
    have k5 := hkfBadRing ("NotNow", false) (by decide)
    have k6 := hkfBadRing ("NoLetter", false) (by decide)
    have k7 := hkfBadRing ("Safe", false) (by decide)
    have k8 := hkfBadRing ("NoLine", false) (by decide)
    refine ⟨_, (pss_cons (ps_set (i := 1) sc__law_word.nd rfl (Or.inl rfl) (pe_op op_add_str (pe_op op_mul_str pe_str (pe_callTy call_int1 (by rfl) (bl.int) (by decide +kernel) (pa_cons (pe_callB (isE hE (a := p.1) (oe := p.2) List.mem_cons_self hz rfl rfl hfl) (by rfl) (bl.isi) (by decide +kernel) (pa_cons (pv 0) (pa_cons (pe_glob (v := .ref (He.ga K "BadBounds")) rfl e_BadBounds.g rfl) pa_nil))) pa_nil))) (pe_op op_mul_str pe_str (pe_callTy call_int1 (by rfl) (bl.int) (by decide +kernel) (pa_cons (pe_callB (isE hE (a := p.1) (oe := p.2) List.mem_cons_self hz rfl rfl hfl) (by rfl) (bl.isi) (by decide +kernel) (pa_cons (pv 0) (pa_cons (pe_glob (v := .ref (He.ga K "BadRing")) rfl e_BadRing.g rfl) pa_nil))) pa_nil)))))
  (pss_cons (ps_set (i := 1) sc__law_word.nd rfl (Or.inl rfl) (pe_op op_add_str (pv 1) (pe_op op_mul_str pe_str (pe_callTy call_int1 (by rfl) (bl.int) (by decide +kernel) (pa_cons (pe_callB (isE hE (a := p.1) (oe := p.2) List.mem_cons_self hz rfl rfl hfl) (by rfl) (bl.isi) (by decide +kernel) (pa_cons (pv 0) (pa_cons (pe_glob (v := .ref (He.ga K "BadTexts")) rfl e_BadTexts.g rfl) pa_nil))) pa_nil)))))
  (pss_cons (L2H.ps_forH (passes_of rfl) ⟨p, hot, List.mem_cons_self⟩ (pi_listH (pe_lst (pa_cons (pe_callB (isE hE (a := p.1) (oe := p.2) List.mem_cons_self hz rfl rfl hfl) (by rfl) (bl.isi) (by decide +kernel) (pa_cons (pv 0) (pa_cons (pe_glob (v := .ref (He.ga K "BadStep")) rfl e_BadStep.g rfl) pa_nil))) (pa_cons (pe_callB (isE hE (a := p.1) (oe := p.2) List.mem_cons_self hz rfl rfl hfl) (by rfl) (bl.isi) (by decide +kernel) (pa_cons (pv 0) (pa_cons (pe_glob (v := .ref (He.ga K "NotNow")) rfl e_NotNow.g rfl) pa_nil))) (pa_cons (pe_callB (isE hE (a := p.1) (oe := p.2) List.mem_cons_self hz rfl rfl hfl) (by rfl) (bl.isi) (by decide +kernel) (pa_cons (pv 0) (pa_cons (pe_glob (v := .ref (He.ga K "NoLetter")) rfl e_NoLetter.g rfl) pa_nil))) pa_nil))))) (pg_name (i := 2) sc__law_word.nd rfl (Or.inl rfl))
  (pss_one (ps_set (i := 1) sc__law_word.nd rfl (Or.inl rfl) (pe_op op_add_str (pv 1) (pe_op op_mul_str pe_str (pe_callTy call_int1 (by rfl) (bl.int) (by decide +kernel) (pa_cons (pv 2) pa_nil)))))))
  (pss_cons (L2H.ps_forH (passes_of rfl) ⟨p, hot, List.mem_cons_self⟩ (pi_listH (pe_lst (pa_cons (pe_callB (isE hE (a := p.1) (oe := p.2) List.mem_cons_self hz rfl rfl hfl) (by rfl) (bl.isi) (by decide +kernel) (pa_cons (pv 0) (pa_cons (pe_glob (v := .ref (He.ga K "Safe")) rfl e_Safe.g rfl) pa_nil))) (pa_cons (pe_callB (isE hE (a := p.1) (oe := p.2) List.mem_cons_self hz rfl rfl hfl) (by rfl) (bl.isi) (by decide +kernel) (pa_cons (pv 0) (pa_cons (pe_glob (v := .ref (He.ga K "NoLine")) rfl e_NoLine.g rfl) pa_nil))) pa_nil)))) (pg_name (i := 2) sc__law_word.nd rfl (Or.inl rfl))
  (pss_one (ps_set (i := 1) sc__law_word.nd rfl (Or.inl rfl) (pe_op op_add_str (pv 1) (pe_op op_mul_str pe_str (pe_callTy call_int1 (by rfl) (bl.int) (by decide +kernel) (pa_cons (pv 2) pa_nil)))))))
  (pss_one (ps_ret (pe_op op_mul_str (pv 1) (pe_callTy call_int1 (by rfl) (bl.int) (by decide +kernel) (pa_cons (pe_callB (isE hE (a := p.1) (oe := p.2) List.mem_cons_self hz rfl rfl hfl) (by rfl) (bl.isi) (by decide +kernel) (pa_cons (pv 0) (pa_cons (pe_bltn (v := .ty "ValueError") (u := .type "ValueError") rfl (bl.ValueError) (by decide +kernel) rfl) pa_nil))) pa_nil))))))))), ?_⟩
    walk_at "st0"
    simp only [RDa, RDb, RDv, RDk, RDx, RDe, RDd, RDp, RDq, List.getElem?_cons_zero, List.getElem?_cons_succ, List.set_cons_zero, List.set_cons_succ, List.cons.injEq, List.cons_ne_nil, reduceCtorEq, exists_eq_left', exists_eq_left, exists_and_left, and_assoc, exists_const, true_and, and_true, if_true, if_false, false_and, and_false, exists_false, false_or, or_false, true_implies, false_implies, implies_true, forall_eq, forall_eq', Bool.false_eq_true, if_neg, decide_eq_true_eq, Bool.not_eq_true', decide_eq_false_iff_not, Bool.not_true, Bool.not_false, List.length_cons, List.length_nil, sizeLine_eq, Nat.reduceAdd, Nat.reduceLeDiff, Nat.reduceLT, Int.reduceLT, Int.reduceLE, Int.emod_nonneg, ne_eq, Int.reduceEq, not_false_eq_true, not_true_eq_false, k1, k2, k3, k4, k5, k6, k7, k8, hkv, mul_one, mul_zero, mulOk_one, mulOk_zero, app_empty, empty_app]
    have hl : ("ring" : Str).length + Str.empty.length ≤ 16777216 := by decide +kernel
    refine ⟨by decide +kernel, by decide +kernel, ?_⟩
    refine for_lcut (fun a H2 => Same H H2 ∧ H2 a = some (.lst [.bl false, .bl false, .bl false])) [.bl false, .bl false, .bl false] (fun Z hZ => ?_)
      (fun a i σ H' => (∃ v, σ = [some (.ref p.1), some (.str "ring"), v]) ∧ Same H H' ∧ H' a = some (.lst [.bl false, .bl false, .bl false])) ?_ ?_ ?_ ?_
    · simp only [RDa, RDb, RDv, RDk, RDx, RDe, RDd, RDp, RDq, List.getElem?_cons_zero, List.getElem?_cons_succ, List.set_cons_zero, List.set_cons_succ, List.cons.injEq, List.cons_ne_nil, reduceCtorEq, exists_eq_left', exists_eq_left, exists_and_left, and_assoc, exists_const, true_and, and_true, if_true, if_false, false_and, and_false, exists_false, false_or, or_false, true_implies, false_implies, implies_true, forall_eq, forall_eq', Bool.false_eq_true, if_neg, decide_eq_true_eq, Bool.not_eq_true', decide_eq_false_iff_not, Bool.not_true, Bool.not_false, List.length_cons, List.length_nil, sizeLine_eq, Nat.reduceAdd, Nat.reduceLeDiff, Nat.reduceLT, Int.reduceLT, Int.reduceLE, Int.emod_nonneg, ne_eq, Int.reduceEq, not_false_eq_true, not_true_eq_false, k1, k2, k3, k4, k5, k6, k7, k8, hkv, mul_one, mul_zero, mulOk_one, mulOk_zero, app_empty, empty_app]
      exact fun a ha => hZ a _ ⟨same_new ha, upd_same⟩
    · rintro a H1 ⟨h1, h2⟩
      exact ⟨SqL.of h2, ⟨none, rfl⟩, h1, h2⟩
    · rintro a i σ H1 _ ⟨_, _, h2⟩
      exact SqL.of h2
    · rintro a i x σ H1 hx ⟨⟨v, rfl⟩, h1, h2⟩
      rw [bl_rep (n := 3) hx]
      simp only [RDa, RDb, RDv, RDk, RDx, RDe, RDd, RDp, RDq, List.getElem?_cons_zero, List.getElem?_cons_succ, List.set_cons_zero, List.set_cons_succ, List.cons.injEq, List.cons_ne_nil, reduceCtorEq, exists_eq_left', exists_eq_left, exists_and_left, and_assoc, exists_const, true_and, and_true, if_true, if_false, false_and, and_false, exists_false, false_or, or_false, true_implies, false_implies, implies_true, forall_eq, forall_eq', Bool.false_eq_true, if_neg, decide_eq_true_eq, Bool.not_eq_true', decide_eq_false_iff_not, Bool.not_true, Bool.not_false, List.length_cons, List.length_nil, sizeLine_eq, Nat.reduceAdd, Nat.reduceLeDiff, Nat.reduceLT, Int.reduceLT, Int.reduceLE, Int.emod_nonneg, ne_eq, Int.reduceEq, not_false_eq_true, not_true_eq_false, k1, k2, k3, k4, k5, k6, k7, k8, hkv, mul_one, mul_zero, mulOk_one, mulOk_zero, app_empty, empty_app]
      exact ⟨hl, ⟨_, rfl⟩, h1, h2⟩
    rintro a1 σ H1 ⟨⟨v, rfl⟩, h1, h2⟩
    dsimp only
    simp only [RDa]
    refine for_lcut (fun a H2 => Same H H2 ∧ H2 a = some (.lst [.bl false, .bl false])) [.bl false, .bl false] (fun Z hZ => ?_)
      (fun a i σ H' => (∃ v, σ = [some (.ref p.1), some (.str "ring"), v]) ∧ Same H H' ∧ H' a = some (.lst [.bl false, .bl false])) ?_ ?_ ?_ ?_
    · simp only [RDa, RDb, RDv, RDk, RDx, RDe, RDd, RDp, RDq, List.getElem?_cons_zero, List.getElem?_cons_succ, List.set_cons_zero, List.set_cons_succ, List.cons.injEq, List.cons_ne_nil, reduceCtorEq, exists_eq_left', exists_eq_left, exists_and_left, and_assoc, exists_const, true_and, and_true, if_true, if_false, false_and, and_false, exists_false, false_or, or_false, true_implies, false_implies, implies_true, forall_eq, forall_eq', Bool.false_eq_true, if_neg, decide_eq_true_eq, Bool.not_eq_true', decide_eq_false_iff_not, Bool.not_true, Bool.not_false, List.length_cons, List.length_nil, sizeLine_eq, Nat.reduceAdd, Nat.reduceLeDiff, Nat.reduceLT, Int.reduceLT, Int.reduceLE, Int.emod_nonneg, ne_eq, Int.reduceEq, not_false_eq_true, not_true_eq_false, k1, k2, k3, k4, k5, k6, k7, k8, hkv, mul_one, mul_zero, mulOk_one, mulOk_zero, app_empty, empty_app]
      exact fun a ha => hZ a _ ⟨h1.trans (same_new ha), upd_same⟩
    · rintro a H2 ⟨h3, h4⟩
      exact ⟨SqL.of h4, ⟨v, rfl⟩, h3, h4⟩
    · rintro a i σ H2 _ ⟨_, _, h4⟩
      exact SqL.of h4
    · rintro a i x σ H2 hx ⟨⟨v, rfl⟩, h3, h4⟩
      rw [bl_rep (n := 2) hx]
      simp only [RDa, RDb, RDv, RDk, RDx, RDe, RDd, RDp, RDq, List.getElem?_cons_zero, List.getElem?_cons_succ, List.set_cons_zero, List.set_cons_succ, List.cons.injEq, List.cons_ne_nil, reduceCtorEq, exists_eq_left', exists_eq_left, exists_and_left, and_assoc, exists_const, true_and, and_true, if_true, if_false, false_and, and_false, exists_false, false_or, or_false, true_implies, false_implies, implies_true, forall_eq, forall_eq', Bool.false_eq_true, if_neg, decide_eq_true_eq, Bool.not_eq_true', decide_eq_false_iff_not, Bool.not_true, Bool.not_false, List.length_cons, List.length_nil, sizeLine_eq, Nat.reduceAdd, Nat.reduceLeDiff, Nat.reduceLT, Int.reduceLT, Int.reduceLE, Int.emod_nonneg, ne_eq, Int.reduceEq, not_false_eq_true, not_true_eq_false, k1, k2, k3, k4, k5, k6, k7, k8, hkv, mul_one, mul_zero, mulOk_one, mulOk_zero, app_empty, empty_app]
      exact ⟨hl, ⟨_, rfl⟩, h3, h4⟩
    rintro a2 σ H2 ⟨⟨v, rfl⟩, h3, h4⟩
    simp only [RDa, RDb, RDv, RDk, RDx, RDe, RDd, RDp, RDq, List.getElem?_cons_zero, List.getElem?_cons_succ, List.set_cons_zero, List.set_cons_succ, List.cons.injEq, List.cons_ne_nil, reduceCtorEq, exists_eq_left', exists_eq_left, exists_and_left, and_assoc, exists_const, true_and, and_true, if_true, if_false, false_and, and_false, exists_false, false_or, or_false, true_implies, false_implies, implies_true, forall_eq, forall_eq', Bool.false_eq_true, if_neg, decide_eq_true_eq, Bool.not_eq_true', decide_eq_false_iff_not, Bool.not_true, Bool.not_false, List.length_cons, List.length_nil, sizeLine_eq, Nat.reduceAdd, Nat.reduceLeDiff, Nat.reduceLT, Int.reduceLT, Int.reduceLE, Int.emod_nonneg, ne_eq, Int.reduceEq, not_false_eq_true, not_true_eq_false, k1, k2, k3, k4, k5, k6, k7, k8, hkv, mul_one, mul_zero, mulOk_one, mulOk_zero, app_empty, empty_app]
    exact q H2 h3
  · have hE := hEBadTexts
    have hkv := hkvBadTexts
    have k1 := hkfBadTexts ("BadBounds", false) (by decide)
    have k2 := hkfBadTexts ("BadRing", false) (by decide)
    have k3 := hkfBadTexts ("BadTexts", true) (by decide)
    have k4 := hkfBadTexts ("BadStep", false) (by decide)
    have k5 := hkfBadTexts ("NotNow", false) (by decide)
    have k6 := hkfBadTexts ("NoLetter", false) (by decide)
    have k7 := hkfBadTexts ("Safe", false) (by decide)
    have k8 := hkfBadTexts ("NoLine", false) (by decide)
    refine ⟨_, (pss_cons (ps_set (i := 1) sc__law_word.nd rfl (Or.inl rfl) (pe_op op_add_str (pe_op op_mul_str pe_str (pe_callTy call_int1 (by rfl) (bl.int) (by decide +kernel) (pa_cons (pe_callB (isE hE (a := p.1) (oe := p.2) List.mem_cons_self hz rfl rfl hfl) (by rfl) (bl.isi) (by decide +kernel) (pa_cons (pv 0) (pa_cons (pe_glob (v := .ref (He.ga K "BadBounds")) rfl e_BadBounds.g rfl) pa_nil))) pa_nil))) (pe_op op_mul_str pe_str (pe_callTy call_int1 (by rfl) (bl.int) (by decide +kernel) (pa_cons (pe_callB (isE hE (a := p.1) (oe := p.2) List.mem_cons_self hz rfl rfl hfl) (by rfl) (bl.isi) (by decide +kernel) (pa_cons (pv 0) (pa_cons (pe_glob (v := .ref (He.ga K "BadRing")) rfl e_BadRing.g rfl) pa_nil))) pa_nil)))))
  (pss_cons (ps_set (i := 1) sc__law_word.nd rfl (Or.inl rfl) (pe_op op_add_str (pv 1) (pe_op op_mul_str pe_str (pe_callTy call_int1 (by rfl) (bl.int) (by decide +kernel) (pa_cons (pe_callB (isE hE (a := p.1) (oe := p.2) List.mem_cons_self hz rfl rfl hfl) (by rfl) (bl.isi) (by decide +kernel) (pa_cons (pv 0) (pa_cons (pe_glob (v := .ref (He.ga K "BadTexts")) rfl e_BadTexts.g rfl) pa_nil))) pa_nil)))))
  (pss_cons (L2H.ps_forH (passes_of rfl) ⟨p, hot, List.mem_cons_self⟩ (pi_listH (pe_lst (pa_cons (pe_callB (isE hE (a := p.1) (oe := p.2) List.mem_cons_self hz rfl rfl hfl) (by rfl) (bl.isi) (by decide +kernel) (pa_cons (pv 0) (pa_cons (pe_glob (v := .ref (He.ga K "BadStep")) rfl e_BadStep.g rfl) pa_nil))) (pa_cons (pe_callB (isE hE (a := p.1) (oe := p.2) List.mem_cons_self hz rfl rfl hfl) (by rfl) (bl.isi) (by decide +kernel) (pa_cons (pv 0) (pa_cons (pe_glob (v := .ref (He.ga K "NotNow")) rfl e_NotNow.g rfl) pa_nil))) (pa_cons (pe_callB (isE hE (a := p.1) (oe := p.2) List.mem_cons_self hz rfl rfl hfl) (by rfl) (bl.isi) (by decide +kernel) (pa_cons (pv 0) (pa_cons (pe_glob (v := .ref (He.ga K "NoLetter")) rfl e_NoLetter.g rfl) pa_nil))) pa_nil))))) (pg_name (i := 2) sc__law_word.nd rfl (Or.inl rfl))
  (pss_one (ps_set (i := 1) sc__law_word.nd rfl (Or.inl rfl) (pe_op op_add_str (pv 1) (pe_op op_mul_str pe_str (pe_callTy call_int1 (by rfl) (bl.int) (by decide +kernel) (pa_cons (pv 2) pa_nil)))))))
  (pss_cons (L2H.ps_forH (passes_of rfl) ⟨p, hot, List.mem_cons_self⟩ (pi_listH (pe_lst (pa_cons (pe_callB (isE hE (a := p.1) (oe := p.2) List.mem_cons_self hz rfl rfl hfl) (by rfl) (bl.isi) (by decide +kernel) (pa_cons (pv 0) (pa_cons (pe_glob (v := .ref (He.ga K "Safe")) rfl e_Safe.g rfl) pa_nil))) (pa_cons (pe_callB (isE hE (a := p.1) (oe := p.2) List.mem_cons_self hz rfl rfl hfl) (by rfl) (bl.isi) (by decide +kernel) (pa_cons (pv 0) (pa_cons (pe_glob (v := .ref (He.ga K "NoLine")) rfl e_NoLine.g rfl) pa_nil))) pa_nil)))) (pg_name (i := 2) sc__law_word.nd rfl (Or.inl rfl))
  (pss_one (ps_set (i := 1) sc__law_word.nd rfl (Or.inl rfl) (pe_op op_add_str (pv 1) (pe_op op_mul_str pe_str (pe_callTy call_int1 (by rfl) (bl.int) (by decide +kernel) (pa_cons (pv 2) pa_nil)))))))
  (pss_one (ps_ret (pe_op op_mul_str (pv 1) (pe_callTy call_int1 (by rfl) (bl.int) (by decide +kernel) (pa_cons (pe_callB (isE hE (a := p.1) (oe := p.2) List.mem_cons_self hz rfl rfl hfl) (by rfl) (bl.isi) (by decide +kernel) (pa_cons (pv 0) (pa_cons (pe_bltn (v := .ty "ValueError") (u := .type "ValueError") rfl (bl.ValueError) (by decide +kernel) rfl) pa_nil))) pa_nil))))))))), ?_⟩
    walk_at "st0"
    simp only [RDa, RDb, RDv, RDk, RDx, RDe, RDd, RDp, RDq, List.getElem?_cons_zero, List.getElem?_cons_succ, List.set_cons_zero, List.set_cons_succ, List.cons.injEq, List.cons_ne_nil, reduceCtorEq, exists_eq_left', exists_eq_left, exists_and_left, and_assoc, exists_const, true_and, and_true, if_true, if_false, false_and, and_false, exists_false, false_or, or_false, true_implies, false_implies, implies_true, forall_eq, forall_eq', Bool.false_eq_true, if_neg, decide_eq_true_eq, Bool.not_eq_true', decide_eq_false_iff_not, Bool.not_true, Bool.not_false, List.length_cons, List.length_nil, sizeLine_eq, Nat.reduceAdd, Nat.reduceLeDiff, Nat.reduceLT, Int.reduceLT, Int.reduceLE, Int.emod_nonneg, ne_eq, Int.reduceEq, not_false_eq_true, not_true_eq_false, k1, k2, k3, k4, k5, k6, k7, k8, hkv, mul_one, mul_zero, mulOk_one, mulOk_zero, app_empty, empty_app]
    have hl : ("texts" : Str).length + Str.empty.length ≤ 16777216 := by decide +kernel
    refine ⟨by decide +kernel, by decide +kernel, ?_⟩
    refine for_lcut (fun a H2 => Same H H2 ∧ H2 a = some (.lst [.bl false, .bl false, .bl false])) [.bl false, .bl false, .bl false] (fun Z hZ => ?_)
      (fun a i σ H' => (∃ v, σ = [some (.ref p.1), some (.str "texts"), v]) ∧ Same H H' ∧ H' a = some (.lst [.bl false, .bl false, .bl false])) ?_ ?_ ?_ ?_
    · simp only [RDa, RDb, RDv, RDk, RDx, RDe, RDd, RDp, RDq, List.getElem?_cons_zero, List.getElem?_cons_succ, List.set_cons_zero, List.set_cons_succ, List.cons.injEq, List.cons_ne_nil, reduceCtorEq, exists_eq_left', exists_eq_left, exists_and_left, and_assoc, exists_const, true_and, and_true, if_true, if_false, false_and, and_false, exists_false, false_or, or_false, true_implies, false_implies, implies_true, forall_eq, forall_eq', Bool.false_eq_true, if_neg, decide_eq_true_eq, Bool.not_eq_true', decide_eq_false_iff_not, Bool.not_true, Bool.not_false, List.length_cons, List.length_nil, sizeLine_eq, Nat.reduceAdd, Nat.reduceLeDiff, Nat.reduceLT, Int.reduceLT, Int.reduceLE, Int.emod_nonneg, ne_eq, Int.reduceEq, not_false_eq_true, not_true_eq_false, k1, k2, k3, k4, k5, k6, k7, k8, hkv, mul_one, mul_zero, mulOk_one, mulOk_zero, app_empty, empty_app]
      exact fun a ha => hZ a _ ⟨same_new ha, upd_same⟩
    · rintro a H1 ⟨h1, h2⟩
      exact ⟨SqL.of h2, ⟨none, rfl⟩, h1, h2⟩
    · rintro a i σ H1 _ ⟨_, _, h2⟩
      exact SqL.of h2
    · rintro a i x σ H1 hx ⟨⟨v, rfl⟩, h1, h2⟩
      rw [bl_rep (n := 3) hx]
      simp only [RDa, RDb, RDv, RDk, RDx, RDe, RDd, RDp, RDq, List.getElem?_cons_zero, List.getElem?_cons_succ, List.set_cons_zero, List.set_cons_succ, List.cons.injEq, List.cons_ne_nil, reduceCtorEq, exists_eq_left', exists_eq_left, exists_and_left, and_assoc, exists_const, true_and, and_true, if_true, if_false, false_and, and_false, exists_false, false_or, or_false, true_implies, false_implies, implies_true, forall_eq, forall_eq', Bool.false_eq_true, if_neg, decide_eq_true_eq, Bool.not_eq_true', decide_eq_false_iff_not, Bool.not_true, Bool.not_false, List.length_cons, List.length_nil, sizeLine_eq, Nat.reduceAdd, Nat.reduceLeDiff, Nat.reduceLT, Int.reduceLT, Int.reduceLE, Int.emod_nonneg, ne_eq, Int.reduceEq, not_false_eq_true, not_true_eq_false, k1, k2, k3, k4, k5, k6, k7, k8, hkv, mul_one, mul_zero, mulOk_one, mulOk_zero, app_empty, empty_app]
      exact ⟨hl, ⟨_, rfl⟩, h1, h2⟩
    rintro a1 σ H1 ⟨⟨v, rfl⟩, h1, h2⟩
    dsimp only
    simp only [RDa]
    refine for_lcut (fun a H2 => Same H H2 ∧ H2 a = some (.lst [.bl false, .bl false])) [.bl false, .bl false] (fun Z hZ => ?_)
      (fun a i σ H' => (∃ v, σ = [some (.ref p.1), some (.str "texts"), v]) ∧ Same H H' ∧ H' a = some (.lst [.bl false, .bl false])) ?_ ?_ ?_ ?_
    · simp only [RDa, RDb, RDv, RDk, RDx, RDe, RDd, RDp, RDq, List.getElem?_cons_zero, List.getElem?_cons_succ, List.set_cons_zero, List.set_cons_succ, List.cons.injEq, List.cons_ne_nil, reduceCtorEq, exists_eq_left', exists_eq_left, exists_and_left, and_assoc, exists_const, true_and, and_true, if_true, if_false, false_and, and_false, exists_false, false_or, or_false, true_implies, false_implies, implies_true, forall_eq, forall_eq', Bool.false_eq_true, if_neg, decide_eq_true_eq, Bool.not_eq_true', decide_eq_false_iff_not, Bool.not_true, Bool.not_false, List.length_cons, List.length_nil, sizeLine_eq, Nat.reduceAdd, Nat.reduceLeDiff, Nat.reduceLT, Int.reduceLT, Int.reduceLE, Int.emod_nonneg, ne_eq, Int.reduceEq, not_false_eq_true, not_true_eq_false, k1, k2, k3, k4, k5, k6, k7, k8, hkv, mul_one, mul_zero, mulOk_one, mulOk_zero, app_empty, empty_app]
      exact fun a ha => hZ a _ ⟨h1.trans (same_new ha), upd_same⟩
    · rintro a H2 ⟨h3, h4⟩
      exact ⟨SqL.of h4, ⟨v, rfl⟩, h3, h4⟩
    · rintro a i σ H2 _ ⟨_, _, h4⟩
      exact SqL.of h4
    · rintro a i x σ H2 hx ⟨⟨v, rfl⟩, h3, h4⟩
      rw [bl_rep (n := 2) hx]
      simp only [RDa, RDb, RDv, RDk, RDx, RDe, RDd, RDp, RDq, List.getElem?_cons_zero, List.getElem?_cons_succ, List.set_cons_zero, List.set_cons_succ, List.cons.injEq, List.cons_ne_nil, reduceCtorEq, exists_eq_left', exists_eq_left, exists_and_left, and_assoc, exists_const, true_and, and_true, if_true, if_false, false_and, and_false, exists_false, false_or, or_false, true_implies, false_implies, implies_true, forall_eq, forall_eq', Bool.false_eq_true, if_neg, decide_eq_true_eq, Bool.not_eq_true', decide_eq_false_iff_not, Bool.not_true, Bool.not_false, List.length_cons, List.length_nil, sizeLine_eq, Nat.reduceAdd, Nat.reduceLeDiff, Nat.reduceLT, Int.reduceLT, Int.reduceLE, Int.emod_nonneg, ne_eq, Int.reduceEq, not_false_eq_true, not_true_eq_false, k1, k2, k3, k4, k5, k6, k7, k8, hkv, mul_one, mul_zero, mulOk_one, mulOk_zero, app_empty, empty_app]
      exact ⟨hl, ⟨_, rfl⟩, h3, h4⟩
    rintro a2 σ H2 ⟨⟨v, rfl⟩, h3, h4⟩
    simp only [RDa, RDb, RDv, RDk, RDx, RDe, RDd, RDp, RDq, List.getElem?_cons_zero, List.getElem?_cons_succ, List.set_cons_zero, List.set_cons_succ, List.cons.injEq, List.cons_ne_nil, reduceCtorEq, exists_eq_left', exists_eq_left, exists_and_left, and_assoc, exists_const, true_and, and_true, if_true, if_false, false_and, and_false, exists_false, false_or, or_false, true_implies, false_implies, implies_true, forall_eq, forall_eq', Bool.false_eq_true, if_neg, decide_eq_true_eq, Bool.not_eq_true', decide_eq_false_iff_not, Bool.not_true, Bool.not_false, List.length_cons, List.length_nil, sizeLine_eq, Nat.reduceAdd, Nat.reduceLeDiff, Nat.reduceLT, Int.reduceLT, Int.reduceLE, Int.emod_nonneg, ne_eq, Int.reduceEq, not_false_eq_true, not_true_eq_false, k1, k2, k3, k4, k5, k6, k7, k8, hkv, mul_one, mul_zero, mulOk_one, mulOk_zero, app_empty, empty_app]
    exact q H2 h3
end RP

namespace RP
open PySem PySem.Spec PyProof.Rows L2 L2H
abbrev s__law_said : Stmt := top 31
abbrev N__law_said : List Str := ["_law_which", "_law_thing", "_law_error"]
theorem sc__law_said : FnScope N__law_said ["_law_which", "_law_thing"] (defScope s__law_said) := ⟨rfl, rfl, rfl, by decide +kernel, rfl, by decide +kernel, by decide +kernel⟩
def leastV (H : Hp) (x : V) : Int := match x with
  | .ref a => match H a with
    | some (.tup [.int w, .int r, .int d, .int b]) => w + r + mx2 d b
    | _ => 0
  | _ => 0
def saidR (H : Hp) (c : Int) (x : V) : List V :=
  if c = 0 then (if boundsV H x = true then [.str "told", .non] else [.str "refused", .str "bounds"])
  else if c = 1 then (if amongV x 1 200 = true then [.str "told", .non] else [.str "refused", .str "ring"])
  else if c = 2 then (if textsV H x = true then [.str "told", .non] else [.str "refused", .str "texts"])
  else (if boundsV H x = true then [.str "told", .int (leastV H x)] else [.str "refused", .str "bounds"])
def sp__law_said (K : PySem.W.Frag) : Sp := fun vs H Q E => ∃ c : Int, ∃ x, vs = [.int c, x] ∧ KnI H x ∧ (∀ a xs z, x = .ref a → H a = some (.lst xs) → .str z ∈ xs → z.length ≤ 100000) ∧
  ∀ q H', Same H H' → H q = none → H' q = some (.tup (saidR H c x)) → Q (.ref q) H'
theorem ok__law_said {P : Program} {w : World} {K : PySem.W.Frag} {mg : Str → Option Value} {base : Heap} (F : FnP K ("_law_said", none) "_law_said" "_law_said" s__law_said) (hm : mg "_law_said" = some (.ref (He.ga K "_law_said"))) (bl : Blt mg) (c__law_word : CalE P w K mg base 1 "_law_word" (sp__law_word K)) (c_least_ring : Cal P w K mg base 4 "least_ring" (sp_least_ring K)) (c_need_bounds : Cal P w K mg base 3 "need_bounds" (sp_need_bounds K)) (c_need_ring : Cal P w K mg base 2 "need_ring" (sp_need_ring K)) (c_need_texts : Cal P w K mg base 2 "need_texts" (sp_need_texts K)) (e_PostError : ErrC K mg "PostError") (hx1 : PySem.W.exmOne K (.ref (He.ga K "BadBounds")) (.ref (He.ga K "PostError")) = some true) (hx2 : PySem.W.exmOne K (.ref (He.ga K "BadRing")) (.ref (He.ga K "PostError")) = some true) (hx3 : PySem.W.exmOne K (.ref (He.ga K "BadTexts")) (.ref (He.ga K "PostError")) = some true) : Cal P w K mg base 5 "_law_said" (sp__law_said K) := by
  refine fn_cal F hm sc__law_said (fun vs H Q E => by walk_at "len") (fun _ _ _ _ _ _ us hl => match us, hl with | [_, _], _ => rfl) (fun f cdv A outer s H vs Q E hr h => ?_)
  have hu := hu_of hr
  obtain ⟨c, x, rfl, hk, hz, q⟩ := h
  refine ⟨_, (pss_one (L2N.ps_try_as (i := 2) rfl rfl sc__law_said.nd rfl rfl ⟨rfl, by decide, .inl e_PostError.g⟩ (L2N.takes_of rfl rfl rfl rfl)
  (fun W pn xe tk po => (pss_cons (ps_if (pt_cmpR op_eq (pv 0) pe_int (nomark _))
  (pss_one (ps_ret (pe_tup (pa_cons pe_str (pa_cons (pe_fn c_need_bounds (hr.mono (by decide)) tk (pa_cons (pv 1) pa_nil)) pa_nil)))))
  pss_nil)
  (pss_cons (ps_if (pt_cmpR op_eq (pv 0) pe_int (nomark _))
  (pss_one (ps_ret (pe_tup (pa_cons pe_str (pa_cons (pe_fn c_need_ring (hr.mono (by decide)) tk (pa_cons (pv 1) pa_nil)) pa_nil)))))
  pss_nil)
  (pss_cons (ps_if (pt_cmpR op_eq (pv 0) pe_int (nomark _))
  (pss_one (ps_ret (pe_tup (pa_cons pe_str (pa_cons (pe_fn c_need_texts (hr.mono (by decide)) tk (pa_cons (pv 1) pa_nil)) pa_nil)))))
  pss_nil)
  (pss_one (ps_ret (pe_tup (pa_cons pe_str (pa_cons (pe_fn c_least_ring (hr.mono (by decide)) tk (pa_cons (pv 1) pa_nil)) pa_nil)))))))))
  (fun a oe cls d pn hz hf => (pss_one (ps_ret (pe_tup (pa_cons pe_str (pa_cons (by exact (pe_fnE c__law_word (roomS hr (by decide)) ⟨rfl, hf.elim fun vs e => ⟨vs, e, hz.2.2 vs e⟩⟩ hz List.mem_cons_self tkN (pa_cons (pv 2) pa_nil))) pa_nil)))))))), ?_⟩
  walk_at "st0"
  simp only [RDa, RDb, RDv, RDk, RDx, RDe, RDd, RDp, RDq, List.getElem?_cons_zero, List.getElem?_cons_succ, List.set_cons_zero, List.set_cons_succ, List.cons.injEq, List.cons_ne_nil, reduceCtorEq, exists_eq_left', exists_eq_left, exists_and_left, and_assoc, exists_const, true_and, and_true, if_true, if_false, false_and, and_false, exists_false, false_or, or_false, true_implies, false_implies, implies_true, forall_eq, forall_eq', Bool.false_eq_true, if_neg, decide_eq_true_eq, Bool.not_eq_true', decide_eq_false_iff_not, Bool.not_true, Bool.not_false, List.length_cons, List.length_nil, sizeLine_eq, Nat.reduceAdd, Nat.reduceLeDiff, Nat.reduceLT, Int.reduceLT, Int.reduceLE, Int.emod_nonneg, ne_eq, Int.reduceEq, not_false_eq_true, not_true_eq_false, hk, hk.1, sp_need_bounds, sp_need_ring, sp_need_texts, sp_least_ring, hx1, hx2, hx3]
  have wd : ∀ (D w' : Str) (W : XK), wordOf D w' → (∀ q H', Same H H' → H q = none → H' q = some (.tup [.str "refused", .str w']) → Q (.ref q) H') → ∀ a : Addr, H a = none → sp__law_word K a (.ref (He.ga K D)) none [V.ref a] H (fun x H1 => ∀ (p : Addr), H1 p = none → Q (V.ref p) (upd H1 p (HO.tup [V.str "refused", x]))) W :=
    fun D w' W hw q2 a na => ⟨D, w', rfl, rfl, hw, rfl, fun H' s p np => q2 p _ (s.trans (same_new np)) (s.free np) upd_same⟩
  have td : ∀ v : V, (∀ q H', Same H H' → H q = none → H' q = some (.tup [.str "told", v]) → Q (.ref q) H') → ∀ (p : Addr), H p = none → Q (V.ref p) (upd H p (HO.tup [V.str "told", v])) := fun v q2 p np => q2 p _ (same_new np) np upd_same
  unfold saidR at q
  by_cases c0 : c = 0
  · rw [if_pos c0] at q ⊢
    refine ⟨fun h => td _ ?_, fun h => wd "BadBounds" "bounds" _ (.inl ⟨rfl, rfl⟩) ?_⟩
    · rw [if_pos h] at q; exact q
    · rw [if_neg (by rw [h]; decide)] at q; exact q
  rw [if_neg c0] at q ⊢
  by_cases c1 : c = 1
  · rw [if_pos c1] at q ⊢
    refine ⟨fun h => td _ ?_, fun h => wd "BadRing" "ring" _ (.inr (.inl ⟨rfl, rfl⟩)) ?_⟩
    · rw [if_pos h] at q; exact q
    · rw [if_neg (by rw [h]; decide)] at q; exact q
  rw [if_neg c1] at q ⊢
  by_cases c2 : c = 2
  · rw [if_pos c2] at q ⊢
    refine ⟨hz, fun h => td _ ?_, fun h => wd "BadTexts" "texts" _ (.inr (.inr ⟨rfl, rfl⟩)) ?_⟩
    · rw [if_pos h] at q; exact q
    · rw [if_neg (by rw [h]; decide)] at q; exact q
  rw [if_neg c2] at q ⊢
  refine ⟨fun a w' r d b e ha h => td _ ?_, fun h => wd "BadBounds" "bounds" _ (.inl ⟨rfl, rfl⟩) ?_⟩
  · rw [if_pos h] at q
    subst e
    have el : leastV H (.ref a) = w' + r + mx2 d b := by unfold leastV; dsimp only; rw [ha]
    rw [el] at q
    exact q
  · rw [if_neg (by rw [h]; decide)] at q; exact q
end RP

namespace RP
open PySem PySem.Spec PyProof.Rows L2 L2H
theorem bnd4_int (a b c d : Int) : bnd4 [.int a, .int b, .int c, .int d] = decide (1 ≤ a ∧ a ≤ 20 ∧ 1 ≤ b ∧ b ≤ a ∧ 0 ≤ c ∧ c ≤ 20 ∧ 0 ≤ d ∧ d ≤ 20) := by
  show ((decide (1 ≤ a) && decide (a ≤ 20)) && (decide (1 ≤ b) && decide (b ≤ a)) && (decide (0 ≤ c) && decide (c ≤ 20)) && (decide (0 ≤ d) && decide (d ≤ 20))) = _
  rw [Bool.eq_iff_iff]
  simp only [Bool.and_eq_true, decide_eq_true_eq]
  omega
/-- no bounds, but a thing that may be handed in -/
def WG (H : Hp) (x : V) : Prop := KnI H x ∧ boundsV H x = false ∧ ∀ a xs z, x = .ref a → H a = some (.lst xs) → .str z ∈ xs → z.length ≤ 100000
theorem tyN_some {H H' : Hp} {a : Addr} (s : Same H H') (h : Kn H (.ref a)) : H' a = H a := by
  unfold Kn tyN at h
  dsimp only at h
  cases e : H a with
  | none => rw [e] at h; cases h
  | some o => exact s _ _ e
theorem WG.same {H H' : Hp} {x : V} (h : WG H x) (s : Same H H') : WG H' x := by
  obtain ⟨⟨k1, k2⟩, h2, h3⟩ := h
  refine ⟨⟨k1.same s, fun a xs e hs y hy => ?_⟩, ?_, fun a xs z e hs hz => ?_⟩
  · subst e
    have e := tyN_some s k1
    unfold seqO at hs
    rw [e] at hs
    exact (k2 a xs rfl hs y hy).same s
  · cases x with
    | ref a =>
      have e := tyN_some s k1
      unfold boundsV at h2 ⊢
      dsimp only at h2 ⊢
      rw [e]
      exact h2
    | _ => rfl
  · subst e
    rw [tyN_some s k1] at hs
    exact h3 a xs z rfl hs hz
theorem wg_tup {H : Hp} {q : Addr} {ys : List V} (h : H q = some (.tup ys)) (hk : ∀ y ∈ ys, Kn H y) (hb : bnd4 ys = false) : WG H (.ref q) := by
  refine ⟨⟨by unfold Kn; rw [tyN_tup h]; rfl, fun a xs e hs => ?_⟩, ?_, fun a xs z e hs => ?_⟩
  · cases e
    rw [seqO_tup h] at hs
    cases hs
    exact hk
  · unfold boundsV
    dsimp only
    rw [h]
    exact hb
  · cases e
    rw [h] at hs
    cases hs
theorem wg_lst {H : Hp} {q : Addr} {ns : List Int} (h : H q = some (.lst (ns.map V.int))) : WG H (.ref q) := by
  refine ⟨⟨by unfold Kn; rw [tyN_lst h]; rfl, fun a xs e hs y hy => ?_⟩, ?_, fun a xs z e hs hz => ?_⟩
  · cases e
    rw [seqO_lst h] at hs
    cases hs
    obtain ⟨n, _, rfl⟩ := List.mem_map.mp hy
    rfl
  · unfold boundsV
    dsimp only
    rw [h]
  · cases e
    rw [h] at hs
    cases hs
    obtain ⟨n, _, e⟩ := List.mem_map.mp hz
    cases e
theorem wg_dict {H : Hp} {q : Addr} (h : H q = some (.dK [])) : WG H (.ref q) := by
  refine ⟨⟨by unfold Kn; rw [tyN_dK h]; rfl, fun a xs e hs => ?_⟩, ?_, fun a xs z e hs => ?_⟩
  · cases e
    unfold seqO at hs
    rw [h] at hs
    cases hs
  · unfold boundsV
    dsimp only
    rw [h]
  · cases e
    rw [h] at hs
    cases hs
theorem wg_sc (H : Hp) : WG H .non ∧ (∀ n, WG H (.int n)) ∧ (∀ z, WG H (.str z)) := by
  refine ⟨⟨⟨rfl, fun a xs e => nomatch e⟩, rfl, fun a xs z e => nomatch e⟩, fun n => ⟨⟨rfl, fun a xs e => nomatch e⟩, rfl, fun a xs z e => nomatch e⟩, fun n => ⟨⟨rfl, fun a xs e => nomatch e⟩, rfl, fun a xs z e => nomatch e⟩⟩
abbrev s__law_wrong_bounds : Stmt := top 29
abbrev N__law_wrong_bounds : List Str := ["_law_cell", "_law_bounds_here", "_law_window", "_law_room", "_law_delay", "_law_back", "_law_some"]
theorem sc__law_wrong_bounds : FnScope N__law_wrong_bounds ["_law_cell", "_law_bounds_here"] (defScope s__law_wrong_bounds) := ⟨rfl, rfl, rfl, by decide +kernel, rfl, by decide +kernel, by decide +kernel⟩
def sp__law_wrong_bounds (K : PySem.W.Frag) : Sp := fun vs H Q E => ∃ c : Int, ∃ t w r d b, vs = [.int c, .ref t] ∧ H t = some (.tup [.int w, .int r, .int d, .int b]) ∧ 1 ≤ w ∧ w ≤ 20 ∧ 1 ≤ r ∧ r ≤ w ∧ 0 ≤ d ∧ d ≤ 20 ∧ 0 ≤ b ∧ b ≤ 20 ∧
  ∀ x H', Same H H' → KnI H' x → boundsV H' x = false → (∀ a xs z, x = .ref a → H' a = some (.lst xs) → .str z ∈ xs → z.length ≤ 100000) → Q x H'
theorem ok__law_wrong_bounds {P : Program} {w : World} {K : PySem.W.Frag} {mg : Str → Option Value} {base : Heap} (F : FnP K ("_law_wrong_bounds", none) "_law_wrong_bounds" "_law_wrong_bounds" s__law_wrong_bounds) (hm : mg "_law_wrong_bounds" = some (.ref (He.ga K "_law_wrong_bounds"))) (bl : Blt mg) : Cal P w K mg base 1 "_law_wrong_bounds" (sp__law_wrong_bounds K) := by
  refine fn_cal F hm sc__law_wrong_bounds (fun vs H Q E => by walk_at "len") (fun _ _ _ _ _ _ us hl => match us, hl with | [_, _], _ => rfl) (fun f cdv A outer s H vs Q E hr h => ?_)
  have hu := hu_of hr
  obtain ⟨c, t, w', r, d, b, rfl, ht, hw0, hw1, hr0, hr1, hd0, hd1, hb0, hb1, q⟩ := h
  refine ⟨_, (pss_cons (ps_asg (pv 1) (pg_tupC (n := 4) rfl (pgs_cons (pg_name (i := 2) sc__law_wrong_bounds.nd rfl (Or.inl rfl)) (pgs_cons (pg_name (i := 3) sc__law_wrong_bounds.nd rfl (Or.inl rfl)) (pgs_cons (pg_name (i := 4) sc__law_wrong_bounds.nd rfl (Or.inl rfl)) (pgs_cons (pg_name (i := 5) sc__law_wrong_bounds.nd rfl (Or.inl rfl)) pgs_nil))))))
  (pss_cons (ps_set (i := 6) sc__law_wrong_bounds.nd rfl (Or.inl rfl) (pe_lst (pa_cons (pe_tup (pa_cons pe_int (pa_cons pe_int (pa_cons (pv 4) (pa_cons (pv 5) pa_nil))))) (pa_cons (pe_tup (pa_cons pe_int (pa_cons (pv 3) (pa_cons (pv 4) (pa_cons (pv 5) pa_nil))))) (pa_cons (pe_tup (pa_cons (pv 2) (pa_cons (pe_op op_add (pv 2) pe_int) (pa_cons (pv 4) (pa_cons (pv 5) pa_nil))))) (pa_cons (pe_tup (pa_cons (pv 2) (pa_cons pe_int (pa_cons (pv 4) (pa_cons (pv 5) pa_nil))))) pa_nil))))))
  (pss_cons (ps_set (i := 6) sc__law_wrong_bounds.nd rfl (Or.inl rfl) (pe_op op_cat (pv 6) (pe_lst (pa_cons (pe_tup (pa_cons (pv 2) (pa_cons (pv 3) (pa_cons (pe_un un_neg pe_int) (pa_cons (pv 5) pa_nil))))) (pa_cons (pe_tup (pa_cons (pv 2) (pa_cons (pv 3) (pa_cons pe_int (pa_cons (pv 5) pa_nil))))) (pa_cons (pe_tup (pa_cons (pv 2) (pa_cons (pv 3) (pa_cons (pv 4) (pa_cons (pe_un un_neg pe_int) pa_nil))))) pa_nil))))))
  (pss_cons (ps_set (i := 6) sc__law_wrong_bounds.nd rfl (Or.inl rfl) (pe_op op_cat (pv 6) (pe_lst (pa_cons (pe_tup (pa_cons (pv 2) (pa_cons (pv 3) (pa_cons (pv 4) (pa_cons pe_int pa_nil))))) (pa_cons (pe_tup (pa_cons pe_bl (pa_cons pe_int (pa_cons (pv 4) (pa_cons (pv 5) pa_nil))))) (pa_cons (pe_tup (pa_cons (pv 2) (pa_cons pe_bl (pa_cons (pv 4) (pa_cons (pv 5) pa_nil))))) pa_nil))))))
  (pss_cons (ps_set (i := 6) sc__law_wrong_bounds.nd rfl (Or.inl rfl) (pe_op op_cat (pv 6) (pe_lst (pa_cons (pe_tup (pa_cons (pv 2) (pa_cons (pv 3) (pa_cons pe_bl (pa_cons (pv 5) pa_nil))))) (pa_cons (pe_tup (pa_cons (pv 2) (pa_cons (pv 3) (pa_cons (pv 4) (pa_cons pe_bl pa_nil))))) (pa_cons (pe_tup (pa_cons pe_str (pa_cons pe_int (pa_cons (pv 4) (pa_cons (pv 5) pa_nil))))) pa_nil))))))
  (pss_cons (ps_set (i := 6) sc__law_wrong_bounds.nd rfl (Or.inl rfl) (pe_op op_cat (pv 6) (pe_lst (pa_cons (pe_tup (pa_cons (pv 2) (pa_cons pe_str (pa_cons (pv 4) (pa_cons (pv 5) pa_nil))))) (pa_cons (pe_tup (pa_cons (pv 2) (pa_cons (pv 3) (pa_cons pe_non (pa_cons (pv 5) pa_nil))))) (pa_cons (pe_tup (pa_cons (pv 2) (pa_cons (pv 3) (pa_cons (pv 4) (pa_cons pe_str pa_nil))))) pa_nil))))))
  (pss_cons (ps_set (i := 6) sc__law_wrong_bounds.nd rfl (Or.inl rfl) (pe_op op_cat (pv 6) (pe_lst (pa_cons (pe_tup (pa_cons (pv 2) (pa_cons (pv 3) (pa_cons (pv 4) pa_nil)))) (pa_cons (pe_tup (pa_cons (pv 2) (pa_cons (pv 3) (pa_cons (pv 4) (pa_cons (pv 5) (pa_cons pe_int pa_nil)))))) (pa_cons (pe_lst (pa_cons (pv 2) (pa_cons (pv 3) (pa_cons (pv 4) (pa_cons (pv 5) pa_nil))))) (pa_cons pe_non (pa_cons (pv 2) (pa_cons (pe_tup pa_nil) pa_nil)))))))))
  (pss_cons (ps_set (i := 6) sc__law_wrong_bounds.nd rfl (Or.inl rfl) (pe_op op_cat (pv 6) (pe_lst (pa_cons pe_str (pa_cons pe_dnewK (pa_cons (pe_tup (pa_cons pe_non (pa_cons (pv 3) (pa_cons (pv 4) (pa_cons (pv 5) pa_nil))))) (pa_cons (pe_tup (pa_cons (pv 2) (pa_cons (pv 3) (pa_cons (pe_tup (pa_cons (pv 4) pa_nil)) (pa_cons (pv 5) pa_nil))))) pa_nil)))))))
  (pss_one (ps_ret (pe_ix ix_C (pv 6) (pe_op op_mod (pv 0) pe_int) (fun _ _ => rfl)))))))))))), ?_⟩
  walk_at "st0"
  refine seq_gen fun N_a h_a => ?_
  simp only [RDa, RDb, RDv, RDk, RDx, RDe, RDd, RDp, RDq, List.getElem?_cons_zero, List.getElem?_cons_succ, List.set_cons_zero, List.set_cons_succ, List.cons.injEq, List.cons_ne_nil, reduceCtorEq, exists_eq_left', exists_eq_left, exists_and_left, and_assoc, exists_const, true_and, and_true, if_true, if_false, false_and, and_false, exists_false, false_or, or_false, true_implies, false_implies, implies_true, forall_eq, forall_eq', Bool.false_eq_true, if_neg, decide_eq_true_eq, Bool.not_eq_true', decide_eq_false_iff_not, Bool.not_true, Bool.not_false, List.length_cons, List.length_nil, sizeLine_eq, Nat.reduceAdd, Nat.reduceLeDiff, Nat.reduceLT, Int.reduceLT, Int.reduceLE, Int.emod_nonneg, ne_eq, Int.reduceEq, not_false_eq_true, not_true_eq_false, ht]
  refine h_a _ _ ?_
  clear h_a
  refine seq_gen fun N_b h_b => ?_
  simp only [RDa, RDb, RDv, RDk, RDx, RDe, RDd, RDp, RDq, List.getElem?_cons_zero, List.getElem?_cons_succ, List.set_cons_zero, List.set_cons_succ, List.cons.injEq, List.cons_ne_nil, reduceCtorEq, exists_eq_left', exists_eq_left, exists_and_left, and_assoc, exists_const, true_and, and_true, if_true, if_false, false_and, and_false, exists_false, false_or, or_false, true_implies, false_implies, implies_true, forall_eq, forall_eq', Bool.false_eq_true, if_neg, decide_eq_true_eq, Bool.not_eq_true', decide_eq_false_iff_not, Bool.not_true, Bool.not_false, List.length_cons, List.length_nil, sizeLine_eq, Nat.reduceAdd, Nat.reduceLeDiff, Nat.reduceLT, Int.reduceLT, Int.reduceLE, Int.emod_nonneg, ne_eq, Int.reduceEq, not_false_eq_true, not_true_eq_false]
  intro q1 n_q1
  generalize e_H1 : upd H q1 (.tup [.int 0, .int 0, .int d, .int b]) = H1
  have a_H1 : H1 q1 = some (.tup [.int 0, .int 0, .int d, .int b]) := by rw [← e_H1]; exact upd_same
  have s_H1 : Same H H1 := by rw [← e_H1]; exact same_new n_q1
  intro q2 n_q2
  generalize e_H2 : upd H1 q2 (.tup [.int 21, .int r, .int d, .int b]) = H2
  have a_H2 : H2 q2 = some (.tup [.int 21, .int r, .int d, .int b]) := by rw [← e_H2]; exact upd_same
  have s_H2 : Same H1 H2 := by rw [← e_H2]; exact same_new n_q2
  intro q3 n_q3
  generalize e_H3 : upd H2 q3 (.tup [.int w', .int (w' + 1), .int d, .int b]) = H3
  have a_H3 : H3 q3 = some (.tup [.int w', .int (w' + 1), .int d, .int b]) := by rw [← e_H3]; exact upd_same
  have s_H3 : Same H2 H3 := by rw [← e_H3]; exact same_new n_q3
  intro q4 n_q4
  generalize e_H4 : upd H3 q4 (.tup [.int w', .int 0, .int d, .int b]) = H4
  have a_H4 : H4 q4 = some (.tup [.int w', .int 0, .int d, .int b]) := by rw [← e_H4]; exact upd_same
  have s_H4 : Same H3 H4 := by rw [← e_H4]; exact same_new n_q4
  intro q5 n_q5
  generalize e_H5 : upd H4 q5 (.lst [.ref q1, .ref q2, .ref q3, .ref q4]) = H5
  have a_H5 : H5 q5 = some (.lst [.ref q1, .ref q2, .ref q3, .ref q4]) := by rw [← e_H5]; exact upd_same
  have s_H5 : Same H4 H5 := by rw [← e_H5]; exact same_new n_q5
  have wg0 : ∀ y ∈ ([.ref q1, .ref q2, .ref q3, .ref q4] : List V), WG H5 y := by
    intro y hy
    simp only [List.mem_cons, List.not_mem_nil, or_false] at hy
    rcases hy with rfl | rfl | rfl | rfl
    · refine wg_tup ((((s_H2.trans s_H3).trans s_H4).trans s_H5) _ _ a_H1) (fun y hy => ?_) (by first | (rw [bnd4_int]; exact decide_eq_false (by omega)) | (simp [bnd4, amongV, intV]; done))
      simp only [List.mem_cons, List.not_mem_nil, or_false] at hy
      rcases hy with rfl | rfl | rfl | rfl <;> rfl
    · refine wg_tup (((s_H3.trans s_H4).trans s_H5) _ _ a_H2) (fun y hy => ?_) (by first | (rw [bnd4_int]; exact decide_eq_false (by omega)) | (simp [bnd4, amongV, intV]; done))
      simp only [List.mem_cons, List.not_mem_nil, or_false] at hy
      rcases hy with rfl | rfl | rfl | rfl <;> rfl
    · refine wg_tup ((s_H4.trans s_H5) _ _ a_H3) (fun y hy => ?_) (by first | (rw [bnd4_int]; exact decide_eq_false (by omega)) | (simp [bnd4, amongV, intV]; done))
      simp only [List.mem_cons, List.not_mem_nil, or_false] at hy
      rcases hy with rfl | rfl | rfl | rfl <;> rfl
    · refine wg_tup (s_H5 _ _ a_H4) (fun y hy => ?_) (by first | (rw [bnd4_int]; exact decide_eq_false (by omega)) | (simp [bnd4, amongV, intV]; done))
      simp only [List.mem_cons, List.not_mem_nil, or_false] at hy
      rcases hy with rfl | rfl | rfl | rfl <;> rfl
  refine h_b _ _ ?_
  clear h_b
  have hl0 := a_H5
  generalize exs0 : ([.ref q1, .ref q2, .ref q3, .ref q4] : List V) = xs0 at wg0 hl0
  have ln0 : xs0.length = 4 := by rw [← exs0]; rfl
  have wgA0 := wg0
  have sA0 : Same H H5 := ((((s_H1.trans s_H2).trans s_H3).trans s_H4).trans s_H5)
  clear wg0
  refine seq_gen fun N_c h_c => ?_
  simp only [RDa, RDb, RDv, RDk, RDx, RDe, RDd, RDp, RDq, List.getElem?_cons_zero, List.getElem?_cons_succ, List.set_cons_zero, List.set_cons_succ, List.cons.injEq, List.cons_ne_nil, reduceCtorEq, exists_eq_left', exists_eq_left, exists_and_left, and_assoc, exists_const, true_and, and_true, if_true, if_false, false_and, and_false, exists_false, false_or, or_false, true_implies, false_implies, implies_true, forall_eq, forall_eq', Bool.false_eq_true, if_neg, decide_eq_true_eq, Bool.not_eq_true', decide_eq_false_iff_not, Bool.not_true, Bool.not_false, List.length_cons, List.length_nil, sizeLine_eq, Nat.reduceAdd, Nat.reduceLeDiff, Nat.reduceLT, Int.reduceLT, Int.reduceLE, Int.emod_nonneg, ne_eq, Int.reduceEq, not_false_eq_true, not_true_eq_false, seqO_lst hl0]
  intro q6 n_q6
  generalize e_H6 : upd H5 q6 (.tup [.int w', .int r, .int (-1), .int b]) = H6
  have a_H6 : H6 q6 = some (.tup [.int w', .int r, .int (-1), .int b]) := by rw [← e_H6]; exact upd_same
  have s_H6 : Same H5 H6 := by rw [← e_H6]; exact same_new n_q6
  intro q7 n_q7
  generalize e_H7 : upd H6 q7 (.tup [.int w', .int r, .int 21, .int b]) = H7
  have a_H7 : H7 q7 = some (.tup [.int w', .int r, .int 21, .int b]) := by rw [← e_H7]; exact upd_same
  have s_H7 : Same H6 H7 := by rw [← e_H7]; exact same_new n_q7
  intro q8 n_q8
  generalize e_H8 : upd H7 q8 (.tup [.int w', .int r, .int d, .int (-1)]) = H8
  have a_H8 : H8 q8 = some (.tup [.int w', .int r, .int d, .int (-1)]) := by rw [← e_H8]; exact upd_same
  have s_H8 : Same H7 H8 := by rw [← e_H8]; exact same_new n_q8
  intro q9 n_q9
  generalize e_H9 : upd H8 q9 (.lst [.ref q6, .ref q7, .ref q8]) = H9
  have a_H9 : H9 q9 = some (.lst [.ref q6, .ref q7, .ref q8]) := by rw [← e_H9]; exact upd_same
  have s_H9 : Same H8 H9 := by rw [← e_H9]; exact same_new n_q9
  have wg1 : ∀ y ∈ ([.ref q6, .ref q7, .ref q8] : List V), WG H9 y := by
    intro y hy
    simp only [List.mem_cons, List.not_mem_nil, or_false] at hy
    rcases hy with rfl | rfl | rfl
    · refine wg_tup (((s_H7.trans s_H8).trans s_H9) _ _ a_H6) (fun y hy => ?_) (by first | (rw [bnd4_int]; exact decide_eq_false (by omega)) | (simp [bnd4, amongV, intV]; done))
      simp only [List.mem_cons, List.not_mem_nil, or_false] at hy
      rcases hy with rfl | rfl | rfl | rfl <;> rfl
    · refine wg_tup ((s_H8.trans s_H9) _ _ a_H7) (fun y hy => ?_) (by first | (rw [bnd4_int]; exact decide_eq_false (by omega)) | (simp [bnd4, amongV, intV]; done))
      simp only [List.mem_cons, List.not_mem_nil, or_false] at hy
      rcases hy with rfl | rfl | rfl | rfl <;> rfl
    · refine wg_tup (s_H9 _ _ a_H8) (fun y hy => ?_) (by first | (rw [bnd4_int]; exact decide_eq_false (by omega)) | (simp [bnd4, amongV, intV]; done))
      simp only [List.mem_cons, List.not_mem_nil, or_false] at hy
      rcases hy with rfl | rfl | rfl | rfl <;> rfl
  have hp1 := (((s_H6.trans s_H7).trans s_H8).trans s_H9) _ _ hl0
  simp only [RDa, RDb, RDv, RDk, RDx, RDe, RDd, RDp, RDq, List.getElem?_cons_zero, List.getElem?_cons_succ, List.set_cons_zero, List.set_cons_succ, List.cons.injEq, List.cons_ne_nil, reduceCtorEq, exists_eq_left', exists_eq_left, exists_and_left, and_assoc, exists_const, true_and, and_true, if_true, if_false, false_and, and_false, exists_false, false_or, or_false, true_implies, false_implies, implies_true, forall_eq, forall_eq', Bool.false_eq_true, if_neg, decide_eq_true_eq, Bool.not_eq_true', decide_eq_false_iff_not, Bool.not_true, Bool.not_false, List.length_cons, List.length_nil, sizeLine_eq, Nat.reduceAdd, Nat.reduceLeDiff, Nat.reduceLT, Int.reduceLT, Int.reduceLE, Int.emod_nonneg, ne_eq, Int.reduceEq, not_false_eq_true, not_true_eq_false, hp1, a_H9]
  refine ⟨by rw [ln0]; decide, ?_⟩
  intro q10 n_q10
  generalize e_H10 : upd H9 q10 (.lst (xs0 ++ [.ref q6, .ref q7, .ref q8])) = H10
  have a_H10 : H10 q10 = some (.lst (xs0 ++ [.ref q6, .ref q7, .ref q8])) := by rw [← e_H10]; exact upd_same
  have s_H10 : Same H9 H10 := by rw [← e_H10]; exact same_new n_q10
  refine h_c _ _ ?_
  clear h_c
  have wgA1 : ∀ y ∈ xs0 ++ ([.ref q6, .ref q7, .ref q8] : List V), WG H10 y := fun y hy => by
    rcases List.mem_append.mp hy with z | z
    · exact (wgA0 y z).same ((((s_H6.trans s_H7).trans s_H8).trans s_H9).trans s_H10)
    · exact (wg1 y z).same s_H10
  have ln1 : (xs0 ++ ([.ref q6, .ref q7, .ref q8] : List V)).length = 7 := by rw [List.length_append, ln0]; rfl
  have hl1 := a_H10
  generalize xs0 ++ ([.ref q6, .ref q7, .ref q8] : List V) = xs1 at wgA1 hl1 ln1
  have sA1 : Same H H10 := sA0.trans ((((s_H6.trans s_H7).trans s_H8).trans s_H9).trans s_H10)
  clear wg1
  refine seq_gen fun N_d h_d => ?_
  simp only [RDa, RDb, RDv, RDk, RDx, RDe, RDd, RDp, RDq, List.getElem?_cons_zero, List.getElem?_cons_succ, List.set_cons_zero, List.set_cons_succ, List.cons.injEq, List.cons_ne_nil, reduceCtorEq, exists_eq_left', exists_eq_left, exists_and_left, and_assoc, exists_const, true_and, and_true, if_true, if_false, false_and, and_false, exists_false, false_or, or_false, true_implies, false_implies, implies_true, forall_eq, forall_eq', Bool.false_eq_true, if_neg, decide_eq_true_eq, Bool.not_eq_true', decide_eq_false_iff_not, Bool.not_true, Bool.not_false, List.length_cons, List.length_nil, sizeLine_eq, Nat.reduceAdd, Nat.reduceLeDiff, Nat.reduceLT, Int.reduceLT, Int.reduceLE, Int.emod_nonneg, ne_eq, Int.reduceEq, not_false_eq_true, not_true_eq_false, seqO_lst hl1]
  intro q11 n_q11
  generalize e_H11 : upd H10 q11 (.tup [.int w', .int r, .int d, .int 21]) = H11
  have a_H11 : H11 q11 = some (.tup [.int w', .int r, .int d, .int 21]) := by rw [← e_H11]; exact upd_same
  have s_H11 : Same H10 H11 := by rw [← e_H11]; exact same_new n_q11
  intro q12 n_q12
  generalize e_H12 : upd H11 q12 (.tup [.bl true, .int 1, .int d, .int b]) = H12
  have a_H12 : H12 q12 = some (.tup [.bl true, .int 1, .int d, .int b]) := by rw [← e_H12]; exact upd_same
  have s_H12 : Same H11 H12 := by rw [← e_H12]; exact same_new n_q12
  intro q13 n_q13
  generalize e_H13 : upd H12 q13 (.tup [.int w', .bl true, .int d, .int b]) = H13
  have a_H13 : H13 q13 = some (.tup [.int w', .bl true, .int d, .int b]) := by rw [← e_H13]; exact upd_same
  have s_H13 : Same H12 H13 := by rw [← e_H13]; exact same_new n_q13
  intro q14 n_q14
  generalize e_H14 : upd H13 q14 (.lst [.ref q11, .ref q12, .ref q13]) = H14
  have a_H14 : H14 q14 = some (.lst [.ref q11, .ref q12, .ref q13]) := by rw [← e_H14]; exact upd_same
  have s_H14 : Same H13 H14 := by rw [← e_H14]; exact same_new n_q14
  have wg2 : ∀ y ∈ ([.ref q11, .ref q12, .ref q13] : List V), WG H14 y := by
    intro y hy
    simp only [List.mem_cons, List.not_mem_nil, or_false] at hy
    rcases hy with rfl | rfl | rfl
    · refine wg_tup (((s_H12.trans s_H13).trans s_H14) _ _ a_H11) (fun y hy => ?_) (by first | (rw [bnd4_int]; exact decide_eq_false (by omega)) | (simp [bnd4, amongV, intV]; done))
      simp only [List.mem_cons, List.not_mem_nil, or_false] at hy
      rcases hy with rfl | rfl | rfl | rfl <;> rfl
    · refine wg_tup ((s_H13.trans s_H14) _ _ a_H12) (fun y hy => ?_) (by first | (rw [bnd4_int]; exact decide_eq_false (by omega)) | (simp [bnd4, amongV, intV]; done))
      simp only [List.mem_cons, List.not_mem_nil, or_false] at hy
      rcases hy with rfl | rfl | rfl | rfl <;> rfl
    · refine wg_tup (s_H14 _ _ a_H13) (fun y hy => ?_) (by first | (rw [bnd4_int]; exact decide_eq_false (by omega)) | (simp [bnd4, amongV, intV]; done))
      simp only [List.mem_cons, List.not_mem_nil, or_false] at hy
      rcases hy with rfl | rfl | rfl | rfl <;> rfl
  have hp2 := (((s_H11.trans s_H12).trans s_H13).trans s_H14) _ _ hl1
  simp only [RDa, RDb, RDv, RDk, RDx, RDe, RDd, RDp, RDq, List.getElem?_cons_zero, List.getElem?_cons_succ, List.set_cons_zero, List.set_cons_succ, List.cons.injEq, List.cons_ne_nil, reduceCtorEq, exists_eq_left', exists_eq_left, exists_and_left, and_assoc, exists_const, true_and, and_true, if_true, if_false, false_and, and_false, exists_false, false_or, or_false, true_implies, false_implies, implies_true, forall_eq, forall_eq', Bool.false_eq_true, if_neg, decide_eq_true_eq, Bool.not_eq_true', decide_eq_false_iff_not, Bool.not_true, Bool.not_false, List.length_cons, List.length_nil, sizeLine_eq, Nat.reduceAdd, Nat.reduceLeDiff, Nat.reduceLT, Int.reduceLT, Int.reduceLE, Int.emod_nonneg, ne_eq, Int.reduceEq, not_false_eq_true, not_true_eq_false, hp2, a_H14]
  refine ⟨by rw [ln1]; decide, ?_⟩
  intro q15 n_q15
  generalize e_H15 : upd H14 q15 (.lst (xs1 ++ [.ref q11, .ref q12, .ref q13])) = H15
  have a_H15 : H15 q15 = some (.lst (xs1 ++ [.ref q11, .ref q12, .ref q13])) := by rw [← e_H15]; exact upd_same
  have s_H15 : Same H14 H15 := by rw [← e_H15]; exact same_new n_q15
  refine h_d _ _ ?_
  clear h_d
  have wgA2 : ∀ y ∈ xs1 ++ ([.ref q11, .ref q12, .ref q13] : List V), WG H15 y := fun y hy => by
    rcases List.mem_append.mp hy with z | z
    · exact (wgA1 y z).same ((((s_H11.trans s_H12).trans s_H13).trans s_H14).trans s_H15)
    · exact (wg2 y z).same s_H15
  have ln2 : (xs1 ++ ([.ref q11, .ref q12, .ref q13] : List V)).length = 10 := by rw [List.length_append, ln1]; rfl
  have hl2 := a_H15
  generalize xs1 ++ ([.ref q11, .ref q12, .ref q13] : List V) = xs2 at wgA2 hl2 ln2
  have sA2 : Same H H15 := sA1.trans ((((s_H11.trans s_H12).trans s_H13).trans s_H14).trans s_H15)
  clear wg2
  refine seq_gen fun N_e h_e => ?_
  simp only [RDa, RDb, RDv, RDk, RDx, RDe, RDd, RDp, RDq, List.getElem?_cons_zero, List.getElem?_cons_succ, List.set_cons_zero, List.set_cons_succ, List.cons.injEq, List.cons_ne_nil, reduceCtorEq, exists_eq_left', exists_eq_left, exists_and_left, and_assoc, exists_const, true_and, and_true, if_true, if_false, false_and, and_false, exists_false, false_or, or_false, true_implies, false_implies, implies_true, forall_eq, forall_eq', Bool.false_eq_true, if_neg, decide_eq_true_eq, Bool.not_eq_true', decide_eq_false_iff_not, Bool.not_true, Bool.not_false, List.length_cons, List.length_nil, sizeLine_eq, Nat.reduceAdd, Nat.reduceLeDiff, Nat.reduceLT, Int.reduceLT, Int.reduceLE, Int.emod_nonneg, ne_eq, Int.reduceEq, not_false_eq_true, not_true_eq_false, seqO_lst hl2]
  intro q16 n_q16
  generalize e_H16 : upd H15 q16 (.tup [.int w', .int r, .bl true, .int b]) = H16
  have a_H16 : H16 q16 = some (.tup [.int w', .int r, .bl true, .int b]) := by rw [← e_H16]; exact upd_same
  have s_H16 : Same H15 H16 := by rw [← e_H16]; exact same_new n_q16
  intro q17 n_q17
  generalize e_H17 : upd H16 q17 (.tup [.int w', .int r, .int d, .bl false]) = H17
  have a_H17 : H17 q17 = some (.tup [.int w', .int r, .int d, .bl false]) := by rw [← e_H17]; exact upd_same
  have s_H17 : Same H16 H17 := by rw [← e_H17]; exact same_new n_q17
  intro q18 n_q18
  generalize e_H18 : upd H17 q18 (.tup [.str "1", .int 1, .int d, .int b]) = H18
  have a_H18 : H18 q18 = some (.tup [.str "1", .int 1, .int d, .int b]) := by rw [← e_H18]; exact upd_same
  have s_H18 : Same H17 H18 := by rw [← e_H18]; exact same_new n_q18
  intro q19 n_q19
  generalize e_H19 : upd H18 q19 (.lst [.ref q16, .ref q17, .ref q18]) = H19
  have a_H19 : H19 q19 = some (.lst [.ref q16, .ref q17, .ref q18]) := by rw [← e_H19]; exact upd_same
  have s_H19 : Same H18 H19 := by rw [← e_H19]; exact same_new n_q19
  have wg3 : ∀ y ∈ ([.ref q16, .ref q17, .ref q18] : List V), WG H19 y := by
    intro y hy
    simp only [List.mem_cons, List.not_mem_nil, or_false] at hy
    rcases hy with rfl | rfl | rfl
    · refine wg_tup (((s_H17.trans s_H18).trans s_H19) _ _ a_H16) (fun y hy => ?_) (by first | (rw [bnd4_int]; exact decide_eq_false (by omega)) | (simp [bnd4, amongV, intV]; done))
      simp only [List.mem_cons, List.not_mem_nil, or_false] at hy
      rcases hy with rfl | rfl | rfl | rfl <;> rfl
    · refine wg_tup ((s_H18.trans s_H19) _ _ a_H17) (fun y hy => ?_) (by first | (rw [bnd4_int]; exact decide_eq_false (by omega)) | (simp [bnd4, amongV, intV]; done))
      simp only [List.mem_cons, List.not_mem_nil, or_false] at hy
      rcases hy with rfl | rfl | rfl | rfl <;> rfl
    · refine wg_tup (s_H19 _ _ a_H18) (fun y hy => ?_) (by first | (rw [bnd4_int]; exact decide_eq_false (by omega)) | (simp [bnd4, amongV, intV]; done))
      simp only [List.mem_cons, List.not_mem_nil, or_false] at hy
      rcases hy with rfl | rfl | rfl | rfl <;> rfl
  have hp3 := (((s_H16.trans s_H17).trans s_H18).trans s_H19) _ _ hl2
  simp only [RDa, RDb, RDv, RDk, RDx, RDe, RDd, RDp, RDq, List.getElem?_cons_zero, List.getElem?_cons_succ, List.set_cons_zero, List.set_cons_succ, List.cons.injEq, List.cons_ne_nil, reduceCtorEq, exists_eq_left', exists_eq_left, exists_and_left, and_assoc, exists_const, true_and, and_true, if_true, if_false, false_and, and_false, exists_false, false_or, or_false, true_implies, false_implies, implies_true, forall_eq, forall_eq', Bool.false_eq_true, if_neg, decide_eq_true_eq, Bool.not_eq_true', decide_eq_false_iff_not, Bool.not_true, Bool.not_false, List.length_cons, List.length_nil, sizeLine_eq, Nat.reduceAdd, Nat.reduceLeDiff, Nat.reduceLT, Int.reduceLT, Int.reduceLE, Int.emod_nonneg, ne_eq, Int.reduceEq, not_false_eq_true, not_true_eq_false, hp3, a_H19]
  refine ⟨by rw [ln2]; decide, ?_⟩
  intro q20 n_q20
  generalize e_H20 : upd H19 q20 (.lst (xs2 ++ [.ref q16, .ref q17, .ref q18])) = H20
  have a_H20 : H20 q20 = some (.lst (xs2 ++ [.ref q16, .ref q17, .ref q18])) := by rw [← e_H20]; exact upd_same
  have s_H20 : Same H19 H20 := by rw [← e_H20]; exact same_new n_q20
  refine h_e _ _ ?_
  clear h_e
  have wgA3 : ∀ y ∈ xs2 ++ ([.ref q16, .ref q17, .ref q18] : List V), WG H20 y := fun y hy => by
    rcases List.mem_append.mp hy with z | z
    · exact (wgA2 y z).same ((((s_H16.trans s_H17).trans s_H18).trans s_H19).trans s_H20)
    · exact (wg3 y z).same s_H20
  have ln3 : (xs2 ++ ([.ref q16, .ref q17, .ref q18] : List V)).length = 13 := by rw [List.length_append, ln2]; rfl
  have hl3 := a_H20
  generalize xs2 ++ ([.ref q16, .ref q17, .ref q18] : List V) = xs3 at wgA3 hl3 ln3
  have sA3 : Same H H20 := sA2.trans ((((s_H16.trans s_H17).trans s_H18).trans s_H19).trans s_H20)
  clear wg3
  refine seq_gen fun N_f h_f => ?_
  simp only [RDa, RDb, RDv, RDk, RDx, RDe, RDd, RDp, RDq, List.getElem?_cons_zero, List.getElem?_cons_succ, List.set_cons_zero, List.set_cons_succ, List.cons.injEq, List.cons_ne_nil, reduceCtorEq, exists_eq_left', exists_eq_left, exists_and_left, and_assoc, exists_const, true_and, and_true, if_true, if_false, false_and, and_false, exists_false, false_or, or_false, true_implies, false_implies, implies_true, forall_eq, forall_eq', Bool.false_eq_true, if_neg, decide_eq_true_eq, Bool.not_eq_true', decide_eq_false_iff_not, Bool.not_true, Bool.not_false, List.length_cons, List.length_nil, sizeLine_eq, Nat.reduceAdd, Nat.reduceLeDiff, Nat.reduceLT, Int.reduceLT, Int.reduceLE, Int.emod_nonneg, ne_eq, Int.reduceEq, not_false_eq_true, not_true_eq_false, seqO_lst hl3]
  intro q21 n_q21
  generalize e_H21 : upd H20 q21 (.tup [.int w', .str "1", .int d, .int b]) = H21
  have a_H21 : H21 q21 = some (.tup [.int w', .str "1", .int d, .int b]) := by rw [← e_H21]; exact upd_same
  have s_H21 : Same H20 H21 := by rw [← e_H21]; exact same_new n_q21
  intro q22 n_q22
  generalize e_H22 : upd H21 q22 (.tup [.int w', .int r, .non, .int b]) = H22
  have a_H22 : H22 q22 = some (.tup [.int w', .int r, .non, .int b]) := by rw [← e_H22]; exact upd_same
  have s_H22 : Same H21 H22 := by rw [← e_H22]; exact same_new n_q22
  intro q23 n_q23
  generalize e_H23 : upd H22 q23 (.tup [.int w', .int r, .int d, .str "0"]) = H23
  have a_H23 : H23 q23 = some (.tup [.int w', .int r, .int d, .str "0"]) := by rw [← e_H23]; exact upd_same
  have s_H23 : Same H22 H23 := by rw [← e_H23]; exact same_new n_q23
  intro q24 n_q24
  generalize e_H24 : upd H23 q24 (.lst [.ref q21, .ref q22, .ref q23]) = H24
  have a_H24 : H24 q24 = some (.lst [.ref q21, .ref q22, .ref q23]) := by rw [← e_H24]; exact upd_same
  have s_H24 : Same H23 H24 := by rw [← e_H24]; exact same_new n_q24
  have wg4 : ∀ y ∈ ([.ref q21, .ref q22, .ref q23] : List V), WG H24 y := by
    intro y hy
    simp only [List.mem_cons, List.not_mem_nil, or_false] at hy
    rcases hy with rfl | rfl | rfl
    · refine wg_tup (((s_H22.trans s_H23).trans s_H24) _ _ a_H21) (fun y hy => ?_) (by first | (rw [bnd4_int]; exact decide_eq_false (by omega)) | (simp [bnd4, amongV, intV]; done))
      simp only [List.mem_cons, List.not_mem_nil, or_false] at hy
      rcases hy with rfl | rfl | rfl | rfl <;> rfl
    · refine wg_tup ((s_H23.trans s_H24) _ _ a_H22) (fun y hy => ?_) (by first | (rw [bnd4_int]; exact decide_eq_false (by omega)) | (simp [bnd4, amongV, intV]; done))
      simp only [List.mem_cons, List.not_mem_nil, or_false] at hy
      rcases hy with rfl | rfl | rfl | rfl <;> rfl
    · refine wg_tup (s_H24 _ _ a_H23) (fun y hy => ?_) (by first | (rw [bnd4_int]; exact decide_eq_false (by omega)) | (simp [bnd4, amongV, intV]; done))
      simp only [List.mem_cons, List.not_mem_nil, or_false] at hy
      rcases hy with rfl | rfl | rfl | rfl <;> rfl
  have hp4 := (((s_H21.trans s_H22).trans s_H23).trans s_H24) _ _ hl3
  simp only [RDa, RDb, RDv, RDk, RDx, RDe, RDd, RDp, RDq, List.getElem?_cons_zero, List.getElem?_cons_succ, List.set_cons_zero, List.set_cons_succ, List.cons.injEq, List.cons_ne_nil, reduceCtorEq, exists_eq_left', exists_eq_left, exists_and_left, and_assoc, exists_const, true_and, and_true, if_true, if_false, false_and, and_false, exists_false, false_or, or_false, true_implies, false_implies, implies_true, forall_eq, forall_eq', Bool.false_eq_true, if_neg, decide_eq_true_eq, Bool.not_eq_true', decide_eq_false_iff_not, Bool.not_true, Bool.not_false, List.length_cons, List.length_nil, sizeLine_eq, Nat.reduceAdd, Nat.reduceLeDiff, Nat.reduceLT, Int.reduceLT, Int.reduceLE, Int.emod_nonneg, ne_eq, Int.reduceEq, not_false_eq_true, not_true_eq_false, hp4, a_H24]
  refine ⟨by rw [ln3]; decide, ?_⟩
  intro q25 n_q25
  generalize e_H25 : upd H24 q25 (.lst (xs3 ++ [.ref q21, .ref q22, .ref q23])) = H25
  have a_H25 : H25 q25 = some (.lst (xs3 ++ [.ref q21, .ref q22, .ref q23])) := by rw [← e_H25]; exact upd_same
  have s_H25 : Same H24 H25 := by rw [← e_H25]; exact same_new n_q25
  refine h_f _ _ ?_
  clear h_f
  have wgA4 : ∀ y ∈ xs3 ++ ([.ref q21, .ref q22, .ref q23] : List V), WG H25 y := fun y hy => by
    rcases List.mem_append.mp hy with z | z
    · exact (wgA3 y z).same ((((s_H21.trans s_H22).trans s_H23).trans s_H24).trans s_H25)
    · exact (wg4 y z).same s_H25
  have ln4 : (xs3 ++ ([.ref q21, .ref q22, .ref q23] : List V)).length = 16 := by rw [List.length_append, ln3]; rfl
  have hl4 := a_H25
  generalize xs3 ++ ([.ref q21, .ref q22, .ref q23] : List V) = xs4 at wgA4 hl4 ln4
  have sA4 : Same H H25 := sA3.trans ((((s_H21.trans s_H22).trans s_H23).trans s_H24).trans s_H25)
  clear wg4
  refine seq_gen fun N_g h_g => ?_
  simp only [RDa, RDb, RDv, RDk, RDx, RDe, RDd, RDp, RDq, List.getElem?_cons_zero, List.getElem?_cons_succ, List.set_cons_zero, List.set_cons_succ, List.cons.injEq, List.cons_ne_nil, reduceCtorEq, exists_eq_left', exists_eq_left, exists_and_left, and_assoc, exists_const, true_and, and_true, if_true, if_false, false_and, and_false, exists_false, false_or, or_false, true_implies, false_implies, implies_true, forall_eq, forall_eq', Bool.false_eq_true, if_neg, decide_eq_true_eq, Bool.not_eq_true', decide_eq_false_iff_not, Bool.not_true, Bool.not_false, List.length_cons, List.length_nil, sizeLine_eq, Nat.reduceAdd, Nat.reduceLeDiff, Nat.reduceLT, Int.reduceLT, Int.reduceLE, Int.emod_nonneg, ne_eq, Int.reduceEq, not_false_eq_true, not_true_eq_false, seqO_lst hl4]
  intro q26 n_q26
  generalize e_H26 : upd H25 q26 (.tup [.int w', .int r, .int d]) = H26
  have a_H26 : H26 q26 = some (.tup [.int w', .int r, .int d]) := by rw [← e_H26]; exact upd_same
  have s_H26 : Same H25 H26 := by rw [← e_H26]; exact same_new n_q26
  intro q27 n_q27
  generalize e_H27 : upd H26 q27 (.tup [.int w', .int r, .int d, .int b, .int 0]) = H27
  have a_H27 : H27 q27 = some (.tup [.int w', .int r, .int d, .int b, .int 0]) := by rw [← e_H27]; exact upd_same
  have s_H27 : Same H26 H27 := by rw [← e_H27]; exact same_new n_q27
  intro q28 n_q28
  generalize e_H28 : upd H27 q28 (.lst [.int w', .int r, .int d, .int b]) = H28
  have a_H28 : H28 q28 = some (.lst [.int w', .int r, .int d, .int b]) := by rw [← e_H28]; exact upd_same
  have s_H28 : Same H27 H28 := by rw [← e_H28]; exact same_new n_q28
  intro q29 n_q29
  generalize e_H29 : upd H28 q29 (.tup []) = H29
  have a_H29 : H29 q29 = some (.tup []) := by rw [← e_H29]; exact upd_same
  have s_H29 : Same H28 H29 := by rw [← e_H29]; exact same_new n_q29
  intro q30 n_q30
  generalize e_H30 : upd H29 q30 (.lst [.ref q26, .ref q27, .ref q28, .non, .int w', .ref q29]) = H30
  have a_H30 : H30 q30 = some (.lst [.ref q26, .ref q27, .ref q28, .non, .int w', .ref q29]) := by rw [← e_H30]; exact upd_same
  have s_H30 : Same H29 H30 := by rw [← e_H30]; exact same_new n_q30
  have wg5 : ∀ y ∈ ([.ref q26, .ref q27, .ref q28, .non, .int w', .ref q29] : List V), WG H30 y := by
    intro y hy
    simp only [List.mem_cons, List.not_mem_nil, or_false] at hy
    rcases hy with rfl | rfl | rfl | rfl | rfl | rfl
    · refine wg_tup ((((s_H27.trans s_H28).trans s_H29).trans s_H30) _ _ a_H26) (fun y hy => ?_) (by first | (rw [bnd4_int]; exact decide_eq_false (by omega)) | (simp [bnd4, amongV, intV]; done))
      simp only [List.mem_cons, List.not_mem_nil, or_false] at hy
      rcases hy with rfl | rfl | rfl <;> rfl
    · refine wg_tup (((s_H28.trans s_H29).trans s_H30) _ _ a_H27) (fun y hy => ?_) (by first | (rw [bnd4_int]; exact decide_eq_false (by omega)) | (simp [bnd4, amongV, intV]; done))
      simp only [List.mem_cons, List.not_mem_nil, or_false] at hy
      rcases hy with rfl | rfl | rfl | rfl | rfl <;> rfl
    · exact wg_lst (ns := [w', r, d, b]) ((s_H29.trans s_H30) _ _ a_H28)
    · exact (wg_sc _).1
    · exact (wg_sc _).2.1 _
    · refine wg_tup (s_H30 _ _ a_H29) (fun y hy => ?_) (by first | (rw [bnd4_int]; exact decide_eq_false (by omega)) | (simp [bnd4, amongV, intV]; done))
      cases hy
  have hp5 := ((((s_H26.trans s_H27).trans s_H28).trans s_H29).trans s_H30) _ _ hl4
  simp only [RDa, RDb, RDv, RDk, RDx, RDe, RDd, RDp, RDq, List.getElem?_cons_zero, List.getElem?_cons_succ, List.set_cons_zero, List.set_cons_succ, List.cons.injEq, List.cons_ne_nil, reduceCtorEq, exists_eq_left', exists_eq_left, exists_and_left, and_assoc, exists_const, true_and, and_true, if_true, if_false, false_and, and_false, exists_false, false_or, or_false, true_implies, false_implies, implies_true, forall_eq, forall_eq', Bool.false_eq_true, if_neg, decide_eq_true_eq, Bool.not_eq_true', decide_eq_false_iff_not, Bool.not_true, Bool.not_false, List.length_cons, List.length_nil, sizeLine_eq, Nat.reduceAdd, Nat.reduceLeDiff, Nat.reduceLT, Int.reduceLT, Int.reduceLE, Int.emod_nonneg, ne_eq, Int.reduceEq, not_false_eq_true, not_true_eq_false, hp5, a_H30]
  refine ⟨by rw [ln4]; decide, ?_⟩
  intro q31 n_q31
  generalize e_H31 : upd H30 q31 (.lst (xs4 ++ [.ref q26, .ref q27, .ref q28, .non, .int w', .ref q29])) = H31
  have a_H31 : H31 q31 = some (.lst (xs4 ++ [.ref q26, .ref q27, .ref q28, .non, .int w', .ref q29])) := by rw [← e_H31]; exact upd_same
  have s_H31 : Same H30 H31 := by rw [← e_H31]; exact same_new n_q31
  refine h_g _ _ ?_
  clear h_g
  have wgA5 : ∀ y ∈ xs4 ++ ([.ref q26, .ref q27, .ref q28, .non, .int w', .ref q29] : List V), WG H31 y := fun y hy => by
    rcases List.mem_append.mp hy with z | z
    · exact (wgA4 y z).same (((((s_H26.trans s_H27).trans s_H28).trans s_H29).trans s_H30).trans s_H31)
    · exact (wg5 y z).same s_H31
  have ln5 : (xs4 ++ ([.ref q26, .ref q27, .ref q28, .non, .int w', .ref q29] : List V)).length = 22 := by rw [List.length_append, ln4]; rfl
  have hl5 := a_H31
  generalize xs4 ++ ([.ref q26, .ref q27, .ref q28, .non, .int w', .ref q29] : List V) = xs5 at wgA5 hl5 ln5
  have sA5 : Same H H31 := sA4.trans (((((s_H26.trans s_H27).trans s_H28).trans s_H29).trans s_H30).trans s_H31)
  clear wg5
  refine seq_gen fun N_h h_h => ?_
  simp only [RDa, RDb, RDv, RDk, RDx, RDe, RDd, RDp, RDq, List.getElem?_cons_zero, List.getElem?_cons_succ, List.set_cons_zero, List.set_cons_succ, List.cons.injEq, List.cons_ne_nil, reduceCtorEq, exists_eq_left', exists_eq_left, exists_and_left, and_assoc, exists_const, true_and, and_true, if_true, if_false, false_and, and_false, exists_false, false_or, or_false, true_implies, false_implies, implies_true, forall_eq, forall_eq', Bool.false_eq_true, if_neg, decide_eq_true_eq, Bool.not_eq_true', decide_eq_false_iff_not, Bool.not_true, Bool.not_false, List.length_cons, List.length_nil, sizeLine_eq, Nat.reduceAdd, Nat.reduceLeDiff, Nat.reduceLT, Int.reduceLT, Int.reduceLE, Int.emod_nonneg, ne_eq, Int.reduceEq, not_false_eq_true, not_true_eq_false, seqO_lst hl5]
  intro q32 n_q32
  generalize e_H32 : upd H31 q32 (.dK []) = H32
  have a_H32 : H32 q32 = some (.dK []) := by rw [← e_H32]; exact upd_same
  have s_H32 : Same H31 H32 := by rw [← e_H32]; exact same_new n_q32
  intro q33 n_q33
  generalize e_H33 : upd H32 q33 (.tup [.non, .int r, .int d, .int b]) = H33
  have a_H33 : H33 q33 = some (.tup [.non, .int r, .int d, .int b]) := by rw [← e_H33]; exact upd_same
  have s_H33 : Same H32 H33 := by rw [← e_H33]; exact same_new n_q33
  intro q34 n_q34
  generalize e_H34 : upd H33 q34 (.tup [.int d]) = H34
  have a_H34 : H34 q34 = some (.tup [.int d]) := by rw [← e_H34]; exact upd_same
  have s_H34 : Same H33 H34 := by rw [← e_H34]; exact same_new n_q34
  intro q35 n_q35
  generalize e_H35 : upd H34 q35 (.tup [.int w', .int r, .ref q34, .int b]) = H35
  have a_H35 : H35 q35 = some (.tup [.int w', .int r, .ref q34, .int b]) := by rw [← e_H35]; exact upd_same
  have s_H35 : Same H34 H35 := by rw [← e_H35]; exact same_new n_q35
  intro q36 n_q36
  generalize e_H36 : upd H35 q36 (.lst [.str "abcd", .ref q32, .ref q33, .ref q35]) = H36
  have a_H36 : H36 q36 = some (.lst [.str "abcd", .ref q32, .ref q33, .ref q35]) := by rw [← e_H36]; exact upd_same
  have s_H36 : Same H35 H36 := by rw [← e_H36]; exact same_new n_q36
  have wg6 : ∀ y ∈ ([.str "abcd", .ref q32, .ref q33, .ref q35] : List V), WG H36 y := by
    intro y hy
    simp only [List.mem_cons, List.not_mem_nil, or_false] at hy
    rcases hy with rfl | rfl | rfl | rfl
    · exact (wg_sc _).2.2 _
    · exact wg_dict ((((s_H33.trans s_H34).trans s_H35).trans s_H36) _ _ a_H32)
    · refine wg_tup (((s_H34.trans s_H35).trans s_H36) _ _ a_H33) (fun y hy => ?_) (by first | (rw [bnd4_int]; exact decide_eq_false (by omega)) | (simp [bnd4, amongV, intV]; done))
      simp only [List.mem_cons, List.not_mem_nil, or_false] at hy
      rcases hy with rfl | rfl | rfl | rfl <;> rfl
    · refine wg_tup (s_H36 _ _ a_H35) (fun y hy => ?_) (by simp [bnd4, amongV, intV])
      simp only [List.mem_cons, List.not_mem_nil, or_false] at hy
      rcases hy with rfl | rfl | rfl | rfl
      · rfl
      · rfl
      · unfold Kn; rw [tyN_tup ((s_H35.trans s_H36) _ _ a_H34)]; rfl
      · rfl
  have hp6 := ((((s_H32.trans s_H33).trans s_H34).trans s_H35).trans s_H36) _ _ hl5
  simp only [RDa, RDb, RDv, RDk, RDx, RDe, RDd, RDp, RDq, List.getElem?_cons_zero, List.getElem?_cons_succ, List.set_cons_zero, List.set_cons_succ, List.cons.injEq, List.cons_ne_nil, reduceCtorEq, exists_eq_left', exists_eq_left, exists_and_left, and_assoc, exists_const, true_and, and_true, if_true, if_false, false_and, and_false, exists_false, false_or, or_false, true_implies, false_implies, implies_true, forall_eq, forall_eq', Bool.false_eq_true, if_neg, decide_eq_true_eq, Bool.not_eq_true', decide_eq_false_iff_not, Bool.not_true, Bool.not_false, List.length_cons, List.length_nil, sizeLine_eq, Nat.reduceAdd, Nat.reduceLeDiff, Nat.reduceLT, Int.reduceLT, Int.reduceLE, Int.emod_nonneg, ne_eq, Int.reduceEq, not_false_eq_true, not_true_eq_false, hp6, a_H36]
  refine ⟨by rw [ln5]; decide, ?_⟩
  intro q37 n_q37
  generalize e_H37 : upd H36 q37 (.lst (xs5 ++ [.str "abcd", .ref q32, .ref q33, .ref q35])) = H37
  have a_H37 : H37 q37 = some (.lst (xs5 ++ [.str "abcd", .ref q32, .ref q33, .ref q35])) := by rw [← e_H37]; exact upd_same
  have s_H37 : Same H36 H37 := by rw [← e_H37]; exact same_new n_q37
  refine h_h _ _ ?_
  clear h_h
  have wgA6 : ∀ y ∈ xs5 ++ ([.str "abcd", .ref q32, .ref q33, .ref q35] : List V), WG H37 y := fun y hy => by
    rcases List.mem_append.mp hy with z | z
    · exact (wgA5 y z).same (((((s_H32.trans s_H33).trans s_H34).trans s_H35).trans s_H36).trans s_H37)
    · exact (wg6 y z).same s_H37
  have ln6 : (xs5 ++ ([.str "abcd", .ref q32, .ref q33, .ref q35] : List V)).length = 26 := by rw [List.length_append, ln5]; rfl
  have hl6 := a_H37
  generalize xs5 ++ ([.str "abcd", .ref q32, .ref q33, .ref q35] : List V) = xs6 at wgA6 hl6 ln6
  have sA6 : Same H H37 := sA5.trans (((((s_H32.trans s_H33).trans s_H34).trans s_H35).trans s_H36).trans s_H37)
  clear wg6
  simp only [RDa, RDb, RDv, RDk, RDx, RDe, RDd, RDp, RDq, List.getElem?_cons_zero, List.getElem?_cons_succ, List.set_cons_zero, List.set_cons_succ, List.cons.injEq, List.cons_ne_nil, reduceCtorEq, exists_eq_left', exists_eq_left, exists_and_left, and_assoc, exists_const, true_and, and_true, if_true, if_false, false_and, and_false, exists_false, false_or, or_false, true_implies, false_implies, implies_true, forall_eq, forall_eq', Bool.false_eq_true, if_neg, decide_eq_true_eq, Bool.not_eq_true', decide_eq_false_iff_not, Bool.not_true, Bool.not_false, List.length_cons, List.length_nil, sizeLine_eq, Nat.reduceAdd, Nat.reduceLeDiff, Nat.reduceLT, Int.reduceLT, Int.reduceLE, Int.emod_nonneg, ne_eq, Int.reduceEq, not_false_eq_true, not_true_eq_false, seqO_lst hl6]
  have h26 := md_rng c (show (0 : Int) < 26 by decide)
  generalize c % 26 = j at h26
  have e3 : j.toNat < xs6.length := by omega
  have e5 := atI_nat (List.getElem?_eq_getElem e3)
  rw [show ((j.toNat : Nat) : Int) = j by omega] at e5
  refine ⟨_, e5, ?_⟩
  obtain ⟨g1, g2, g3⟩ := wgA6 _ (List.getElem_mem e3)
  exact q _ _ sA6 g1 g2 g3
end RP

namespace RP
open PySem PySem.Spec PyProof.Rows L2 L2H
abbrev s_law : Stmt := top 32
abbrev N_law : List Str := ["_law_script", "_law_bounds_here", "_law_told", "_law_window", "_law_room", "_law_delay", "_law_back", "_law_wrong", "_law_odd", "_law_texts_here", "_law_handed", "_law_at_here", "_law_part"]
theorem sc_law : FnScope N_law ["_law_script"] (defScope s_law) := ⟨rfl, rfl, rfl, by decide +kernel, rfl, by decide +kernel, by decide +kernel⟩
theorem saidR_eq (H : Hp) (x : V) : (boundsV H x = true → saidR H 0 x = [.str "told", .non] ∧ saidR H 3 x = [.str "told", .int (leastV H x)]) ∧ (boundsV H x = false → saidR H 0 x = [.str "refused", .str "bounds"] ∧ saidR H 3 x = [.str "refused", .str "bounds"]) ∧
    (amongV x 1 200 = true → saidR H 1 x = [.str "told", .non]) ∧ (amongV x 1 200 = false → saidR H 1 x = [.str "refused", .str "ring"]) ∧ (textsV H x = true → saidR H 2 x = [.str "told", .non]) ∧ (textsV H x = false → saidR H 2 x = [.str "refused", .str "texts"]) := by
  refine ⟨fun h => ⟨?_, ?_⟩, fun h => ⟨?_, ?_⟩, fun h => ?_, fun h => ?_, fun h => ?_, fun h => ?_⟩ <;> simp [saidR, h]
def NoStr (H : Hp) (x : V) : Prop := ∀ a xs z, x = .ref a → H a = some (.lst xs) → .str z ∈ xs → z.length ≤ 100000
/-- a thing that may be handed in, but is no list of texts -/
def BT (H : Hp) (x : V) : Prop := KnI H x ∧ NoStr H x ∧ textsV H x = false
theorem BT.at {H H' : Hp} {x : V} (h : BT H x) (s : ∀ a o, x = .ref a → H a = some o → H' a = some o) (s2 : ∀ a xs y, x = .ref a → seqO H a = some xs → y ∈ xs → Kn H y → Kn H' y) : BT H' x := by
  obtain ⟨⟨k1, k2⟩, h3, h2⟩ := h
  cases x with
  | ref a =>
    have e : H' a = H a := by
      unfold Kn tyN at k1
      dsimp only at k1
      cases e : H a with
      | none => rw [e] at k1; cases k1
      | some o => exact s a o rfl e
    refine ⟨⟨?_, fun a' xs e' hs y hy => ?_⟩, fun a' xs z e' hs hz => ?_, ?_⟩
    · unfold Kn tyN at k1 ⊢
      dsimp only at k1 ⊢
      rw [e]
      exact k1
    · cases e'
      unfold seqO at hs
      rw [e] at hs
      exact s2 a xs y rfl hs hy (k2 a xs rfl hs y hy)
    · cases e'
      rw [e] at hs
      exact h3 a xs z rfl hs hz
    · unfold textsV at h2 ⊢
      dsimp only at h2 ⊢
      rw [e]
      exact h2
  | _ => exact ⟨⟨k1, fun _ _ e => (nomatch e)⟩, fun _ _ _ e => (nomatch e), rfl⟩
theorem BT.same {H H' : Hp} {x : V} (h : BT H x) (s : Same H H') : BT H' x := h.at (fun a o _ e => s a o e) fun _ _ _ _ _ _ k => k.same s
theorem bt_lst {H : Hp} {q : Addr} {ys : List V} (h : H q = some (.lst ys)) (hk : ∀ y ∈ ys, (∃ z : Str, y = .str z ∧ z.length ≤ 100000) ∨ (∃ n, y = .int n) ∨ y = .non) (hb : ¬ ys.length ≤ 400 ∨ ∃ y ∈ ys, textV y = false) : BT H (.ref q) := by
  refine ⟨⟨by unfold Kn; rw [tyN_lst h]; rfl, fun a xs e hs y hy => ?_⟩, fun a xs z e hs hz => ?_, ?_⟩
  · cases e
    rw [seqO_lst h] at hs
    cases hs
    rcases hk y hy with ⟨z, rfl, _⟩ | ⟨n, rfl⟩ | rfl <;> rfl
  · cases e
    rw [h] at hs
    cases hs
    rcases hk _ hz with ⟨z', e, hl⟩ | ⟨n, e⟩ | e
    · cases e; exact hl
    · cases e
    · cases e
  · unfold textsV
    dsimp only
    rw [h]
    dsimp only
    rw [Bool.and_eq_false_iff]
    rcases hb with z | ⟨y, hy, z⟩
    · exact .inl (decide_eq_false z)
    · exact .inr (List.all_eq_false.mpr ⟨y, hy, by rw [z]; decide⟩)
theorem rep_flat (n : Nat) (x : V) : (List.replicate n [x]).flatten = List.replicate n x := by
  induction n with
  | zero => rfl
  | succ n ih => rw [List.replicate_succ, List.flatten_cons, ih]; rfl
def sp_law (K : PySem.W.Frag) : Sp := fun vs H Q E => ∃ (a : Addr) (ns : List Int), vs = [.ref a] ∧ SqL K H a (ns.map V.int) ∧ ∀ H', Q (.bl true) H'
theorem ok_law {P : Program} {w : World} {K : PySem.W.Frag} {mg : Str → Option Value} {base : Heap} {f0 : Addr} {fd : FuncData} (F : FunD K "law" "law" (defArgs s_law) (defBody s_law) (defScope s_law) [] [] f0 fd) (bl : Blt mg) (c__law_at : ∀ (a : Addr) (ns : List Int), Cal P w K mg base 1 "_law_at" (sp__law_at K a ns)) (c__law_bounds : ∀ (a : Addr) (ns : List Int), Cal P w K mg base 2 "_law_bounds" (sp__law_bounds K a ns)) (c__law_said : Cal P w K mg base 5 "_law_said" (sp__law_said K)) (c__law_texts : Cal P w K mg base 2 "_law_texts" (sp__law_texts K)) (c__law_whole : Cal P w K mg base 1 "_law_whole" (sp__law_whole K)) (c__law_wrong_bounds : Cal P w K mg base 1 "_law_wrong_bounds" (sp__law_wrong_bounds K)) : FnOk P w K mg base (L2N.CX P w) 6 f0 fd ["_law_script"] (sp_law K) := by
  refine fn_law F sc_law (fun vs H Q E => by walk_at "len") (fun f cdv A outer s H vs Q E hr h => ?_)
  have hu := hu_of hr
  obtain ⟨a, ns, rfl, hS, q⟩ := h
  have so : PyData.strOk "told" = true ∧ PyData.strOk "refused" = true ∧ PyData.strOk "bounds" = true ∧ PyData.strOk "ring" = true ∧ PyData.strOk "texts" = true := by decide +kernel
  have shN : SeqAt.shaped (.tuple [.str "told", .none]) = true := by decide +kernel
  have shB : SeqAt.shaped (.tuple [.str "refused", .str "bounds"]) = true := by decide +kernel
  have shR : SeqAt.shaped (.tuple [.str "refused", .str "ring"]) = true := by decide +kernel
  have shT : SeqAt.shaped (.tuple [.str "refused", .str "texts"]) = true := by decide +kernel
  have shI : ∀ n : Int, SeqAt.shaped (.tuple [.str "told", .int n]) = true := fun n => by simp [SeqAt.shaped, PyData.canLay0, PyData.canLayAll0, PyData.depth, PyData.depthAll, so]
  refine ⟨_, (pss_cons (ps_set (i := 1) sc_law.nd rfl (Or.inl rfl) (pe_fn (c__law_bounds a ns) (hr.mono (by decide)) (L2N.takes_of rfl rfl rfl rfl) (pa_cons (pv 0) pa_nil)))
  (pss_cons (ps_if (pt_cmp (pc_neT hr.units (pe_fn c__law_said (hr.mono (by decide)) (L2N.takes_of rfl rfl rfl rfl) (pa_cons pe_int (pa_cons (pv 1) pa_nil))) (pa_cons pe_str (pa_cons pe_non pa_nil))))
  (pss_one (ps_ret pe_bl))
  pss_nil)
  (pss_cons (ps_set (i := 2) sc_law.nd rfl (Or.inl rfl) (pe_fn c__law_said (hr.mono (by decide)) (L2N.takes_of rfl rfl rfl rfl) (pa_cons pe_int (pa_cons (pv 1) pa_nil))))
  (pss_cons (ps_asg (pv 1) (pg_tupC (n := 4) rfl (pgs_cons (pg_name (i := 3) sc_law.nd rfl (Or.inl rfl)) (pgs_cons (pg_name (i := 4) sc_law.nd rfl (Or.inl rfl)) (pgs_cons (pg_name (i := 5) sc_law.nd rfl (Or.inl rfl)) (pgs_cons (pg_name (i := 6) sc_law.nd rfl (Or.inl rfl)) pgs_nil))))))
  (pss_cons (ps_if (PW.pt (pw_or (pt_cmp (pc_neT hr.units (pv 2) (pa_cons pe_str (pa_cons (pe_op op_add (pe_op op_add (pv 3) (pv 4)) (pe_callB (call_max2 rfl) (by rfl) (bl.max) (by decide +kernel) (pa_cons (pv 5) (pa_cons (pv 6) pa_nil)))) pa_nil)))) (pw_or1 (pt_not (pt_val (pe_fn c__law_whole (hr.mono (by decide)) (L2N.takes_of rfl rfl rfl rfl) (pa_cons (pe_ix ix_C (pv 2) pe_int (fun _ _ => rfl)) pa_nil)))))))
  (pss_one (ps_ret pe_bl))
  pss_nil)
  (pss_cons (ps_set (i := 7) sc_law.nd rfl (Or.inl rfl) (pe_fn c__law_wrong_bounds (hr.mono (by decide)) (L2N.takes_of rfl rfl rfl rfl) (pa_cons (pe_fn (c__law_at a ns) (hr.mono (by decide)) (L2N.takes_of rfl rfl rfl rfl) (pa_cons (pv 0) (pa_cons pe_int pa_nil))) (pa_cons (pv 1) pa_nil))))
  (pss_cons (ps_if (PW.pt (pw_or (pt_cmp (pc_neT hr.units (pe_fn c__law_said (hr.mono (by decide)) (L2N.takes_of rfl rfl rfl rfl) (pa_cons pe_int (pa_cons (pv 7) pa_nil))) (pa_cons pe_str (pa_cons pe_str pa_nil)))) (pw_or1 (pt_cmp (pc_neT hr.units (pe_fn c__law_said (hr.mono (by decide)) (L2N.takes_of rfl rfl rfl rfl) (pa_cons pe_int (pa_cons (pv 7) pa_nil))) (pa_cons pe_str (pa_cons pe_str pa_nil)))))))
  (pss_one (ps_ret pe_bl))
  pss_nil)
  (pss_cons (ps_if (pt_cmp (pc_neT hr.units (pe_fn c__law_said (hr.mono (by decide)) (L2N.takes_of rfl rfl rfl rfl) (pa_cons pe_int (pa_cons (pe_op op_add pe_int (pe_op op_mod (pe_fn (c__law_at a ns) (hr.mono (by decide)) (L2N.takes_of rfl rfl rfl rfl) (pa_cons (pv 0) (pa_cons pe_int pa_nil))) pe_int)) pa_nil))) (pa_cons pe_str (pa_cons pe_non pa_nil))))
  (pss_one (ps_ret pe_bl))
  pss_nil)
  (pss_cons (ps_set (i := 8) sc_law.nd rfl (Or.inl rfl) (pe_pick (pa_cons pe_int (pa_cons pe_int (pa_cons (pe_un un_neg pe_int) (pa_cons pe_bl (pa_cons pe_non (pa_cons pe_str (pa_cons (pe_lst (pa_cons pe_int pa_nil)) (pa_cons (pe_tup (pa_cons pe_int pa_nil)) (pa_cons (pe_op op_pow pe_int pe_int) pa_nil))))))))) (pe_op op_mod (pe_fn (c__law_at a ns) (hr.mono (by decide)) (L2N.takes_of rfl rfl rfl rfl) (pa_cons (pv 0) (pa_cons pe_int pa_nil))) pe_int) (fun _ _ => rfl)))
  (pss_cons (ps_if (pt_cmp (pc_neT hr.units (pe_fn c__law_said (hr.mono (by decide)) (L2N.takes_of rfl rfl rfl rfl) (pa_cons pe_int (pa_cons (pv 8) pa_nil))) (pa_cons pe_str (pa_cons pe_str pa_nil))))
  (pss_one (ps_ret pe_bl))
  pss_nil)
  (pss_cons (ps_set (i := 9) sc_law.nd rfl (Or.inl rfl) (pe_fn c__law_texts (hr.mono (by decide)) (L2N.takes_of rfl rfl rfl rfl) (pa_cons (pe_fn (c__law_at a ns) (hr.mono (by decide)) (L2N.takes_of rfl rfl rfl rfl) (pa_cons (pv 0) (pa_cons pe_int pa_nil))) (pa_cons (pe_op op_mod (pe_fn (c__law_at a ns) (hr.mono (by decide)) (L2N.takes_of rfl rfl rfl rfl) (pa_cons (pv 0) (pa_cons pe_int pa_nil))) pe_int) (pa_cons pe_int pa_nil)))))
  (pss_cons (ps_set (i := 10) sc_law.nd rfl (Or.inl rfl) (pe_callTy call_listC (by rfl) (bl.list) (by decide +kernel) (pa_cons (pv 9) pa_nil)))
  (pss_cons (ps_if (PW.pt (pw_or (pt_cmp (pc_neT hr.units (pe_fn c__law_said (hr.mono (by decide)) (L2N.takes_of rfl rfl rfl rfl) (pa_cons pe_int (pa_cons (pv 10) pa_nil))) (pa_cons pe_str (pa_cons pe_non pa_nil)))) (pw_or1 (pt_cmpR (op_neC hr.units) (pv 10) (pv 9) (nomark _)))))
  (pss_one (ps_ret pe_bl))
  pss_nil)
  (pss_cons (ps_set (i := 11) sc_law.nd rfl (Or.inl rfl) (pe_op op_mod (pe_fn (c__law_at a ns) (hr.mono (by decide)) (L2N.takes_of rfl rfl rfl rfl) (pa_cons (pv 0) (pa_cons pe_int pa_nil))) (pe_op op_add (pe_callB call_lenC (by rfl) (bl.len) (by decide +kernel) (pa_cons (pv 9) pa_nil)) pe_int)))
  (pss_cons (ps_set (i := 8) sc_law.nd rfl (Or.inl rfl) (pe_lst (pa_cons (pe_callTy call_tupleC (by rfl) (bl.tuple) (by decide +kernel) (pa_cons (pv 9) pa_nil)) (pa_cons pe_non (pa_cons (pe_op op_rep (pe_lst (pa_cons pe_str pa_nil)) pe_int) (pa_cons pe_str pa_nil))))))
  (pss_cons (ps_for (passes_of rfl) rfl (pi_list (pe_lst (pa_cons pe_int (pa_cons (pe_op op_mul_str pe_str pe_int) (pa_cons pe_non pa_nil))))) (pg_name (i := 12) sc_law.nd rfl (Or.inl rfl))
  (pss_one (ps_expr (pe_app (pv 8) (pe_op op_cat (pe_op op_cat (pe_slice sl_list (pv 9) po_none (po_some (pv 11))) (pe_lst (pa_cons (pv 12) pa_nil))) (pe_slice sl_list (pv 9) (po_some (pv 11)) po_none))))))
  (pss_cons (ps_if (pt_cmp (pc_neT hr.units (pe_fn c__law_said (hr.mono (by decide)) (L2N.takes_of rfl rfl rfl rfl) (pa_cons pe_int (pa_cons (pe_op op_rep (pe_lst (pa_cons (pe_op op_mul_str pe_str pe_int) pa_nil)) pe_int) pa_nil))) (pa_cons pe_str (pa_cons pe_non pa_nil))))
  (pss_one (ps_ret pe_bl))
  pss_nil)
  (pss_one (ps_ret (pe_cmp (pc_eqT hr.units (pe_fn c__law_said (hr.mono (by decide)) (L2N.takes_of rfl rfl rfl rfl) (pa_cons pe_int (pa_cons (pe_ix ix_C (pv 8) (pe_op op_mod (pe_op op_fdiv (pe_fn (c__law_at a ns) (hr.mono (by decide)) (L2N.takes_of rfl rfl rfl rfl) (pa_cons (pv 0) (pa_cons pe_int pa_nil))) pe_int) pe_int) (fun _ _ => rfl)) pa_nil))) (pa_cons pe_str (pa_cons pe_str pa_nil))))))))))))))))))))))), ?_⟩
  walk_at "st0"
  refine seq_gen fun N_a h_a => ?_
  simp only [RDa, RDb, RDv, RDk, RDx, RDe, RDd, RDp, RDq, List.getElem?_cons_zero, List.getElem?_cons_succ, List.set_cons_zero, List.set_cons_succ, List.cons.injEq, List.cons_ne_nil, reduceCtorEq, exists_eq_left', exists_eq_left, exists_and_left, and_assoc, exists_const, true_and, and_true, if_true, if_false, false_and, and_false, exists_false, false_or, or_false, true_implies, false_implies, implies_true, forall_eq, forall_eq', Bool.false_eq_true, if_neg, decide_eq_true_eq, Bool.not_eq_true', decide_eq_false_iff_not, Bool.not_true, Bool.not_false, List.length_cons, List.length_nil, sizeLine_eq, Nat.reduceAdd, Nat.reduceLeDiff, Nat.reduceLT, Int.reduceLT, Int.reduceLE, Int.emod_nonneg, ne_eq, Int.reduceEq, not_false_eq_true, not_true_eq_false]
  refine ⟨rfl, hS, fun t H1 nt s1 ht => h_a _ _ ?_⟩
  clear h_a
  have ok := lb_ok (one := mixed (cell ns 0) 0) (two := mixed (cell ns 1) 1)
  generalize lbW (mixed (cell ns 0) 0) = w0 at ht ok
  generalize lbR (mixed (cell ns 0) 0) = r0 at ht ok
  generalize lbD (mixed (cell ns 1) 1) = d0 at ht ok
  generalize lbB (mixed (cell ns 1) 1) = b0 at ht ok
  have bt : ∀ H', Same H1 H' → boundsV H' (.ref t) = true := fun H' s => boundsV_of (s _ _ ht) ok
  have lt : ∀ H', Same H1 H' → leastV H' (.ref t) = w0 + r0 + mx2 d0 b0 := fun H' s => by unfold leastV; dsimp only; rw [s _ _ ht]
  have kt : ∀ H', Same H1 H' → KnI H' (.ref t) := fun H' s => KnI_ints (s _ _ ht)
  have nst : ∀ H', Same H1 H' → NoStr H' (.ref t) := fun H' s a' xs z e h => by cases e; rw [s _ _ ht] at h; cases h
  refine seq_rel (fun σ1 H2 => σ1 = [some (.ref a), some (.ref t), none, none, none, none, none, none, none, none, none, none, none] ∧ Same H1 H2) (fun N_b h_b => ?_) ?_
  · simp only [RDa, RDb, RDv, RDk, RDx, RDe, RDd, RDp, RDq, List.getElem?_cons_zero, List.getElem?_cons_succ, List.set_cons_zero, List.set_cons_succ, List.cons.injEq, List.cons_ne_nil, reduceCtorEq, exists_eq_left', exists_eq_left, exists_and_left, and_assoc, exists_const, true_and, and_true, if_true, if_false, false_and, and_false, exists_false, false_or, or_false, true_implies, false_implies, implies_true, forall_eq, forall_eq', Bool.false_eq_true, if_neg, decide_eq_true_eq, Bool.not_eq_true', decide_eq_false_iff_not, Bool.not_true, Bool.not_false, List.length_cons, List.length_nil, sizeLine_eq, Nat.reduceAdd, Nat.reduceLeDiff, Nat.reduceLT, Int.reduceLT, Int.reduceLE, Int.emod_nonneg, ne_eq, Int.reduceEq, not_false_eq_true, not_true_eq_false]
    refine ⟨0, _, rfl, kt _ (Same.refl _), nst _ (Same.refl _), fun q1 H2 s2 nq hq => ?_⟩
    rw [((saidR_eq _ _).1 (bt _ (Same.refl _))).1] at hq
    simp only [RDa, RDb, RDv, RDk, RDx, RDe, RDd, RDp, RDq, List.getElem?_cons_zero, List.getElem?_cons_succ, List.set_cons_zero, List.set_cons_succ, List.cons.injEq, List.cons_ne_nil, reduceCtorEq, exists_eq_left', exists_eq_left, exists_and_left, and_assoc, exists_const, true_and, and_true, if_true, if_false, false_and, and_false, exists_false, false_or, or_false, true_implies, false_implies, implies_true, forall_eq, forall_eq', Bool.false_eq_true, if_neg, decide_eq_true_eq, Bool.not_eq_true', decide_eq_false_iff_not, Bool.not_true, Bool.not_false, List.length_cons, List.length_nil, sizeLine_eq, Nat.reduceAdd, Nat.reduceLeDiff, Nat.reduceLT, Int.reduceLT, Int.reduceLE, Int.emod_nonneg, ne_eq, Int.reduceEq, not_false_eq_true, not_true_eq_false, dat_tup hq, shN, eqv_self, PyData.canLay0, PyData.canLayAll0, Bool.and_self, so]
    exact h_b _ _ ⟨rfl, s2⟩
  rintro _ H2 ⟨rfl, s2⟩
  refine seq_gen fun N_c h_c => ?_
  simp only [RDa, RDb, RDv, RDk, RDx, RDe, RDd, RDp, RDq, List.getElem?_cons_zero, List.getElem?_cons_succ, List.set_cons_zero, List.set_cons_succ, List.cons.injEq, List.cons_ne_nil, reduceCtorEq, exists_eq_left', exists_eq_left, exists_and_left, and_assoc, exists_const, true_and, and_true, if_true, if_false, false_and, and_false, exists_false, false_or, or_false, true_implies, false_implies, implies_true, forall_eq, forall_eq', Bool.false_eq_true, if_neg, decide_eq_true_eq, Bool.not_eq_true', decide_eq_false_iff_not, Bool.not_true, Bool.not_false, List.length_cons, List.length_nil, sizeLine_eq, Nat.reduceAdd, Nat.reduceLeDiff, Nat.reduceLT, Int.reduceLT, Int.reduceLE, Int.emod_nonneg, ne_eq, Int.reduceEq, not_false_eq_true, not_true_eq_false]
  refine ⟨3, _, rfl, kt _ s2, nst _ s2, fun q1 H3 s3 nq hq => h_c _ _ ?_⟩
  clear h_c
  rw [((saidR_eq _ _).1 (bt _ s2)).2, lt _ s2] at hq
  have s13 := s2.trans s3
  have ht3 := s13 _ _ ht
  refine seq_gen fun N_d h_d => ?_
  simp only [RDa, RDb, RDv, RDk, RDx, RDe, RDd, RDp, RDq, List.getElem?_cons_zero, List.getElem?_cons_succ, List.set_cons_zero, List.set_cons_succ, List.cons.injEq, List.cons_ne_nil, reduceCtorEq, exists_eq_left', exists_eq_left, exists_and_left, and_assoc, exists_const, true_and, and_true, if_true, if_false, false_and, and_false, exists_false, false_or, or_false, true_implies, false_implies, implies_true, forall_eq, forall_eq', Bool.false_eq_true, if_neg, decide_eq_true_eq, Bool.not_eq_true', decide_eq_false_iff_not, Bool.not_true, Bool.not_false, List.length_cons, List.length_nil, sizeLine_eq, Nat.reduceAdd, Nat.reduceLeDiff, Nat.reduceLT, Int.reduceLT, Int.reduceLE, Int.emod_nonneg, ne_eq, Int.reduceEq, not_false_eq_true, not_true_eq_false, ht3]
  refine h_d _ _ ?_
  clear h_d
  refine seq_rel (fun σ1 H2 => σ1 = [some (.ref a), some (.ref t), some (.ref q1), some (.int w0), some (.int r0), some (.int d0), some (.int b0), none, none, none, none, none, none] ∧ Same H3 H2) (fun N_e h_e => ?_) ?_
  · have kn : ∀ H' n, Kn H' (.int n) := fun _ _ => rfl
    have em : ∀ i j : Int, (if j > i then j else i) = mx2 i j := fun _ _ => rfl
    simp only [RDa, RDb, RDv, RDk, RDx, RDe, RDd, RDp, RDq, List.getElem?_cons_zero, List.getElem?_cons_succ, List.set_cons_zero, List.set_cons_succ, List.cons.injEq, List.cons_ne_nil, reduceCtorEq, exists_eq_left', exists_eq_left, exists_and_left, and_assoc, exists_const, true_and, and_true, if_true, if_false, false_and, and_false, exists_false, false_or, or_false, true_implies, false_implies, implies_true, forall_eq, forall_eq', Bool.false_eq_true, if_neg, decide_eq_true_eq, Bool.not_eq_true', decide_eq_false_iff_not, Bool.not_true, Bool.not_false, List.length_cons, List.length_nil, sizeLine_eq, Nat.reduceAdd, Nat.reduceLeDiff, Nat.reduceLT, Int.reduceLT, Int.reduceLE, Int.emod_nonneg, ne_eq, Int.reduceEq, not_false_eq_true, not_true_eq_false, dat_tup hq, em, shI, eqv_self, PyData.canLay0, PyData.canLayAll0, Bool.and_self, so, seqO_tup hq, sp__law_whole, kn, wholeV]
    exact h_e _ _ ⟨rfl, Same.refl _⟩
  rintro _ H4 ⟨rfl, s4⟩
  have s14 := s13.trans s4
  refine seq_gen fun N_f h_f => ?_
  simp only [RDa, RDb, RDv, RDk, RDx, RDe, RDd, RDp, RDq, List.getElem?_cons_zero, List.getElem?_cons_succ, List.set_cons_zero, List.set_cons_succ, List.cons.injEq, List.cons_ne_nil, reduceCtorEq, exists_eq_left', exists_eq_left, exists_and_left, and_assoc, exists_const, true_and, and_true, if_true, if_false, false_and, and_false, exists_false, false_or, or_false, true_implies, false_implies, implies_true, forall_eq, forall_eq', Bool.false_eq_true, if_neg, decide_eq_true_eq, Bool.not_eq_true', decide_eq_false_iff_not, Bool.not_true, Bool.not_false, List.length_cons, List.length_nil, sizeLine_eq, Nat.reduceAdd, Nat.reduceLeDiff, Nat.reduceLT, Int.reduceLT, Int.reduceLE, Int.emod_nonneg, ne_eq, Int.reduceEq, not_false_eq_true, not_true_eq_false, sp__law_at, (s1.trans s14).seq hS]
  refine ⟨cell ns 2, t, w0, r0, d0, b0, rfl, s14 _ _ ht, ok.1, ok.2.1, ok.2.2.1, ok.2.2.2.1, ok.2.2.2.2.1, ok.2.2.2.2.2.1, ok.2.2.2.2.2.2.1, ok.2.2.2.2.2.2.2, fun xw H5 s5 kw bw nw => h_f _ _ ?_⟩
  clear h_f
  have s15 := s14.trans s5
  refine seq_rel (fun σ1 H2 => σ1 = [some (.ref a), some (.ref t), some (.ref q1), some (.int w0), some (.int r0), some (.int d0), some (.int b0), some xw, none, none, none, none, none] ∧ Same H5 H2) (fun N_g h_g => ?_) ?_
  · simp only [RDa, RDb, RDv, RDk, RDx, RDe, RDd, RDp, RDq, List.getElem?_cons_zero, List.getElem?_cons_succ, List.set_cons_zero, List.set_cons_succ, List.cons.injEq, List.cons_ne_nil, reduceCtorEq, exists_eq_left', exists_eq_left, exists_and_left, and_assoc, exists_const, true_and, and_true, if_true, if_false, false_and, and_false, exists_false, false_or, or_false, true_implies, false_implies, implies_true, forall_eq, forall_eq', Bool.false_eq_true, if_neg, decide_eq_true_eq, Bool.not_eq_true', decide_eq_false_iff_not, Bool.not_true, Bool.not_false, List.length_cons, List.length_nil, sizeLine_eq, Nat.reduceAdd, Nat.reduceLeDiff, Nat.reduceLT, Int.reduceLT, Int.reduceLE, Int.emod_nonneg, ne_eq, Int.reduceEq, not_false_eq_true, not_true_eq_false]
    refine ⟨0, _, rfl, kw, nw, fun q2 H6 s6 nq2 hq2 => ?_⟩
    have g6 := (show WG H5 xw from ⟨kw, bw, nw⟩).same s6
    rw [((saidR_eq _ _).2.1 bw).1] at hq2
    simp only [RDa, RDb, RDv, RDk, RDx, RDe, RDd, RDp, RDq, List.getElem?_cons_zero, List.getElem?_cons_succ, List.set_cons_zero, List.set_cons_succ, List.cons.injEq, List.cons_ne_nil, reduceCtorEq, exists_eq_left', exists_eq_left, exists_and_left, and_assoc, exists_const, true_and, and_true, if_true, if_false, false_and, and_false, exists_false, false_or, or_false, true_implies, false_implies, implies_true, forall_eq, forall_eq', Bool.false_eq_true, if_neg, decide_eq_true_eq, Bool.not_eq_true', decide_eq_false_iff_not, Bool.not_true, Bool.not_false, List.length_cons, List.length_nil, sizeLine_eq, Nat.reduceAdd, Nat.reduceLeDiff, Nat.reduceLT, Int.reduceLT, Int.reduceLE, Int.emod_nonneg, ne_eq, Int.reduceEq, not_false_eq_true, not_true_eq_false, dat_tup hq2, shB, eqv_self, PyData.canLay0, PyData.canLayAll0, Bool.and_self, so]
    refine ⟨3, _, rfl, g6.1, g6.2.2, fun q3 H7 s7 nq3 hq3 => ?_⟩
    rw [((saidR_eq _ _).2.1 g6.2.1).2] at hq3
    simp only [RDa, RDb, RDv, RDk, RDx, RDe, RDd, RDp, RDq, List.getElem?_cons_zero, List.getElem?_cons_succ, List.set_cons_zero, List.set_cons_succ, List.cons.injEq, List.cons_ne_nil, reduceCtorEq, exists_eq_left', exists_eq_left, exists_and_left, and_assoc, exists_const, true_and, and_true, if_true, if_false, false_and, and_false, exists_false, false_or, or_false, true_implies, false_implies, implies_true, forall_eq, forall_eq', Bool.false_eq_true, if_neg, decide_eq_true_eq, Bool.not_eq_true', decide_eq_false_iff_not, Bool.not_true, Bool.not_false, List.length_cons, List.length_nil, sizeLine_eq, Nat.reduceAdd, Nat.reduceLeDiff, Nat.reduceLT, Int.reduceLT, Int.reduceLE, Int.emod_nonneg, ne_eq, Int.reduceEq, not_false_eq_true, not_true_eq_false, dat_tup hq3, shB, eqv_self, PyData.canLay0, PyData.canLayAll0, Bool.and_self, so]
    exact h_g _ _ ⟨rfl, s6.trans s7⟩
  rintro _ H6 ⟨rfl, s6⟩
  have s16 := s15.trans s6
  have hS6 := (s1.trans s16).seq hS
  have kni : ∀ H' n, KnI H' (.int n) := fun _ _ => ⟨rfl, fun _ _ e => nomatch e⟩
  have nsi : ∀ H' n, NoStr H' (.int n) := fun _ _ _ _ _ e => nomatch e
  refine seq_rel (fun σ1 H2 => σ1 = [some (.ref a), some (.ref t), some (.ref q1), some (.int w0), some (.int r0), some (.int d0), some (.int b0), some xw, none, none, none, none, none] ∧ Same H6 H2) (fun N_h h_h => ?_) ?_
  · simp only [RDa, RDb, RDv, RDk, RDx, RDe, RDd, RDp, RDq, List.getElem?_cons_zero, List.getElem?_cons_succ, List.set_cons_zero, List.set_cons_succ, List.cons.injEq, List.cons_ne_nil, reduceCtorEq, exists_eq_left', exists_eq_left, exists_and_left, and_assoc, exists_const, true_and, and_true, if_true, if_false, false_and, and_false, exists_false, false_or, or_false, true_implies, false_implies, implies_true, forall_eq, forall_eq', Bool.false_eq_true, if_neg, decide_eq_true_eq, Bool.not_eq_true', decide_eq_false_iff_not, Bool.not_true, Bool.not_false, List.length_cons, List.length_nil, sizeLine_eq, Nat.reduceAdd, Nat.reduceLeDiff, Nat.reduceLT, Int.reduceLT, Int.reduceLE, Int.emod_nonneg, ne_eq, Int.reduceEq, not_false_eq_true, not_true_eq_false, sp__law_at, hS6]
    refine ⟨1, _, rfl, kni _ _, nsi _ _, fun q2 H7 s7 nq2 hq2 => ?_⟩
    have am : amongV (.int (1 + cell ns 3 % 200)) 1 200 = true := by
      simp only [amongV, Bool.and_eq_true, decide_eq_true_eq]
      omega
    rw [(saidR_eq _ _).2.2.1 am] at hq2
    simp only [RDa, RDb, RDv, RDk, RDx, RDe, RDd, RDp, RDq, List.getElem?_cons_zero, List.getElem?_cons_succ, List.set_cons_zero, List.set_cons_succ, List.cons.injEq, List.cons_ne_nil, reduceCtorEq, exists_eq_left', exists_eq_left, exists_and_left, and_assoc, exists_const, true_and, and_true, if_true, if_false, false_and, and_false, exists_false, false_or, or_false, true_implies, false_implies, implies_true, forall_eq, forall_eq', Bool.false_eq_true, if_neg, decide_eq_true_eq, Bool.not_eq_true', decide_eq_false_iff_not, Bool.not_true, Bool.not_false, List.length_cons, List.length_nil, sizeLine_eq, Nat.reduceAdd, Nat.reduceLeDiff, Nat.reduceLT, Int.reduceLT, Int.reduceLE, Int.emod_nonneg, ne_eq, Int.reduceEq, not_false_eq_true, not_true_eq_false, dat_tup hq2, shN, eqv_self, PyData.canLay0, PyData.canLayAll0, Bool.and_self, so]
    exact h_h _ _ ⟨rfl, s7⟩
  rintro _ H7 ⟨rfl, s7⟩
  have s17 := s16.trans s7
  have hS7 := (s1.trans s17).seq hS
  refine seq_gen fun N_i h_i => ?_
  simp only [RDa, RDb, RDv, RDk, RDx, RDe, RDd, RDp, RDq, List.getElem?_cons_zero, List.getElem?_cons_succ, List.set_cons_zero, List.set_cons_succ, List.cons.injEq, List.cons_ne_nil, reduceCtorEq, exists_eq_left', exists_eq_left, exists_and_left, and_assoc, exists_const, true_and, and_true, if_true, if_false, false_and, and_false, exists_false, false_or, or_false, true_implies, false_implies, implies_true, forall_eq, forall_eq', Bool.false_eq_true, if_neg, decide_eq_true_eq, Bool.not_eq_true', decide_eq_false_iff_not, Bool.not_true, Bool.not_false, List.length_cons, List.length_nil, sizeLine_eq, Nat.reduceAdd, Nat.reduceLeDiff, Nat.reduceLT, Int.reduceLT, Int.reduceLE, Int.emod_nonneg, ne_eq, Int.reduceEq, not_false_eq_true, not_true_eq_false]
  intro l1 n_l1
  generalize e_H8 : upd H7 l1 (.lst [.int 5]) = H8
  have a_H8 : H8 l1 = some (.lst [.int 5]) := by rw [← e_H8]; exact upd_same
  have s_H8 : Same H7 H8 := by rw [← e_H8]; exact same_new n_l1
  intro l2 n_l2
  generalize e_H9 : upd H8 l2 (.tup [.int 5]) = H9
  have a_H9 : H9 l2 = some (.tup [.int 5]) := by rw [← e_H9]; exact upd_same
  have s_H9 : Same H8 H9 := by rw [← e_H9]; exact same_new n_l2
  have s79 := s_H8.trans s_H9
  have s19 := s17.trans s79
  have hS9 := (s1.trans s19).seq hS
  have g1 : WG H9 (.ref l1) := wg_lst (ns := [5]) (s_H9 _ _ a_H8)
  have g2 : WG H9 (.ref l2) := wg_tup a_H9 (fun y hy => by rw [List.mem_singleton.mp hy]; rfl) rfl
  have e10 : (10 : Int) ^ Int.toNat 30 = 1000000000000000000000000000000 := by decide
  refine ⟨by decide, 3, rfl, hS9, by decide, _, rfl, ?_⟩
  rw [e10]
  obtain ⟨x, hx, kx, nx, ax⟩ : ∃ x, atI [V.int 0, V.int 201, V.int (-1), V.bl true, V.non, V.str "5", V.ref l1, V.ref l2, V.int 1000000000000000000000000000000] (cell ns 3 % 9) = some x ∧ KnI H9 x ∧ NoStr H9 x ∧ amongV x 1 200 = false := by
    have h9 := md_rng (cell ns 3) (show (0 : Int) < 9 by decide)
    generalize cell ns 3 % 9 = j at h9
    have gi := (wg_sc H9).2.1
    have gs := (wg_sc H9).2.2
    have gn := (wg_sc H9).1
    rcases (show j = 0 ∨ j = 1 ∨ j = 2 ∨ j = 3 ∨ j = 4 ∨ j = 5 ∨ j = 6 ∨ j = 7 ∨ j = 8 by omega) with rfl | rfl | rfl | rfl | rfl | rfl | rfl | rfl | rfl
    · exact ⟨.int 0, rfl, (gi _).1, (gi _).2.2, by decide⟩
    · exact ⟨.int 201, rfl, (gi _).1, (gi _).2.2, by decide⟩
    · exact ⟨.int (-1), rfl, (gi _).1, (gi _).2.2, by decide⟩
    · exact ⟨.bl true, rfl, ⟨rfl, fun _ _ e => (nomatch e)⟩, fun _ _ _ e => (nomatch e), rfl⟩
    · exact ⟨.non, rfl, gn.1, gn.2.2, rfl⟩
    · exact ⟨.str "5", rfl, (gs _).1, (gs _).2.2, rfl⟩
    · exact ⟨.ref l1, rfl, g1.1, g1.2.2, rfl⟩
    · exact ⟨.ref l2, rfl, g2.1, g2.2.2, rfl⟩
    · exact ⟨.int 1000000000000000000000000000000, rfl, (gi _).1, (gi _).2.2, by decide⟩
  refine ⟨x, hx, h_i _ _ ?_⟩
  clear h_i
  refine seq_rel (fun σ1 H2 => σ1 = [some (.ref a), some (.ref t), some (.ref q1), some (.int w0), some (.int r0), some (.int d0), some (.int b0), some xw, some x, none, none, none, none] ∧ Same H9 H2) (fun N_j h_j => ?_) ?_
  · simp only [RDa, RDb, RDv, RDk, RDx, RDe, RDd, RDp, RDq, List.getElem?_cons_zero, List.getElem?_cons_succ, List.set_cons_zero, List.set_cons_succ, List.cons.injEq, List.cons_ne_nil, reduceCtorEq, exists_eq_left', exists_eq_left, exists_and_left, and_assoc, exists_const, true_and, and_true, if_true, if_false, false_and, and_false, exists_false, false_or, or_false, true_implies, false_implies, implies_true, forall_eq, forall_eq', Bool.false_eq_true, if_neg, decide_eq_true_eq, Bool.not_eq_true', decide_eq_false_iff_not, Bool.not_true, Bool.not_false, List.length_cons, List.length_nil, sizeLine_eq, Nat.reduceAdd, Nat.reduceLeDiff, Nat.reduceLT, Int.reduceLT, Int.reduceLE, Int.emod_nonneg, ne_eq, Int.reduceEq, not_false_eq_true, not_true_eq_false]
    refine ⟨1, _, rfl, kx, nx, fun q2 HA sA nq2 hq2 => ?_⟩
    rw [(saidR_eq _ _).2.2.2.1 ax] at hq2
    simp only [RDa, RDb, RDv, RDk, RDx, RDe, RDd, RDp, RDq, List.getElem?_cons_zero, List.getElem?_cons_succ, List.set_cons_zero, List.set_cons_succ, List.cons.injEq, List.cons_ne_nil, reduceCtorEq, exists_eq_left', exists_eq_left, exists_and_left, and_assoc, exists_const, true_and, and_true, if_true, if_false, false_and, and_false, exists_false, false_or, or_false, true_implies, false_implies, implies_true, forall_eq, forall_eq', Bool.false_eq_true, if_neg, decide_eq_true_eq, Bool.not_eq_true', decide_eq_false_iff_not, Bool.not_true, Bool.not_false, List.length_cons, List.length_nil, sizeLine_eq, Nat.reduceAdd, Nat.reduceLeDiff, Nat.reduceLT, Int.reduceLT, Int.reduceLE, Int.emod_nonneg, ne_eq, Int.reduceEq, not_false_eq_true, not_true_eq_false, dat_tup hq2, shR, eqv_self, PyData.canLay0, PyData.canLayAll0, Bool.and_self, so]
    exact h_j _ _ ⟨rfl, sA⟩
  rintro _ HA ⟨rfl, sA⟩
  have s1A := s19.trans sA
  have hSA := (s1.trans s1A).seq hS
  refine seq_gen fun N_k h_k => ?_
  simp only [RDa, RDb, RDv, RDk, RDx, RDe, RDd, RDp, RDq, List.getElem?_cons_zero, List.getElem?_cons_succ, List.set_cons_zero, List.set_cons_succ, List.cons.injEq, List.cons_ne_nil, reduceCtorEq, exists_eq_left', exists_eq_left, exists_and_left, and_assoc, exists_const, true_and, and_true, if_true, if_false, false_and, and_false, exists_false, false_or, or_false, true_implies, false_implies, implies_true, forall_eq, forall_eq', Bool.false_eq_true, if_neg, decide_eq_true_eq, Bool.not_eq_true', decide_eq_false_iff_not, Bool.not_true, Bool.not_false, List.length_cons, List.length_nil, sizeLine_eq, Nat.reduceAdd, Nat.reduceLeDiff, Nat.reduceLT, Int.reduceLT, Int.reduceLE, Int.emod_nonneg, ne_eq, Int.reduceEq, not_false_eq_true, not_true_eq_false, sp__law_at, sp__law_texts, hSA]
  refine ⟨by omega, fun tl HB nl sB hB => h_k _ _ ?_⟩
  clear h_k
  have htx : ∀ t ∈ lawTexts (mixed (cell ns 4) 5) 9 (cell ns 5 % 9).toNat, TxtOk 40 t := fun t ht => by
    obtain ⟨k, _, rfl⟩ := List.mem_map.mp ht
    exact lawTxt_40 (by decide) (by decide) k
  have hlt : (lawTexts (mixed (cell ns 4) 5) 9 (cell ns 5 % 9).toNat).length ≤ 8 := by
    unfold lawTexts
    rw [List.length_map, List.length_range]
    omega
  generalize lawTexts (mixed (cell ns 4) 5) 9 (cell ns 5 % 9).toNat = ts at hB htx hlt
  refine seq_gen fun N_l h_l => ?_
  simp only [RDa, RDb, RDv, RDk, RDx, RDe, RDd, RDp, RDq, List.getElem?_cons_zero, List.getElem?_cons_succ, List.set_cons_zero, List.set_cons_succ, List.cons.injEq, List.cons_ne_nil, reduceCtorEq, exists_eq_left', exists_eq_left, exists_and_left, and_assoc, exists_const, true_and, and_true, if_true, if_false, false_and, and_false, exists_false, false_or, or_false, true_implies, false_implies, implies_true, forall_eq, forall_eq', Bool.false_eq_true, if_neg, decide_eq_true_eq, Bool.not_eq_true', decide_eq_false_iff_not, Bool.not_true, Bool.not_false, List.length_cons, List.length_nil, sizeLine_eq, Nat.reduceAdd, Nat.reduceLeDiff, Nat.reduceLT, Int.reduceLT, Int.reduceLE, Int.emod_nonneg, ne_eq, Int.reduceEq, not_false_eq_true, not_true_eq_false, seqO_lst hB]
  intro hd n_hd
  generalize e_HC : upd HB hd (.lst (ts.map V.str)) = HC
  have a_HC : HC hd = some (.lst (ts.map V.str)) := by rw [← e_HC]; exact upd_same
  have s_HC : Same HB HC := by rw [← e_HC]; exact same_new n_hd
  refine h_l _ _ ?_
  clear h_l
  have kstr : ∀ (H' : Hp) (b : Addr) (ys : List Str), H' b = some (.lst (ys.map V.str)) → (∀ y ∈ ys, y.length ≤ 100) → KnI H' (.ref b) ∧ NoStr H' (.ref b) := fun H' b ys hb hy => by
    refine ⟨⟨by unfold Kn; rw [tyN_lst hb]; rfl, fun a' xs e hx y hy' => ?_⟩, fun a' xs z e hx hz => ?_⟩
    · cases e
      rw [seqO_lst hb] at hx
      cases hx
      obtain ⟨z, _, rfl⟩ := List.mem_map.mp hy'
      rfl
    · cases e
      rw [hb] at hx
      cases hx
      obtain ⟨z', hz', e⟩ := List.mem_map.mp hz
      cases e
      exact Nat.le_trans (hy _ hz') (by decide)
  have tstr : ∀ (H' : Hp) (b : Addr) (ys : List Str), H' b = some (.lst (ys.map V.str)) → ys.length ≤ 400 → (∀ y ∈ ys, y.length ≤ 40) → textsV H' (.ref b) = true := fun H' b ys hb hl hy => by
    unfold textsV
    dsimp only
    rw [hb]
    simp only [Bool.and_eq_true, decide_eq_true_eq, List.length_map, List.all_eq_true]
    refine ⟨hl, fun y hy' => ?_⟩
    obtain ⟨z, hz, rfl⟩ := List.mem_map.mp hy'
    exact decide_eq_true (hy z hz)
  have hl40 : ∀ y ∈ ts, y.length ≤ 40 := fun y hy => (htx y hy).2
  refine seq_rel (fun σ1 H2 => σ1 = [some (.ref a), some (.ref t), some (.ref q1), some (.int w0), some (.int r0), some (.int d0), some (.int b0), some xw, some x, some (.ref tl), some (.ref hd), none, none] ∧ Same HC H2) (fun N_m h_m => ?_) ?_
  · simp only [RDa, RDb, RDv, RDk, RDx, RDe, RDd, RDp, RDq, List.getElem?_cons_zero, List.getElem?_cons_succ, List.set_cons_zero, List.set_cons_succ, List.cons.injEq, List.cons_ne_nil, reduceCtorEq, exists_eq_left', exists_eq_left, exists_and_left, and_assoc, exists_const, true_and, and_true, if_true, if_false, false_and, and_false, exists_false, false_or, or_false, true_implies, false_implies, implies_true, forall_eq, forall_eq', Bool.false_eq_true, if_neg, decide_eq_true_eq, Bool.not_eq_true', decide_eq_false_iff_not, Bool.not_true, Bool.not_false, List.length_cons, List.length_nil, sizeLine_eq, Nat.reduceAdd, Nat.reduceLeDiff, Nat.reduceLT, Int.reduceLT, Int.reduceLE, Int.emod_nonneg, ne_eq, Int.reduceEq, not_false_eq_true, not_true_eq_false]
    refine ⟨2, _, rfl, (kstr _ _ ts a_HC fun y hy => Nat.le_trans (hl40 y hy) (by decide)).1, (kstr _ _ ts a_HC fun y hy => Nat.le_trans (hl40 y hy) (by decide)).2, fun q2 HD sD nq2 hq2 => ?_⟩
    rw [(saidR_eq _ _).2.2.2.2.1 (tstr _ _ ts a_HC (by omega) hl40)] at hq2
    have dl : dat HD 8 (.ref tl) = some (.list (ts.map PyData.str)) := by rw [dat_lst (sD _ _ (s_HC _ _ hB)) 7, dat_strs]; rfl
    have dh : dat HD 8 (.ref hd) = some (.list (ts.map PyData.str)) := by rw [dat_lst (sD _ _ a_HC) 7, dat_strs]; rfl
    have sh : Shp 1 (.list (ts.map PyData.str)) := shp_list fun d hd => by
      obtain ⟨z, hz, rfl⟩ := List.mem_map.mp hd
      exact shp_str (htx z hz)
    have sh2 := (sh.mono (show 1 ≤ 64 by decide)).ok
    simp only [RDa, RDb, RDv, RDk, RDx, RDe, RDd, RDp, RDq, List.getElem?_cons_zero, List.getElem?_cons_succ, List.set_cons_zero, List.set_cons_succ, List.cons.injEq, List.cons_ne_nil, reduceCtorEq, exists_eq_left', exists_eq_left, exists_and_left, and_assoc, exists_const, true_and, and_true, if_true, if_false, false_and, and_false, exists_false, false_or, or_false, true_implies, false_implies, implies_true, forall_eq, forall_eq', Bool.false_eq_true, if_neg, decide_eq_true_eq, Bool.not_eq_true', decide_eq_false_iff_not, Bool.not_true, Bool.not_false, List.length_cons, List.length_nil, sizeLine_eq, Nat.reduceAdd, Nat.reduceLeDiff, Nat.reduceLT, Int.reduceLT, Int.reduceLE, Int.emod_nonneg, ne_eq, Int.reduceEq, not_false_eq_true, not_true_eq_false, dat_tup hq2, shN, eqv_self, PyData.canLay0, PyData.canLayAll0, Bool.and_self, so]
    simp only [RDa, RDb, RDv, RDk, RDx, RDe, RDd, RDp, RDq, List.getElem?_cons_zero, List.getElem?_cons_succ, List.set_cons_zero, List.set_cons_succ, List.cons.injEq, List.cons_ne_nil, reduceCtorEq, exists_eq_left', exists_eq_left, exists_and_left, and_assoc, exists_const, true_and, and_true, if_true, if_false, false_and, and_false, exists_false, false_or, or_false, true_implies, false_implies, implies_true, forall_eq, forall_eq', Bool.false_eq_true, if_neg, decide_eq_true_eq, Bool.not_eq_true', decide_eq_false_iff_not, Bool.not_true, Bool.not_false, List.length_cons, List.length_nil, sizeLine_eq, Nat.reduceAdd, Nat.reduceLeDiff, Nat.reduceLT, Int.reduceLT, Int.reduceLE, Int.emod_nonneg, ne_eq, Int.reduceEq, not_false_eq_true, not_true_eq_false, dl, dh, sh2, eqv_self sh.lay]
    exact h_m _ _ ⟨rfl, sD⟩
  rintro _ HD ⟨rfl, sD⟩
  have s1D := ((s1A.trans sB).trans s_HC).trans sD
  have hSD := (s1.trans s1D).seq hS
  have htl := sD _ _ (s_HC _ _ hB)
  refine seq_gen fun N_n h_n => ?_
  simp only [RDa, RDb, RDv, RDk, RDx, RDe, RDd, RDp, RDq, List.getElem?_cons_zero, List.getElem?_cons_succ, List.set_cons_zero, List.set_cons_succ, List.cons.injEq, List.cons_ne_nil, reduceCtorEq, exists_eq_left', exists_eq_left, exists_and_left, and_assoc, exists_const, true_and, and_true, if_true, if_false, false_and, and_false, exists_false, false_or, or_false, true_implies, false_implies, implies_true, forall_eq, forall_eq', Bool.false_eq_true, if_neg, decide_eq_true_eq, Bool.not_eq_true', decide_eq_false_iff_not, Bool.not_true, Bool.not_false, List.length_cons, List.length_nil, sizeLine_eq, Nat.reduceAdd, Nat.reduceLeDiff, Nat.reduceLT, Int.reduceLT, Int.reduceLE, Int.emod_nonneg, ne_eq, Int.reduceEq, not_false_eq_true, not_true_eq_false, sp__law_at, hSD, lenO_lst htl]
  rw [List.length_map]
  refine ⟨by omega, h_n _ _ ?_⟩
  clear h_n
  generalize cell ns 6 % ((ts.length : Int) + 1) = ath
  have lA : ("a" : Str).length = 1 := by decide +kernel
  have mul41 : MulOk "a" 41 := ⟨by decide +kernel, fun _ _ => by decide +kernel, fun _ _ => by decide +kernel⟩
  have mul40 : MulOk "a" 40 := ⟨by decide +kernel, fun _ _ => by decide +kernel, fun _ _ => by decide +kernel⟩
  have l41 : (Txt.mul "a" 41).length = 41 := by decide +kernel
  have l40 : (Txt.mul "a" 40).length = 40 := by decide +kernel
  refine seq_gen fun N_o h_o => ?_
  simp only [RDa, RDb, RDv, RDk, RDx, RDe, RDd, RDp, RDq, List.getElem?_cons_zero, List.getElem?_cons_succ, List.set_cons_zero, List.set_cons_succ, List.cons.injEq, List.cons_ne_nil, reduceCtorEq, exists_eq_left', exists_eq_left, exists_and_left, and_assoc, exists_const, true_and, and_true, if_true, if_false, false_and, and_false, exists_false, false_or, or_false, true_implies, false_implies, implies_true, forall_eq, forall_eq', Bool.false_eq_true, if_neg, decide_eq_true_eq, Bool.not_eq_true', decide_eq_false_iff_not, Bool.not_true, Bool.not_false, List.length_cons, List.length_nil, sizeLine_eq, Nat.reduceAdd, Nat.reduceLeDiff, Nat.reduceLT, Int.reduceLT, Int.reduceLE, Int.emod_nonneg, ne_eq, Int.reduceEq, not_false_eq_true, not_true_eq_false, htl]
  intro m1 n_m1
  generalize e_HE : upd HD m1 (.tup (ts.map V.str)) = HE
  have a_HE : HE m1 = some (.tup (ts.map V.str)) := by rw [← e_HE]; exact upd_same
  have s_HE : Same HD HE := by rw [← e_HE]; exact same_new n_m1
  intro m2 n_m2
  generalize e_HF : upd HE m2 (.lst [.str "a"]) = HF
  have a_HF : HF m2 = some (.lst [.str "a"]) := by rw [← e_HF]; exact upd_same
  have s_HF : Same HE HF := by rw [← e_HF]; exact same_new n_m2
  refine ⟨_, a_HF, by decide, by decide, by decide, ?_⟩
  intro m3 n_m3
  generalize e_HG : upd HF m3 (.lst (List.replicate (Int.toNat 401) [V.str "a"]).flatten) = HG
  have a_HG : HG m3 = some (.lst (List.replicate (Int.toNat 401) [V.str "a"]).flatten) := by rw [← e_HG]; exact upd_same
  have s_HG : Same HF HG := by rw [← e_HG]; exact same_new n_m3
  intro od n_od
  generalize e_HH : upd HG od (.lst [.ref m1, .non, .ref m3, .str "ab"]) = HH
  have a_HH : HH od = some (.lst [.ref m1, .non, .ref m3, .str "ab"]) := by rw [← e_HH]; exact upd_same
  have s_HH : Same HG HH := by rw [← e_HH]; exact same_new n_od
  refine h_o _ _ ?_
  clear h_o
  have sDH : Same HD HH := ((s_HE.trans s_HF).trans s_HG).trans s_HH
  have b1 : BT HH (.ref m1) := by
    have e := s_HH _ _ (s_HG _ _ (s_HF _ _ a_HE))
    refine ⟨⟨by unfold Kn; rw [tyN_tup e]; rfl, fun a xs e' hs y hy => ?_⟩, fun a xs z e' hs hz => ?_, ?_⟩
    · cases e'
      rw [seqO_tup e] at hs
      cases hs
      obtain ⟨z, _, rfl⟩ := List.mem_map.mp hy
      rfl
    · cases e'
      rw [e] at hs
      cases hs
    · unfold textsV
      dsimp only
      rw [e]
  have b3 : BT HH (.ref m3) := by
    have e := s_HH _ _ a_HG
    rw [rep_flat] at e
    refine bt_lst e (fun y hy => .inl ⟨"a", List.eq_of_mem_replicate hy, by rw [lA]; decide⟩) (.inl ?_)
    rw [List.length_replicate]
    decide
  have wl : ∀ y ∈ ([.ref m1, .non, .ref m3, .str "ab"] : List V), BT HH y ∧ y ≠ .ref od := by
    have n1 : m1 ≠ od := ne_of_none (s_HG _ _ (s_HF _ _ a_HE)) n_od
    have n3 : m3 ≠ od := ne_of_none a_HG n_od
    intro y hy
    simp only [List.mem_cons, List.not_mem_nil, or_false] at hy
    rcases hy with rfl | rfl | rfl | rfl
    · exact ⟨b1, fun e => n1 (by cases e; rfl)⟩
    · exact ⟨⟨⟨rfl, fun _ _ e => (nomatch e)⟩, fun _ _ _ e => (nomatch e), rfl⟩, fun e => (nomatch e)⟩
    · exact ⟨b3, fun e => n3 (by cases e; rfl)⟩
    · exact ⟨⟨⟨rfl, fun _ _ e => (nomatch e)⟩, fun _ _ _ e => (nomatch e), rfl⟩, fun e => (nomatch e)⟩
  have todn : tl ≠ od := ne_of_none ((s_HE.trans (s_HF.trans s_HG)) _ _ htl) n_od
  have htlH := sDH _ _ htl
  refine seq_gen fun N_p h_p => ?_
  refine for_lcut (fun la H4 => Same HH H4 ∧ HH la = none ∧ H4 la = some (.lst [.int 5, .str (Txt.mul "a" 41), .non])) [.int 5, .str (Txt.mul "a" 41), .non] (fun Z hZ => ?_)
    (fun la i σ H' => (∃ u, σ = [some (.ref a), some (.ref t), some (.ref q1), some (.int w0), some (.int r0), some (.int d0), some (.int b0), some xw, some (.ref od), some (.ref tl), some (.ref hd), some (.int ath), u]) ∧ HH la = none ∧ H' la = some (.lst [.int 5, .str (Txt.mul "a" 41), .non]) ∧ Fr [od] HH H' ∧ ∃ os, H' od = some (.lst os) ∧ os.length = 4 + i ∧ ∀ y ∈ os, BT H' y ∧ y ≠ .ref od) ?_ ?_ ?_ ?_
  · simp only [RDa, RDb, RDv, RDk, RDx, RDe, RDd, RDp, RDq, List.getElem?_cons_zero, List.getElem?_cons_succ, List.set_cons_zero, List.set_cons_succ, List.cons.injEq, List.cons_ne_nil, reduceCtorEq, exists_eq_left', exists_eq_left, exists_and_left, and_assoc, exists_const, true_and, and_true, if_true, if_false, false_and, and_false, exists_false, false_or, or_false, true_implies, false_implies, implies_true, forall_eq, forall_eq', Bool.false_eq_true, if_neg, decide_eq_true_eq, Bool.not_eq_true', decide_eq_false_iff_not, Bool.not_true, Bool.not_false, List.length_cons, List.length_nil, sizeLine_eq, Nat.reduceAdd, Nat.reduceLeDiff, Nat.reduceLT, Int.reduceLT, Int.reduceLE, Int.emod_nonneg, ne_eq, Int.reduceEq, not_false_eq_true, not_true_eq_false]
    exact ⟨mul41, fun p np => hZ _ _ ⟨same_new np, np, upd_same⟩⟩
  · rintro la H4 ⟨s4, n4, h4⟩
    exact ⟨SqL.of h4, ⟨_, rfl⟩, n4, h4, .of s4, _, s4 _ _ a_HH, rfl, fun y hy => ⟨(wl y hy).1.same s4, (wl y hy).2⟩⟩
  · rintro la i σ H4 _ ⟨_, _, h4, _⟩
    exact SqL.of h4
  · rintro la i y σ H4 hy ⟨⟨u, rfl⟩, n4, h4, f4, os, ho, lo, wo⟩
    have tl4 := f4 _ _ (by simpa using todn) htlH
    have lod : la ≠ od := fun e => by rw [e, a_HH] at n4; cases n4
    simp only [RDa, RDb, RDv, RDk, RDx, RDe, RDd, RDp, RDq, List.getElem?_cons_zero, List.getElem?_cons_succ, List.set_cons_zero, List.set_cons_succ, List.cons.injEq, List.cons_ne_nil, reduceCtorEq, exists_eq_left', exists_eq_left, exists_and_left, and_assoc, exists_const, true_and, and_true, if_true, if_false, false_and, and_false, exists_false, false_or, or_false, true_implies, false_implies, implies_true, forall_eq, forall_eq', Bool.false_eq_true, if_neg, decide_eq_true_eq, Bool.not_eq_true', decide_eq_false_iff_not, Bool.not_true, Bool.not_false, List.length_cons, List.length_nil, sizeLine_eq, Nat.reduceAdd, Nat.reduceLeDiff, Nat.reduceLT, Int.reduceLT, Int.reduceLE, Int.emod_nonneg, ne_eq, Int.reduceEq, not_false_eq_true, not_true_eq_false, ho]
    have hy3 : textV y = false ∧ ((∃ z : Str, y = .str z ∧ z.length ≤ 100000) ∨ (∃ n, y = .int n) ∨ y = .non) := by
      have m := List.mem_of_getElem? hy
      simp only [List.mem_cons, List.not_mem_nil, or_false] at m
      rcases m with rfl | rfl | rfl
      · exact ⟨rfl, .inr (.inl ⟨_, rfl⟩)⟩
      · have e41 : textV (.str (Txt.mul "a" 41)) = decide ((Txt.mul "a" 41).length ≤ 40) := rfl
        exact ⟨by rw [e41, l41]; decide, .inl ⟨_, rfl, by rw [l41]; decide⟩⟩
      · exact ⟨rfl, .inr (.inr rfl)⟩
    have hi3 : i < 3 := (List.getElem?_eq_some_iff.mp hy).1
    have lc1 := cutV_length (ts.map V.str) none (some ath)
    have lc2 := cutV_length (ts.map V.str) (some ath) none
    rw [List.length_map] at lc1 lc2
    have mc : ∀ lo hi, ∀ v ∈ cutV (ts.map V.str) lo hi, ∃ z : Str, v = .str z ∧ z.length ≤ 100000 := fun lo hi v hv => by
      unfold cutV at hv
      obtain ⟨z, hz, rfl⟩ := List.mem_map.mp (List.mem_of_mem_drop (List.mem_of_mem_take hv))
      exact ⟨z, rfl, Nat.le_trans (hl40 z hz) (by decide)⟩
    refine ⟨_, SqL.of tl4, ?_⟩
    intro c1 n_c1
    generalize e_HI : upd H4 c1 (.lst (cutV (ts.map V.str) none (some ath))) = HI
    have a_HI : HI c1 = some (.lst (cutV (ts.map V.str) none (some ath))) := by rw [← e_HI]; exact upd_same
    have s_HI : Same H4 HI := by rw [← e_HI]; exact same_new n_c1
    intro c2 n_c2
    generalize e_HJ : upd HI c2 (.lst [y]) = HJ
    have a_HJ : HJ c2 = some (.lst [y]) := by rw [← e_HJ]; exact upd_same
    have s_HJ : Same HI HJ := by rw [← e_HJ]; exact same_new n_c2
    refine ⟨_, s_HJ _ _ a_HI, _, a_HJ, by rw [List.length_singleton]; omega, ?_⟩
    intro c3 n_c3
    generalize e_HK : upd HJ c3 (.lst (cutV (ts.map V.str) none (some ath) ++ [y])) = HK
    have a_HK : HK c3 = some (.lst (cutV (ts.map V.str) none (some ath) ++ [y])) := by rw [← e_HK]; exact upd_same
    have s_HK : Same HJ HK := by rw [← e_HK]; exact same_new n_c3
    refine ⟨_, SqL.of (s_HK _ _ (s_HJ _ _ (s_HI _ _ tl4))), ?_⟩
    intro c4 n_c4
    generalize e_HL : upd HK c4 (.lst (cutV (ts.map V.str) (some ath) none)) = HL
    have a_HL : HL c4 = some (.lst (cutV (ts.map V.str) (some ath) none)) := by rw [← e_HL]; exact upd_same
    have s_HL : Same HK HL := by rw [← e_HL]; exact same_new n_c4
    refine ⟨_, s_HL _ _ a_HK, _, a_HL, by rw [List.length_append, List.length_singleton]; omega, ?_⟩
    intro c5 n_c5
    generalize e_HM : upd HL c5 (.lst (cutV (ts.map V.str) none (some ath) ++ [y] ++ cutV (ts.map V.str) (some ath) none)) = HM
    have a_HM : HM c5 = some (.lst (cutV (ts.map V.str) none (some ath) ++ [y] ++ cutV (ts.map V.str) (some ath) none)) := by rw [← e_HM]; exact upd_same
    have s_HM : Same HL HM := by rw [← e_HM]; exact same_new n_c5
    have s4M : Same H4 HM := (((s_HI.trans s_HJ).trans s_HK).trans s_HL).trans s_HM
    have hoM := s4M _ _ ho
    have nod : c5 ≠ od := fun e => by
      have := (((s_HI.trans s_HJ).trans s_HK).trans s_HL) _ _ ho
      rw [← e, n_c5] at this
      cases this
    refine ⟨os, hoM, by omega, ⟨_, rfl⟩, ?_⟩
    have fM : Fr [od] HM (upd HM od (.lst (os ++ [V.ref c5]))) := (Fr.refl _ _).upd (by simp)
    have f4M : Fr [od] H4 (upd HM od (.lst (os ++ [V.ref c5]))) := (Fr.of s4M).trans fM
    have b5 : BT HM (.ref c5) := bt_lst a_HM (fun v hv => by
      rcases List.mem_append.mp hv with h | h
      · rcases List.mem_append.mp h with h | h
        · exact .inl (mc _ _ v h)
        · rw [List.mem_singleton.mp h]; exact hy3.2
      · exact .inl (mc _ _ v h)) (.inr ⟨y, by simp, hy3.1⟩)
    have knod : ∀ Hx : Hp, ∀ v, Kn Hx v → Hx od = some (.lst os) → Kn (upd Hx od (.lst (os ++ [V.ref c5]))) v := fun Hx v k e => by
      by_cases ev : v = .ref od
      · subst ev
        unfold Kn
        rw [tyN_lst upd_same]
        rfl
      · cases v with
        | ref c =>
          have hc : c ≠ od := fun e => ev (by rw [e])
          unfold Kn tyN at k ⊢
          dsimp only at k ⊢
          rw [upd_ne hc]
          exact k
        | _ => exact k
    have btM : ∀ v, BT HM v → v ≠ .ref od → BT (upd HM od (.lst (os ++ [V.ref c5]))) v := fun v h n => h.at (fun c o e hc => by
      have hc' : c ≠ od := fun e2 => n (by rw [e, e2])
      rw [upd_ne hc']
      exact hc) fun c xs v' _ _ _ k => knod HM v' k hoM
    refine ⟨n4, f4M _ _ (by simpa using lod) h4, f4.trans f4M, os ++ [V.ref c5], upd_same, by rw [List.length_append, List.length_singleton]; omega, fun v hv => ?_⟩
    rcases List.mem_append.mp hv with h | h
    · exact ⟨btM v ((wo v h).1.same s4M) (wo v h).2, (wo v h).2⟩
    · rw [List.mem_singleton.mp h]
      have n5 : V.ref c5 ≠ .ref od := fun e => nod (by cases e; rfl)
      exact ⟨btM _ b5 n5, n5⟩
  rintro la σ H4 ⟨⟨u, rfl⟩, n4, h4, f4, os, ho, lo, wo⟩
  refine h_p _ _ ?_
  clear h_p
  have nal : ∀ c o, HD c = some o → c ≠ od := fun c o e => ne_of_none ((s_HE.trans (s_HF.trans s_HG)) _ _ e) n_od
  have hS4 : SqL K H4 a (ns.map V.int) := Same.seq (fun c u e => f4 _ _ (by simpa using nal c u (s1D _ _ (s1 _ _ e))) (sDH _ _ (s1D _ _ (s1 _ _ e)))) hS
  refine seq_rel (fun σ1 H2 => σ1 = [some (.ref a), some (.ref t), some (.ref q1), some (.int w0), some (.int r0), some (.int d0), some (.int b0), some xw, some (.ref od), some (.ref tl), some (.ref hd), some (.int ath), u] ∧ Same H4 H2) (fun N_q h_q => ?_) ?_
  · simp only [RDa, RDb, RDv, RDk, RDx, RDe, RDd, RDp, RDq, List.getElem?_cons_zero, List.getElem?_cons_succ, List.set_cons_zero, List.set_cons_succ, List.cons.injEq, List.cons_ne_nil, reduceCtorEq, exists_eq_left', exists_eq_left, exists_and_left, and_assoc, exists_const, true_and, and_true, if_true, if_false, false_and, and_false, exists_false, false_or, or_false, true_implies, false_implies, implies_true, forall_eq, forall_eq', Bool.false_eq_true, if_neg, decide_eq_true_eq, Bool.not_eq_true', decide_eq_false_iff_not, Bool.not_true, Bool.not_false, List.length_cons, List.length_nil, sizeLine_eq, Nat.reduceAdd, Nat.reduceLeDiff, Nat.reduceLT, Int.reduceLT, Int.reduceLE, Int.emod_nonneg, ne_eq, Int.reduceEq, not_false_eq_true, not_true_eq_false]
    refine ⟨mul40, ?_⟩
    intro c1 n_c1
    generalize e_HI : upd H4 c1 (.lst [.str (Txt.mul "a" 40)]) = HI
    have a_HI : HI c1 = some (.lst [.str (Txt.mul "a" 40)]) := by rw [← e_HI]; exact upd_same
    have s_HI : Same H4 HI := by rw [← e_HI]; exact same_new n_c1
    refine ⟨_, a_HI, by decide, by decide, by decide, ?_⟩
    intro c2 n_c2
    generalize e_HJ : upd HI c2 (.lst (List.replicate (Int.toNat 400) [V.str (Txt.mul "a" 40)]).flatten) = HJ
    have a_HJ : HJ c2 = some (.lst (List.replicate (Int.toNat 400) [V.str (Txt.mul "a" 40)]).flatten) := by rw [← e_HJ]; exact upd_same
    have s_HJ : Same HI HJ := by rw [← e_HJ]; exact same_new n_c2
    have e2 : HJ c2 = some (.lst ((List.replicate 400 (Txt.mul "a" 40)).map V.str)) := by
      rw [a_HJ, rep_flat, List.map_replicate]
      rfl
    have hy : ∀ y ∈ List.replicate 400 (Txt.mul "a" 40), y.length ≤ 40 := fun y hy => by
      rw [List.eq_of_mem_replicate hy, l40]
      decide
    have kk := kstr _ _ _ e2 fun y h => Nat.le_trans (hy y h) (by decide)
    refine ⟨2, _, rfl, kk.1, kk.2, fun q2 HK sK nq2 hq2 => ?_⟩
    rw [(saidR_eq _ _).2.2.2.2.1 (tstr _ _ _ e2 (by rw [List.length_replicate]; decide) hy)] at hq2
    simp only [RDa, RDb, RDv, RDk, RDx, RDe, RDd, RDp, RDq, List.getElem?_cons_zero, List.getElem?_cons_succ, List.set_cons_zero, List.set_cons_succ, List.cons.injEq, List.cons_ne_nil, reduceCtorEq, exists_eq_left', exists_eq_left, exists_and_left, and_assoc, exists_const, true_and, and_true, if_true, if_false, false_and, and_false, exists_false, false_or, or_false, true_implies, false_implies, implies_true, forall_eq, forall_eq', Bool.false_eq_true, if_neg, decide_eq_true_eq, Bool.not_eq_true', decide_eq_false_iff_not, Bool.not_true, Bool.not_false, List.length_cons, List.length_nil, sizeLine_eq, Nat.reduceAdd, Nat.reduceLeDiff, Nat.reduceLT, Int.reduceLT, Int.reduceLE, Int.emod_nonneg, ne_eq, Int.reduceEq, not_false_eq_true, not_true_eq_false, dat_tup hq2, shN, eqv_self, PyData.canLay0, PyData.canLayAll0, Bool.and_self, so]
    exact h_q _ _ ⟨rfl, (s_HI.trans s_HJ).trans sK⟩
  rintro _ HI ⟨rfl, sI⟩
  have hSI := sI.seq hS4
  have hoI := sI _ _ ho
  simp only [RDa, RDb, RDv, RDk, RDx, RDe, RDd, RDp, RDq, List.getElem?_cons_zero, List.getElem?_cons_succ, List.set_cons_zero, List.set_cons_succ, List.cons.injEq, List.cons_ne_nil, reduceCtorEq, exists_eq_left', exists_eq_left, exists_and_left, and_assoc, exists_const, true_and, and_true, if_true, if_false, false_and, and_false, exists_false, false_or, or_false, true_implies, false_implies, implies_true, forall_eq, forall_eq', Bool.false_eq_true, if_neg, decide_eq_true_eq, Bool.not_eq_true', decide_eq_false_iff_not, Bool.not_true, Bool.not_false, List.length_cons, List.length_nil, sizeLine_eq, Nat.reduceAdd, Nat.reduceLeDiff, Nat.reduceLT, Int.reduceLT, Int.reduceLE, Int.emod_nonneg, ne_eq, Int.reduceEq, not_false_eq_true, not_true_eq_false, sp__law_at, hSI, seqO_lst hoI]
  have h7 := md_rng (cell ns 6 / 9) (show (0 : Int) < 7 by decide)
  generalize cell ns 6 / 9 % 7 = j at h7
  have e3 : j.toNat < os.length := by
    have e : os.length = 7 := by rw [lo]; rfl
    omega
  have e5 := atI_nat (List.getElem?_eq_getElem e3)
  rw [show ((j.toNat : Nat) : Int) = j by omega] at e5
  refine ⟨_, e5, ?_⟩
  have g := (wo _ (List.getElem_mem e3)).1.same sI
  refine ⟨2, _, rfl, g.1, g.2.1, fun q2 HJ sJ nq2 hq2 => ?_⟩
  rw [(saidR_eq _ _).2.2.2.2.2 g.2.2] at hq2
  simp only [RDa, RDb, RDv, RDk, RDx, RDe, RDd, RDp, RDq, List.getElem?_cons_zero, List.getElem?_cons_succ, List.set_cons_zero, List.set_cons_succ, List.cons.injEq, List.cons_ne_nil, reduceCtorEq, exists_eq_left', exists_eq_left, exists_and_left, and_assoc, exists_const, true_and, and_true, if_true, if_false, false_and, and_false, exists_false, false_or, or_false, true_implies, false_implies, implies_true, forall_eq, forall_eq', Bool.false_eq_true, if_neg, decide_eq_true_eq, Bool.not_eq_true', decide_eq_false_iff_not, Bool.not_true, Bool.not_false, List.length_cons, List.length_nil, sizeLine_eq, Nat.reduceAdd, Nat.reduceLeDiff, Nat.reduceLT, Int.reduceLT, Int.reduceLE, Int.emod_nonneg, ne_eq, Int.reduceEq, not_false_eq_true, not_true_eq_false, dat_tup hq2, shT, eqv_self, PyData.canLay0, PyData.canLayAll0, Bool.and_self, so]
  exact q _
end RP

namespace RP
open PySem PySem.Spec PyProof.Rows L2 L2H

/-- tests -/
def excB (K : PySem.W.Frag) (D : Addr) : Bool := decide (PySem.W.findIn K (.ref D) "__getattribute__" = some (some (.builtin "BaseException.__getattribute__"))) && (decide (PySem.W.findIn K (.ref D) "__getattr__" = some none) && (decide (PySem.W.subIn K (.ref D) (.type "BaseException") = some true) && (decide (PySem.W.hasDictIn K D = true) &&
  (decide (PySem.W.findIn K (.ref D) "__class__" = some (some (.builtin "object.__class__"))) && (decide (PySem.W.specialIn K (.builtin "object.__class__") "__get__" = some (some (.builtin "getset_descriptor.__get__"))) && (decide (PySem.W.takesIn K (.builtin "object.__class__") = some true) && decide (PySem.W.mroIn K D (.type "object") = some true)))))))
theorem excB_ok {K : PySem.W.Frag} {D : Addr} (h : excB K D = true) : ExcC K D := by
  unfold excB at h
  simp only [Bool.and_eq_true, decide_eq_true_eq] at h
  obtain ⟨h1, h2, h3, h4, h5, h6, h7, h8⟩ := h
  exact ⟨h1, h2, h3, h4, h5, h6, h7, h8⟩
def kitFB (K : PySem.W.Frag) (D : Str) (l : List (Str × Bool)) : Bool := l.all fun q => decide (PySem.W.kitOne K (.ref (He.ga K D)) (.ref (He.ga K q.1)) = some q.2)
theorem kitFB_ok {K : PySem.W.Frag} {D : Str} {l : List (Str × Bool)} (h : kitFB K D l = true) : ∀ q ∈ l, PySem.W.kitOne K (.ref (He.ga K D)) (.ref (He.ga K q.1)) = some q.2 := fun q hq => of_decide_eq_true (List.all_eq_true.mp h q hq)
def d_is_among : He.DefD := ⟨("is_among", none), "is_among", "is_among", defArgs s_is_among, defBody s_is_among, defScope s_is_among, [], []⟩
def d_is_bounds : He.DefD := ⟨("is_bounds", none), "is_bounds", "is_bounds", defArgs s_is_bounds, defBody s_is_bounds, defScope s_is_bounds, [], []⟩
def d_need_bounds : He.DefD := ⟨("need_bounds", none), "need_bounds", "need_bounds", defArgs s_need_bounds, defBody s_need_bounds, defScope s_need_bounds, [], []⟩
def d_need_ring : He.DefD := ⟨("need_ring", none), "need_ring", "need_ring", defArgs s_need_ring, defBody s_need_ring, defScope s_need_ring, [], []⟩
def d_least_ring : He.DefD := ⟨("least_ring", none), "least_ring", "least_ring", defArgs s_least_ring, defBody s_least_ring, defScope s_least_ring, [], []⟩
def d_is_text : He.DefD := ⟨("is_text", none), "is_text", "is_text", defArgs s_is_text, defBody s_is_text, defScope s_is_text, [], []⟩
def d_need_texts : He.DefD := ⟨("need_texts", none), "need_texts", "need_texts", defArgs s_need_texts, defBody s_need_texts, defScope s_need_texts, [], []⟩
def d__law_at : He.DefD := ⟨("_law_at", none), "_law_at", "_law_at", defArgs s__law_at, defBody s__law_at, defScope s__law_at, [], []⟩
def d__law_mixed : He.DefD := ⟨("_law_mixed", none), "_law_mixed", "_law_mixed", defArgs s__law_mixed, defBody s__law_mixed, defScope s__law_mixed, [], []⟩
def d__law_whole : He.DefD := ⟨("_law_whole", none), "_law_whole", "_law_whole", defArgs s__law_whole, defBody s__law_whole, defScope s__law_whole, [], []⟩
def d__law_texts : He.DefD := ⟨("_law_texts", none), "_law_texts", "_law_texts", defArgs s__law_texts, defBody s__law_texts, defScope s__law_texts, [], []⟩
def d__law_bounds : He.DefD := ⟨("_law_bounds", none), "_law_bounds", "_law_bounds", defArgs s__law_bounds, defBody s__law_bounds, defScope s__law_bounds, [], []⟩
def d__law_word : He.DefD := ⟨("_law_word", none), "_law_word", "_law_word", defArgs s__law_word, defBody s__law_word, defScope s__law_word, [], []⟩
def d__law_said : He.DefD := ⟨("_law_said", none), "_law_said", "_law_said", defArgs s__law_said, defBody s__law_said, defScope s__law_said, [], []⟩
def d__law_wrong_bounds : He.DefD := ⟨("_law_wrong_bounds", none), "_law_wrong_bounds", "_law_wrong_bounds", defArgs s__law_wrong_bounds, defBody s__law_wrong_bounds, defScope s__law_wrong_bounds, [], []⟩
def d_law : He.DefD := ⟨("law", none), "law", "law", defArgs s_law, defBody s_law, defScope s_law, [], []⟩
def fn : List He.DefD := [d_is_among, d_is_bounds, d_need_bounds, d_need_ring, d_least_ring, d_is_text, d_need_texts, d__law_at, d__law_mixed, d__law_whole, d__law_texts, d__law_bounds, d__law_word, d__law_said, d__law_wrong_bounds, d_law]
def fa : List He.Fa := [.free "len", .free "range", .free "min", .free "max", .free "isinstance", .free "int", .free "bool", .free "str", .free "list", .free "tuple", .free "dict", .free "sorted", .free "enumerate", .free "zip", .free "all", .free "ValueError", .glo "is_among", .glo "is_bounds", .int "MOST_DELAY" 20, .int "MOST_WINDOW" 20, .glo "need_bounds", .exc "BadBounds", .glo "BadBounds", .glo "need_ring", .exc "BadRing", .glo "BadRing", .int "MOST_RING" 200, .glo "least_ring", .glo "is_text", .int "MOST_SIGNS" 40, .glo "need_texts", .exc "BadTexts", .glo "BadTexts", .int "MOST_TEXTS" 400, .glo "_law_at", .glo "_law_mixed", .glo "_law_whole", .glo "_law_texts", .glo "_law_bounds", .glo "_law_word", .exc "BadStep", .glo "BadStep", .exc "NoLetter", .glo "NoLetter", .exc "NoLine", .glo "NoLine", .exc "NotNow", .glo "NotNow", .exc "Safe", .glo "Safe", .glo "_law_said", .exc "PostError", .glo "PostError", .exm "BadBounds" "PostError" true, .exm "BadRing" "PostError" true, .exm "BadTexts" "PostError" true, .glo "_law_wrong_bounds", .glo "law"]
def exB (K : PySem.W.Frag) : Bool := true && (excB K (He.ga K "BadBounds")) && (kitFB K "BadBounds" (errNames.map fun x => (x, decide (x = "BadBounds")))) && (decide (PySem.W.kitOne K (.ref (He.ga K "BadBounds")) (.type "ValueError") = some true)) && (excB K (He.ga K "BadRing")) && (kitFB K "BadRing" (errNames.map fun x => (x, decide (x = "BadRing")))) && (decide (PySem.W.kitOne K (.ref (He.ga K "BadRing")) (.type "ValueError") = some true)) && (excB K (He.ga K "BadTexts")) && (kitFB K "BadTexts" (errNames.map fun x => (x, decide (x = "BadTexts")))) && (decide (PySem.W.kitOne K (.ref (He.ga K "BadTexts")) (.type "ValueError") = some true))
def loose : List Str := ["PostError", "BadBounds", "BadRing", "BadTexts", "BadStep", "NotNow", "NoLetter", "Safe", "NoLine", "MOST_WINDOW", "MOST_DELAY", "MOST_RING", "MOST_TEXTS", "MOST_SIGNS", "is_among", "is_bounds", "is_text", "need_bounds", "need_ring", "need_texts", "least_ring", "_law_at", "_law_mixed", "_law_whole", "_law_bounds", "_law_texts", "_law_wrong_bounds", "_law_word", "_law_said"]
abbrev PW : Program := (PySem.W.OpenLaw.row PySem.Challenge.rw_ringpost_k01_bounds_and_rings).prog
abbrev R : PySem.W.OpenRow := PySem.W.OpenLaw.row PySem.Challenge.rw_ringpost_k01_bounds_and_rings
abbrev hk : PySem.W.Hook := He.hookX 5 fa fn [] [] exB
def ob (s : PySem.W.SharedT) : He.AlX := He.obsX 5 fa fn [] [] exB (HandSHeadRun.getT s)
theorem ob_eq (s : PySem.W.SharedT) : ob s = hk.obs s.abs := He.obsX_eq (HandSHeadRun.getT_eq s)
theorem run (w : World) : HandSHeadRun.RunEq R (PySem.W.view R.prog [32]) hk ob 3000 loose w := by
  intro os
  kernel_rfl
theorem facts {w : World} {K : PySem.W.Frag} {h : Heap} {mg : Str → Option Value} {f : Addr} (X : K.In h) (G : h.Ns mainGlobals mg) (hfa : mg ("law" : Str) = some (.ref f)) (c : He.SaysX fa fn [] [] exB w h K) :
    ∃ fd : FuncData, (∀ (s : Shared) (v : Value), BindsTo s fd ⟨[v], []⟩ [("_law_script", v)]) ∧ ∀ base : Heap, K.In base → base.Ns mainGlobals mg → FnOk PW w K mg base (L2N.CX PW w) 6 f fd ["_law_script"] (sp_law K) := by
  have cf : ∀ (i : Nat) {f : He.Fa}, fa[i]? = some f → f.ok K = true := fun i f h => c.t.d.fact i h
  have cd : ∀ {d : He.DefD}, d ∈ fn → ∃ fd, FunD K d.name d.qual d.params d.body d.scope (d.dvs K) (d.kws K) (He.fAd K d.at_) fd := fun h => c.t.d.defs h
  have cx := c.more
  unfold exB at cx
  simp only [Bool.true_and, Bool.and_eq_true] at cx
  obtain ⟨⟨⟨⟨⟨⟨⟨⟨z0, z1⟩, z2⟩, z3⟩, z4⟩, z5⟩, z6⟩, z7⟩, z8⟩ := cx
  have ex0 : ExcC K (He.ga K "BadBounds") := excB_ok z0
  have ex1 : KitF K "BadBounds" (errNames.map fun x => (x, decide (x = "BadBounds"))) := kitFB_ok z1
  have ex2 : PySem.W.kitOne K (.ref (He.ga K "BadBounds")) (.type "ValueError") = some true := of_decide_eq_true z2
  have ex3 : ExcC K (He.ga K "BadRing") := excB_ok z3
  have ex4 : KitF K "BadRing" (errNames.map fun x => (x, decide (x = "BadRing"))) := kitFB_ok z4
  have ex5 : PySem.W.kitOne K (.ref (He.ga K "BadRing")) (.type "ValueError") = some true := of_decide_eq_true z5
  have ex6 : ExcC K (He.ga K "BadTexts") := excB_ok z6
  have ex7 : KitF K "BadTexts" (errNames.map fun x => (x, decide (x = "BadTexts"))) := kitFB_ok z7
  have ex8 : PySem.W.kitOne K (.ref (He.ga K "BadTexts")) (.type "ValueError") = some true := of_decide_eq_true z8
  have bl : Blt mg := ⟨He.free_ok X G (cf 0 (f := .free "len") rfl), He.free_ok X G (cf 1 (f := .free "range") rfl), He.free_ok X G (cf 2 (f := .free "min") rfl), He.free_ok X G (cf 3 (f := .free "max") rfl), He.free_ok X G (cf 4 (f := .free "isinstance") rfl), He.free_ok X G (cf 5 (f := .free "int") rfl), He.free_ok X G (cf 6 (f := .free "bool") rfl), He.free_ok X G (cf 7 (f := .free "str") rfl), He.free_ok X G (cf 8 (f := .free "list") rfl), He.free_ok X G (cf 9 (f := .free "tuple") rfl), He.free_ok X G (cf 10 (f := .free "dict") rfl), He.free_ok X G (cf 11 (f := .free "sorted") rfl), He.free_ok X G (cf 12 (f := .free "enumerate") rfl), He.free_ok X G (cf 13 (f := .free "zip") rfl), He.free_ok X G (cf 14 (f := .free "all") rfl), He.free_ok X G (cf 15 (f := .free "ValueError") rfl)⟩
  have c_is_among := fun (base : Heap) => ok_is_among (P := PW) (w := w) (base := base) (cd (d := d_is_among) (by simp [fn])) (He.glo_ok X G (cf 16 (f := .glo "is_among") rfl)) bl
  have c_is_bounds := fun (base : Heap) => ok_is_bounds (P := PW) (w := w) (base := base) (cd (d := d_is_bounds) (by simp [fn])) (He.glo_ok X G (cf 17 (f := .glo "is_bounds") rfl)) bl (c_is_among base) (He.int_ok X G (cf 18 (f := .int "MOST_DELAY" 20) rfl)) (He.int_ok X G (cf 19 (f := .int "MOST_WINDOW" 20) rfl))
  have e_BadBounds : ErrC K mg "BadBounds" := by
    have z := He.exc_ok (cf 21 (f := .exc "BadBounds") rfl)
    exact ⟨He.glo_ok X G (cf 22 (f := .glo "BadBounds") rfl), z.1, z.2.1, z.2.2.1, z.2.2.2⟩
  have c_need_bounds := fun (base : Heap) => ok_need_bounds (P := PW) (w := w) (base := base) (cd (d := d_need_bounds) (by simp [fn])) (He.glo_ok X G (cf 20 (f := .glo "need_bounds") rfl)) bl (c_is_bounds base) e_BadBounds
  have e_BadRing : ErrC K mg "BadRing" := by
    have z := He.exc_ok (cf 24 (f := .exc "BadRing") rfl)
    exact ⟨He.glo_ok X G (cf 25 (f := .glo "BadRing") rfl), z.1, z.2.1, z.2.2.1, z.2.2.2⟩
  have c_need_ring := fun (base : Heap) => ok_need_ring (P := PW) (w := w) (base := base) (cd (d := d_need_ring) (by simp [fn])) (He.glo_ok X G (cf 23 (f := .glo "need_ring") rfl)) bl (c_is_among base) e_BadRing (He.int_ok X G (cf 26 (f := .int "MOST_RING" 200) rfl))
  have c_least_ring := fun (base : Heap) => ok_least_ring (P := PW) (w := w) (base := base) (cd (d := d_least_ring) (by simp [fn])) (He.glo_ok X G (cf 27 (f := .glo "least_ring") rfl)) bl (c_need_bounds base)
  have c_is_text := fun (base : Heap) => ok_is_text (P := PW) (w := w) (base := base) (cd (d := d_is_text) (by simp [fn])) (He.glo_ok X G (cf 28 (f := .glo "is_text") rfl)) bl (He.int_ok X G (cf 29 (f := .int "MOST_SIGNS" 40) rfl))
  have e_BadTexts : ErrC K mg "BadTexts" := by
    have z := He.exc_ok (cf 31 (f := .exc "BadTexts") rfl)
    exact ⟨He.glo_ok X G (cf 32 (f := .glo "BadTexts") rfl), z.1, z.2.1, z.2.2.1, z.2.2.2⟩
  have c_need_texts := fun (base : Heap) => ok_need_texts (P := PW) (w := w) (base := base) (cd (d := d_need_texts) (by simp [fn])) (He.glo_ok X G (cf 30 (f := .glo "need_texts") rfl)) bl (c_is_text base) e_BadTexts (He.int_ok X G (cf 33 (f := .int "MOST_TEXTS" 400) rfl))
  have c__law_at := fun (base : Heap) (a : Addr) (ns : List Int) => ok__law_at (P := PW) (w := w) (base := base) (cd (d := d__law_at) (by simp [fn])) (He.glo_ok X G (cf 34 (f := .glo "_law_at") rfl)) bl a ns
  have c__law_mixed := fun (base : Heap) => ok__law_mixed (P := PW) (w := w) (base := base) (cd (d := d__law_mixed) (by simp [fn])) (He.glo_ok X G (cf 35 (f := .glo "_law_mixed") rfl)) bl
  have c__law_whole := fun (base : Heap) => ok__law_whole (P := PW) (w := w) (base := base) (cd (d := d__law_whole) (by simp [fn])) (He.glo_ok X G (cf 36 (f := .glo "_law_whole") rfl)) bl
  have c__law_texts := fun (base : Heap) => ok__law_texts (P := PW) (w := w) (base := base) (cd (d := d__law_texts) (by simp [fn])) (He.glo_ok X G (cf 37 (f := .glo "_law_texts") rfl)) bl (c__law_mixed base)
  have c__law_bounds := fun (base : Heap) (a : Addr) (ns : List Int) => ok__law_bounds (P := PW) (w := w) (base := base) (cd (d := d__law_bounds) (by simp [fn])) (He.glo_ok X G (cf 38 (f := .glo "_law_bounds") rfl)) bl (c__law_at base) (c__law_mixed base) a ns
  have e_BadStep : ErrC K mg "BadStep" := by
    have z := He.exc_ok (cf 40 (f := .exc "BadStep") rfl)
    exact ⟨He.glo_ok X G (cf 41 (f := .glo "BadStep") rfl), z.1, z.2.1, z.2.2.1, z.2.2.2⟩
  have e_NoLetter : ErrC K mg "NoLetter" := by
    have z := He.exc_ok (cf 42 (f := .exc "NoLetter") rfl)
    exact ⟨He.glo_ok X G (cf 43 (f := .glo "NoLetter") rfl), z.1, z.2.1, z.2.2.1, z.2.2.2⟩
  have e_NoLine : ErrC K mg "NoLine" := by
    have z := He.exc_ok (cf 44 (f := .exc "NoLine") rfl)
    exact ⟨He.glo_ok X G (cf 45 (f := .glo "NoLine") rfl), z.1, z.2.1, z.2.2.1, z.2.2.2⟩
  have e_NotNow : ErrC K mg "NotNow" := by
    have z := He.exc_ok (cf 46 (f := .exc "NotNow") rfl)
    exact ⟨He.glo_ok X G (cf 47 (f := .glo "NotNow") rfl), z.1, z.2.1, z.2.2.1, z.2.2.2⟩
  have e_Safe : ErrC K mg "Safe" := by
    have z := He.exc_ok (cf 48 (f := .exc "Safe") rfl)
    exact ⟨He.glo_ok X G (cf 49 (f := .glo "Safe") rfl), z.1, z.2.1, z.2.2.1, z.2.2.2⟩
  have c__law_word := fun (base : Heap) => ok__law_word (P := PW) (w := w) (base := base) (cd (d := d__law_word) (by simp [fn])) (He.glo_ok X G (cf 39 (f := .glo "_law_word") rfl)) bl e_BadBounds e_BadRing e_BadStep e_BadTexts e_NoLetter e_NoLine e_NotNow e_Safe ex0 ex1 ex2 ex3 ex4 ex5 ex6 ex7 ex8
  have e_PostError : ErrC K mg "PostError" := by
    have z := He.exc_ok (cf 51 (f := .exc "PostError") rfl)
    exact ⟨He.glo_ok X G (cf 52 (f := .glo "PostError") rfl), z.1, z.2.1, z.2.2.1, z.2.2.2⟩
  have c__law_said := fun (base : Heap) => ok__law_said (P := PW) (w := w) (base := base) (cd (d := d__law_said) (by simp [fn])) (He.glo_ok X G (cf 50 (f := .glo "_law_said") rfl)) bl (c__law_word base) (c_least_ring base) (c_need_bounds base) (c_need_ring base) (c_need_texts base) e_PostError (He.exm_ok (cf 53 (f := .exm "BadBounds" "PostError" true) rfl)) (He.exm_ok (cf 54 (f := .exm "BadRing" "PostError" true) rfl)) (He.exm_ok (cf 55 (f := .exm "BadTexts" "PostError" true) rfl))
  have c__law_wrong_bounds := fun (base : Heap) => ok__law_wrong_bounds (P := PW) (w := w) (base := base) (cd (d := d__law_wrong_bounds) (by simp [fn])) (He.glo_ok X G (cf 56 (f := .glo "_law_wrong_bounds") rfl)) bl
  obtain ⟨fd, FL⟩ := cd (d := d_law) (by simp [fn])
  have e := hfa.symm.trans (He.glo_ok X G (cf 57 (f := .glo "law") rfl))
  have e2 : f = He.fAd K ("law", none) := Value.ref.inj (Option.some.inj e)
  subst e2
  have b := FunD.bindsA (ps := ["_law_script"]) FL fun _ _ _ _ _ _ us hl => match us, hl with | [_], _ => rfl
  exact ⟨fd, fun s v => b s [v] rfl, fun base _ _ => ok_law FL bl (c__law_at base) (c__law_bounds base) (c__law_said base) (c__law_texts base) (c__law_whole base) (c__law_wrong_bounds base)⟩
end RP
open PySem PySem.W PySem.Calls PyProof.Rows
theorem PySem.Challenge.cw_ringpost_k01_bounds_and_rings_holds : PySem.Challenge.rw_ringpost_k01_bounds_and_rings.Holds := by
  w_on; o_law
  refine HandSHeadRun.head_any (r := OpenLaw.row PySem.Challenge.rw_ringpost_k01_bounds_and_rings) (q := view (OpenLaw.row PySem.Challenge.rw_ringpost_k01_bounds_and_rings).prog [32]) (H := RP.hk) (ob := RP.ob) (M := 3000) (loose := RP.loose) (d := HandSHeadRun.topDef (OpenLaw.row PySem.Challenge.rw_ringpost_k01_bounds_and_rings).prog 32) (kwd := []) RP.ob_eq
    (by kernel_rfl) (fun s => by kernel_rfl) RP.run (by kernel_rfl) (by kernel_rfl) (by kernel_rfl) (by rfl) (by first | assumption | decide +kernel) (by decide +kernel) ⟨rfl, rfl, rfl, rfl, rfl, by decide +kernel⟩ ?hw ?hc
  case hw => w_witness2
  case hc =>
    refine RP.walk_W (l := PySem.Challenge.rw_ringpost_k01_bounds_and_rings) (n := 63) (k := 6) (x := "_law_script") (CX := fun w => L2N.CX RP.PW w) rfl (by decide) (by kernel_rfl) ⟨rfl, by decide, by decide⟩ ?F (fun _ _ _ _ _ z => by
      obtain ⟨_, _, _, _, _, _, _, _, _, _, _, _, q⟩ := z
      exact q)
    intro w mg fa h Y G hmg0
    obtain ⟨K, KX, c⟩ := Y
    have hmg : mg ("law" : PySem.Str) = some (.ref fa) := by
      have e : (HandSHeadRun.topDef (OpenLaw.row PySem.Challenge.rw_ringpost_k01_bounds_and_rings).prog 32).name = ("law" : PySem.Str) := by kernel_rfl
      rw [← e]
      exact hmg0
    obtain ⟨fd, hb, hF⟩ := RP.facts (w := w) KX G hmg c
    exact ⟨K, fd, RP.sp_law K, KX, hb, fun H a ns hl hO hS => ⟨a, ns, rfl, hS, fun _ => rfl⟩, hF⟩

