import PyProof.Rows.All
import Wide.All
import OpenK.AllK
import Wide.FinOn
import HandS.ForMost
import HandS.ForExc
import HandS.TryMany
import HandS.IsInst
import HandS.ExcIs
import HandS.Conv
import HandS.More
import HandS.Zip
import HandS.TupAny
import HandS.TupLen
import HandS.HotCalls
import HandS.HeadHook4
import HandS.HeadEnd
import HandS.Head2
import PySem.Challenge.RW_ringpost_k04_what_is_there
set_option Elab.async false
set_option linter.all false
set_option maxRecDepth 100000
set_option maxHeartbeats 4000000
open PySem PySem.Spec PyProof.Rows L2
local macro_rules | `(tactic| walk_at "st0") => `(tactic| simp only [L2.start, List.map_cons, List.map_nil, List.length_cons, List.length_nil, List.replicate, List.append_nil, List.cons_append, List.nil_append, Nat.zero_add, Nat.reduceAdd, Nat.reduceSub, Nat.sub_self])
local macro_rules | `(tactic| walk_at "len") => `(tactic| (intro h; first | (obtain ⟨e, _⟩ := h; rw [e]; rfl) | (obtain ⟨_, e, _⟩ := h; rw [e]; rfl) | (obtain ⟨_, _, e, _⟩ := h; rw [e]; rfl) | (obtain ⟨_, _, _, e, _⟩ := h; rw [e]; rfl) | (obtain ⟨_, _, _, _, e, _⟩ := h; rw [e]; rfl) | (obtain ⟨_, _, _, _, _, e, _⟩ := h; rw [e]; rfl) | (obtain ⟨_, _, _, _, _, _, e, _⟩ := h; rw [e]; rfl) | (obtain ⟨_, _, _, _, _, _, _, e, _⟩ := h; rw [e]; rfl) | (obtain ⟨_, _, _, _, _, _, _, _, e, _⟩ := h; rw [e]; rfl) | (obtain ⟨_, _, _, _, _, _, _, _, _, e, _⟩ := h; rw [e]; rfl) | (obtain ⟨_, _, _, _, _, _, _, _, _, _, e, _⟩ := h; rw [e]; rfl) | (obtain ⟨_, _, _, _, _, _, _, _, _, _, _, e, _⟩ := h; rw [e]; rfl) | (obtain ⟨_, _, _, _, _, _, _, _, _, _, _, _, e, _⟩ := h; rw [e]; rfl) | (obtain ⟨_, _, _, _, _, _, _, _, _, _, _, _, _, e, _⟩ := h; rw [e]; rfl) | (obtain ⟨_, _, _, _, _, _, _, _, _, _, _, _, _, _, e, _⟩ := h; rw [e]; rfl) | (obtain ⟨_, _, _, _, _, _, _, _, _, _, _, _, _, _, _, e, _⟩ := h; rw [e]; rfl) | (obtain ⟨_, _, _, _, _, _, _, _, _, _, _, _, _, _, _, _, e, _⟩ := h; rw [e]; rfl) | (obtain ⟨_, _, _, _, _, _, _, _, _, _, _, _, _, _, _, _, _, e, _⟩ := h; rw [e]; rfl) | (obtain ⟨_, _, _, _, _, _, _, _, _, _, _, _, _, _, _, _, _, _, e, _⟩ := h; rw [e]; rfl) | (obtain ⟨_, _, _, _, _, _, _, _, _, _, _, _, _, _, _, _, _, _, _, e, _⟩ := h; rw [e]; rfl) | (obtain ⟨_, _, _, _, _, _, _, _, _, _, _, _, _, _, _, _, _, _, _, _, e, _⟩ := h; rw [e]; rfl) | (obtain ⟨_, _, _, _, _, _, _, _, _, _, _, _, _, _, _, _, _, _, _, _, _, e, _⟩ := h; rw [e]; rfl) | (obtain ⟨_, _, _, _, _, _, _, _, _, _, _, _, _, _, _, _, _, _, _, _, _, _, e, _⟩ := h; rw [e]; rfl) | (obtain ⟨_, _, _, _, _, _, _, _, _, _, _, _, _, _, _, _, _, _, _, _, _, _, _, e, _⟩ := h; rw [e]; rfl) | (obtain ⟨_, _, _, _, _, _, _, _, _, _, _, _, _, _, _, _, _, _, _, _, _, _, _, _, e, _⟩ := h; rw [e]; rfl) | (obtain ⟨_, _, _, _, _, _, _, _, _, _, _, _, _, _, _, _, _, _, _, _, _, _, _, _, _, e, _⟩ := h; rw [e]; rfl)))

namespace RP
open PySem PySem.Spec PyProof.Rows L2

/-! ### a def, a method, a class as callers use them -/
section
variable (P : Program) (w : World) (K : PySem.W.Frag) (mg : Str → Option Value) (base : Heap)
def Cal (k : Nat) (x : Str) (sp : Sp) : Prop :=
  ∃ (f : Addr) (fd : FuncData) (ps : List Str), FnOk P w K mg base (L2N.CX P w) k f fd ps sp ∧ mg x = some (.ref f) ∧ PySem.W.keepIn K (.ref f) = true ∧ Binds K fd ps []
def MCal (k : Nat) (C : Addr) (m : Str) (sp : Sp) : Prop :=
  Cls K C ∧ ∃ (f : Addr) (fd : FuncData) (ps : List Str), FnOk P w K mg base (L2N.CX P w) k f fd ps sp ∧ Meth K C m f ∧ Binds K fd ps []
def KCal (k : Nat) (x : Str) (C : Addr) (sp : Sp) : Prop :=
  ∃ (f : Addr) (fd : FuncData) (ps : List Str), Mk K C f ∧ FnOk P w K mg base (L2N.CX P w) k f fd ps sp ∧ mg x = some (.ref C) ∧ Binds K fd ps []
end
section
variable {X : Cx} {k : Nat} {C : Addr} {sp : Sp} {W : WX} {x m : Str} {p pos apos : Pos} {e o : Expr} {es : List Expr} {ta : TE} {t : TA}
theorem pe_fn (c : Cal X.prog X.w X.K X.mg X.base k x sp) (hr : Room k X.A) (tk : L2N.Takes X W) (ha : PA X (e :: es) t) (hg : Gl X x := by rfl) (hdb : (x == ("__debug__" : Str)) = false := by decide)
    (he : starEach (e :: es) X.env = (false, eval e X.env) :: starEach es X.env := by rfl) (hpl : (backTo pos (starEach es X.env)).any (·.1) = false := by rfl) :
    PE X (.Call (.Name x p) (e :: es) [] pos) (tCallS sp (WE W) t) := by
  obtain ⟨f, fd, ps, F, hm, hk, hb⟩ := c
  exact pe_callS F hr hg hm hk hb (fun σ => L2N.passAt tk σ) ha hdb he hpl
def tMethS (C : Addr) (m : Str) (sp : Sp) (E : L2.St → XK) (ta : TE) (t : TA) : TE := fun σ H Q => ta σ H fun x H1 => ∃ a dx fs, x = .ref a ∧ H1 a = some (.ins C dx fs) ∧ fs.lookup m = none ∧ t σ H1 fun vs H2 => sp (x :: vs) H2 Q (E σ)
theorem pe_mth {pl : Sem Bool} (he : PE X o ta) (c : MCal X.prog X.w X.K X.mg X.base k C m sp) (hr : Room k X.A) (tk : L2N.Takes X W) (ha : PA X (e :: es) t)
    (hst : starEach (e :: es) X.env = (false, eval e X.env) :: starEach es X.env := by rfl) (hpl : (backTo pos (starEach es X.env)).any (·.1) = false := by rfl)
    (ht : eval (.Call (.Attribute o m apos) (e :: es) [] pos) X.env = (do
      let ov ← eval o X.env
      standAt apos.atName
      let (f, first) ← holding [ov] (getMethod ov m pl)
      callWith pos f first (backTo pos (starEach (e :: es) X.env)) (backToKw pos (keywordEach [] X.env))) := by rfl) :
    PE X (.Call (.Attribute o m apos) (e :: es) [] pos) (tMethS C m sp (WE W) ta t) := by
  obtain ⟨cl, f, fd, ps, F, hm, hb⟩ := c
  refine ⟨fun pins s σ H Q I h => ?_⟩
  refine PySem.W.methodCall_KW (pl := pl) (thn (he.run pins s σ H _ I h) fun u s1 ⟨x, H1, I1, rx, a, dx, fs, ex, ea, l, q⟩ => ?_) ht
  subst ex
  obtain rfl : u = Value.ref a := rx
  refine getmeth_ok I1 ea cl hm l ?_
  refine PySem.W.callWith_K (first := [.ref a]) (h₀ := X.base) I.ok.mod.kin hm.kp (thn (ha.run pos pins s1 σ H1 _ I1 q) fun us s2 ⟨vs, H2, I2, r, q2⟩ => ⟨I2.kIn, ?_⟩) hst hpl
  exact run_fnS (us := .ref a :: us) (vs := .ref a :: vs) F hr hb (L2N.passAt tk σ) I2 (.cons rfl r) q2
theorem pe_mth0 {pl : Sem Bool} (he : PE X o ta) (c : MCal X.prog X.w X.K X.mg X.base k C m sp) (hr : Room k X.A) (tk : L2N.Takes X W)
    (ht : eval (.Call (.Attribute o m apos) [] [] pos) X.env = (do
      let ov ← eval o X.env
      standAt apos.atName
      let (f, first) ← holding [ov] (getMethod ov m pl)
      callWith pos f first (backTo pos (starEach [] X.env)) (backToKw pos (keywordEach [] X.env))) := by rfl) :
    PE X (.Call (.Attribute o m apos) [] [] pos) (tMethS C m sp (WE W) ta tNil) := by
  obtain ⟨cl, f, fd, ps, F, hm, hb⟩ := c
  refine ⟨fun pins s σ H Q I h => ?_⟩
  refine PySem.W.methodCall_KW (pl := pl) (thn (he.run pins s σ H _ I h) fun u s1 ⟨x, H1, I1, rx, a, dx, fs, ex, ea, l, q⟩ => ?_) ht
  subst ex
  obtain rfl : u = Value.ref a := rx
  refine getmeth_ok I1 ea cl hm l ?_
  exact PySem.W.callWith_K0 (first := [.ref a]) I1.kIn hm.kp (run_fnS (us := [.ref a]) (vs := [.ref a]) F hr hb (L2N.passAt tk σ) I1 (.cons rfl .nil) q)
def tMakeS (C : Addr) (sp : Sp) (E : L2.St → XK) (t : TA) : TE := fun σ H Q => t σ H fun vs H1 => ∀ x dx, H1 x = none → H1 dx = none → dx ≠ x →
  sp (.ref x :: vs) (upd (upd H1 dx (.own x)) x (.ins C dx [])) (fun v H2 => v = .non ∧ Q (.ref x) H2) (E σ)
theorem run_mkS {pins : List (Addr × Obj)} {σ : L2.St} {H : Hp} {s : Shared} {Q : VK} {us : List Value} {vs : List V} {f : Addr} {fd : FuncData} {ps : List Str} (M : Mk X.K C f) (F : FnOk X.prog X.w X.K X.mg X.base (L2N.CX X.prog X.w) k f fd ps sp) (hr : Room (k + 1) X.A) (hb : Binds X.K fd ps [])
    (tk : L2N.Takes X W) (I : Inv X pins σ H s) (r : Vals vs us)
    (h : ∀ x dx, H x = none → H dx = none → dx ≠ x → sp (.ref x :: vs) (upd (upd H dx (.own x)) x (.ins C dx [])) (fun v H2 => v = .non ∧ Q (.ref x) H2) (WE W σ)) :
    wpAny (model X.prog X.w) X.A (call (.ref C) us) (EP X pins σ Q) X.xe s := by
  have hq := h (s.heap.objs.size + 1) s.heap.objs.size (I.hok.fresh (Nat.le_succ _)) (I.hok.fresh (Nat.le_refl _)) (Nat.ne_of_lt (Nat.lt_succ_self _))
  have I2 := Inv.made (C := C) I
  have r2 : Vals (V.ref (s.heap.objs.size + 1) :: vs) (Value.ref (s.heap.objs.size + 1) :: us) := .cons rfl r
  have hl : (Value.ref (s.heap.objs.size + 1) :: us ++ []).length = ps.length := by
    have e := r2.length
    rw [F.len _ _ _ _ hq] at e
    rw [List.append_nil]
    exact e.symm
  have bb := hb _ (Value.ref (s.heap.objs.size + 1) :: us) I2.kIn hl
  rw [List.append_nil] at bb
  refine wpAny_call (make_map (f := f) I.kIn M.makes M.init (beq_iff_eq.mp M.fn) (codeAny_mono (F.run _ X.stack _ _ ⟨Value.ref (s.heap.objs.size + 1) :: us, []⟩ (Value.ref (s.heap.objs.size + 1) :: us) _ _ (WE W σ) (hr.make C us [])
    (I2.env0.make C us []) bb r2 hq) fun r s' hq' => ?_))
  cases r with
  | error e => exact tk e s' (L2N.XE.of_call I2 (fun _ _ _ h => h) hq')
  | ok fl =>
    cases fl with
    | ret u =>
      obtain ⟨v, H', I3, rv, ev, q3⟩ := I2.after hq'
      subst ev
      exact ⟨rv, ⟨V.ref (s.heap.objs.size + 1), H', I3, rfl, q3⟩⟩
    | next => exact False.elim hq'
    | brk => exact False.elim hq'
    | cont => exact False.elim hq'
theorem pe_mk (c : KCal X.prog X.w X.K X.mg X.base k x C sp) (hr : Room (k + 1) X.A) (tk : L2N.Takes X W) (ha : PA X (e :: es) t) (hg : Gl X x := by rfl) (hdb : (x == ("__debug__" : Str)) = false := by decide)
    (he : starEach (e :: es) X.env = (false, eval e X.env) :: starEach es X.env := by rfl) (hpl : (backTo pos (starEach es X.env)).any (·.1) = false := by rfl) :
    PE X (.Call (.Name x p) (e :: es) [] pos) (tMakeS C sp (WE W) t) := by
  obtain ⟨f, fd, ps, M, F, hm, hb⟩ := c
  refine ⟨fun pins s σ H Q I h => ?_⟩
  refine wpAny_Call_Name_kw (ld_glob I hg hm ?_ hdb)
  refine PySem.W.callWith_K (h₀ := X.base) I.ok.mod.kin M.kp (thn (ha.run pos pins s σ H _ I h) fun us s1 ⟨vs, H1, I1, r, q⟩ => ⟨I1.kIn, ?_⟩) he hpl
  exact run_mkS M F hr hb tk I1 r q
theorem pe_mk0 (c : KCal X.prog X.w X.K X.mg X.base k x C sp) (hr : Room (k + 1) X.A) (tk : L2N.Takes X W) (hg : Gl X x := by rfl) (hdb : (x == ("__debug__" : Str)) = false := by decide) :
    PE X (.Call (.Name x p) [] [] pos) (tMakeS C sp (WE W) tNil) := by
  obtain ⟨f, fd, ps, M, F, hm, hb⟩ := c
  refine ⟨fun pins s σ H Q I h => ?_⟩
  refine wpAny_Call_Name_kw (ld_glob I hg hm ?_ hdb)
  exact PySem.W.callWith_K0 I.kIn M.kp (run_mkS (us := []) M F hr hb tk I .nil h)
end
/-! ### a def by its body -/
/-- the facts of a def of the module | of a method -/
abbrev FnP (K : PySem.W.Frag) (at_ : Str × Option Str) (x qual : Str) (st : Stmt) : Prop := ∃ fd, FunD K x qual (defArgs st) (defBody st) (defScope st) [] [] (He.fAd K at_) fd
section
variable {P : Program} {w : World} {K : PySem.W.Frag} {mg : Str → Option Value} {base : Heap}
theorem fn_cal {x : Str} {st : Stmt} {N ps : List Str} {k : Nat} {sp : Sp} (F : FnP K (x, none) x x st) (hm : mg x = some (.ref (He.ga K x))) (S : FnScope N ps (defScope st)) (len : ∀ vs H Q E, sp vs H Q E → vs.length = ps.length)
    (hbd : ∀ (kV doc pm : Value) (an : Option Addr) (cdv ct : Value) (us : List Value), us.length = ps.length → bindArgs (PySem.W.fnOf x x (defArgs st) (defBody st) (defScope st) .none kV doc pm an cdv ct) ⟨us, []⟩ = pure (ps.zip us))
    (hbody : ∀ (f : Addr) (cdv : Value) (A : Around) (outer : List Env) (s : Shared) (H : Hp) (vs : List V) (Q : VK) (E : XK), Room k (A.deeper (envOfC x (defScope st) s.heap.objs.size f cdv)) → sp vs H Q E →
      ∃ t, PSs (cxOf (L2N.CX P w) P w K mg base N x (defScope st) f cdv A outer s H E) (defBody st) t ∧ t { nx := fun _ H' => Q .non H', rt := Q } (start N vs) H) : Cal P w K mg base (k + 1) x sp := by
  obtain ⟨fd, F⟩ := F
  exact ⟨_, fd, ps, F.ok S len fun cdv A outer s H vs Q E hr h => hbody _ cdv A outer s H vs Q E hr h, hm, F.kp, F.bindsN hbd⟩
theorem fn_mcal {c m qual : Str} {st : Stmt} {N ps : List Str} {k : Nat} {sp : Sp} (F : FnP K (c, some m) m qual st) (hc : Cls K (He.ga K c)) (hm : Meth K (He.ga K c) m (He.ma K (He.ga K c) m)) (S : FnScope N ps (defScope st)) (len : ∀ vs H Q E, sp vs H Q E → vs.length = ps.length)
    (hbd : ∀ (kV doc pm : Value) (an : Option Addr) (cdv ct : Value) (us : List Value), us.length = ps.length → bindArgs (PySem.W.fnOf m qual (defArgs st) (defBody st) (defScope st) .none kV doc pm an cdv ct) ⟨us, []⟩ = pure (ps.zip us))
    (hbody : ∀ (f : Addr) (cdv : Value) (A : Around) (outer : List Env) (s : Shared) (H : Hp) (vs : List V) (Q : VK) (E : XK), Room k (A.deeper (envOfC qual (defScope st) s.heap.objs.size f cdv)) → sp vs H Q E →
      ∃ t, PSs (cxOf (L2N.CX P w) P w K mg base N qual (defScope st) f cdv A outer s H E) (defBody st) t ∧ t { nx := fun _ H' => Q .non H', rt := Q } (start N vs) H) : MCal P w K mg base (k + 1) (He.ga K c) m sp := by
  obtain ⟨fd, F⟩ := F
  exact ⟨hc, _, fd, ps, F.ok S len fun cdv A outer s H vs Q E hr h => hbody _ cdv A outer s H vs Q E hr h, hm, F.bindsN hbd⟩
theorem fn_kcal {c qual : Str} {st : Stmt} {N ps : List Str} {k : Nat} {sp : Sp} (F : FnP K (c, some "__init__") "__init__" qual st) (hm : mg c = some (.ref (He.ga K c))) (M : Mk K (He.ga K c) (He.ma K (He.ga K c) "__init__")) (S : FnScope N ps (defScope st)) (len : ∀ vs H Q E, sp vs H Q E → vs.length = ps.length)
    (hbd : ∀ (kV doc pm : Value) (an : Option Addr) (cdv ct : Value) (us : List Value), us.length = ps.length → bindArgs (PySem.W.fnOf "__init__" qual (defArgs st) (defBody st) (defScope st) .none kV doc pm an cdv ct) ⟨us, []⟩ = pure (ps.zip us))
    (hbody : ∀ (f : Addr) (cdv : Value) (A : Around) (outer : List Env) (s : Shared) (H : Hp) (vs : List V) (Q : VK) (E : XK), Room k (A.deeper (envOfC qual (defScope st) s.heap.objs.size f cdv)) → sp vs H Q E →
      ∃ t, PSs (cxOf (L2N.CX P w) P w K mg base N qual (defScope st) f cdv A outer s H E) (defBody st) t ∧ t { nx := fun _ H' => Q .non H', rt := Q } (start N vs) H) : KCal P w K mg base (k + 1) c (He.ga K c) sp := by
  obtain ⟨fd, F⟩ := F
  exact ⟨_, fd, ps, M, F.ok S len fun cdv A outer s H vs Q E hr h => hbody _ cdv A outer s H vs Q E hr h, hm, F.bindsN hbd⟩
end
/-! ### the built-in names -/
structure Blt (mg : Str → Option Value) : Prop where
  len : mg "len" = none
  range : mg "range" = none
  min : mg "min" = none
  max : mg "max" = none
  isi : mg "isinstance" = none
  int : mg "int" = none
  bool : mg "bool" = none
  str : mg "str" = none
  list : mg "list" = none
  tuple : mg "tuple" = none
  dict : mg "dict" = none
  sorted : mg "sorted" = none
  enumerate : mg "enumerate" = none
  zip : mg "zip" = none
  all : mg "all" = none
  ValueError : mg "ValueError" = none
end RP

/-! ### in an except suite: a def that is handed the caught error -/
namespace RP
open PySem PySem.Spec PyProof.Rows L2 L2H HotX
section
variable {prog : Program} {w : World} {A : Around} {E : Value → Shared → Prop} {s : Shared}
theorem list_end_hot {it l x1 : Addr} {i : Nat} {items} {Q : Option Value → Shared → Prop} (hot : HotAt A x1 s.heap)
    (hit : s.heap.IsListIter it l i) (hl : s.heap.IsList l items) (hx : items[i]? = none) (hne : x1 ≠ it)
    (hQ : ∀ h', (∀ b o, b ≠ it → s.heap.get? b = some o → h'.get? b = some o) → Q none { s with heap := h' }) : wpAny (model prog w) A (pyNext (.ref it)) Q E s := by
  obtain ⟨o, ho, hc, hd⟩ := id hit
  obtain ⟨ol, hol, _, nl, hdl⟩ := hl
  obtain ⟨hh, o1, vs1, h1, d1, c1⟩ := hot
  unfold pyNext
  refine wpAny_bind (wpAny_attempt (wpAny_callSpecial?_slot (name := Str.ofString "__next__") hit.typeIs slot_listiter_next
    (wpAny_call_entry slot_listiter_next hit.typeIs entry_listiter_next ?_ (args_listiter_next _))))
  show wpAny _ _ (field (.ref it) 0 >>= _) _ _ s
  refine wpAny_bind (wpAny_field ho hd (x := .ref l) rfl ?_)
  show wpAny _ _ (if (Value.ref l == Value.none) = true then _ else _) _ _ s
  rw [if_neg (show ¬ ((Value.ref l == Value.none) = true) from Bool.false_ne_true)]
  show wpAny _ _ (field (.ref it) 1 >>= _) _ _ s
  refine wpAny_bind (wpAny_field ho hd (x := .int i 0) rfl ?_)
  show wpAny _ _ (seqItems? (.ref l) >>= _) _ _ s
  refine wpAny_bind (wpAny_seqItems hol hdl ?_)
  simp only [Int.toNat_natCast, hx]
  refine wpAny_bind (wpAny_rule (wpAny_bind (wpAny_setField ho hd (by simp) ?_)))
  show wpAny _ _ (newExc (.type "StopIteration") [] >>= _) _ _ _
  refine wpAny_bind ?_
  simp only [newExc, newTuple]
  refine wpAny_bind (wpAny_newObj_type ?_ (by size_fits))
  refine wpAny_bind (m := firstArgMember _ _) (wpAny_of_eq (a := Value.none) (by first | rfl | (simp only [firstArgMember]; rfl)) ?_)
  refine wpAny_newObj_type ?_ (by size_fits)
  have h1' := (Heap.get?_update_other s.heap (Obj.mapFields (·.setIfInBounds 0 .none)) hne.symm).trans h1
  refine raiseNew_hot ⟨hh, o1, vs1, Heap.get?_push_of_some _ (Heap.get?_push_of_some _ h1'), d1, c1⟩ (Nat.ne_of_lt (Heap.lt_size (Heap.get?_push_of_some _ h1'))) (Heap.get?_push_size _ rfl) rfl (by first | (simp; done) | (simp; omega) | (simp only [Array.size_append]; simp; omega)) ?_
  refine wpAny_bind (wpAny_isInstance (T := "StopIteration") (b := true) ⟨_, Heap.get?_update_self _ (Heap.get?_push_size _ rfl) rfl, rfl⟩ isSubtype_stop ?_)
  refine wpAny_pure (hQ _ fun b o hb e => ?_)
  have e' := (Heap.get?_update_other s.heap (Obj.mapFields (·.setIfInBounds 0 .none)) (Ne.symm hb)).trans e
  rw [Heap.get?_update_other _ _ (Nat.ne_of_gt (Heap.lt_size (Heap.get?_push_of_some _ e')))]
  exact Heap.get?_push_of_some _ (Heap.get?_push_of_some _ e')
end

theorem turn_listH {P : Program} {w : World} {K : PySem.W.Frag} {tg : Expr} (a it : Addr) : TurnH P w K tg (Itl K a) [it] it (fun i h => h.IsListIter it a i) where
  mem := by simp
  obj := fun i h st b hb => by
    have e : b = it := by simpa using hb
    subst e
    obtain ⟨o, e, c, d⟩ := st
    exact ⟨o, e, fun v z => by rw [d] at z; cases z⟩
  keep := fun i h h' st k => st.at fun o e => k it (by simp) o e
  item := by
    intro X hP hw hK hc i pins s σ H E I hf st hg
    subst hP hw hK
    obtain ⟨xs, x, hq, hx⟩ := hg
    obtain ⟨its, rv, p, hz⟩ := I.list hq
    obtain ⟨u, hu, ru⟩ := rv.get hx
    obtain ⟨f0, f1, f2, f3, f4, f5⟩ := hf it (by simp)
    refine wpAny_pyNext_list_item st p.isList (x := u) (by simpa using hu) fun h' st' sb => ?_
    have I1 : Inv X pins σ H { s with heap := h' } := I.turned (t' := s.toks) (fun b o hb e => (sb.2 b hb).trans e) f0 f1 f3 f4 f5
    obtain ⟨o, e, c, d⟩ := id st'
    exact ⟨u, rfl, go_of (s := { s with heap := h' }) e c d (by decide) ⟨x, H, I1, ru, ⟨rfl, fun ys hy => by rw [I.list_inj hy hq]; exact hx⟩, st', fun b hb => (hf b hb).1⟩⟩
  done := by
    intro X hP hw hK hc i pins s σ H E I hf st hg
    subst hP hw hK
    obtain ⟨xs, hq, hx⟩ := hg
    obtain ⟨its, rv, p, hz⟩ := I.list hq
    obtain ⟨f0, f1, f2, f3, f4, f5⟩ := hf it (by simp)
    have hl := rv.length
    obtain ⟨q, ⟨hh, v1, e1, c1⟩, hq1⟩ := hc
    have P1 := I.pin q (List.mem_append_left _ hq1)
    have hne : q.1 ≠ it := f5 q (List.mem_append_left _ hq1)
    refine list_end_hot ⟨hh, q.2, v1, P1.1, e1, c1⟩ st p.isList (by simp; omega) hne fun h' eb => ⟨rfl, I.turned (t' := s.toks) eb f0 f1 f3 f4 f5⟩
  self := fun _ _ _ _ _ st h => wpAny_pyIter_listiter st h

section
variable {X : Cx} {tg : Expr}
theorem pi_listH {l : Expr} {tl : TE} (hl : PE X l tl) : PIH X tg l (iList X.K tl) := by
  refine ⟨fun pins s σ H R I h => thn (hl.run pins s σ H _ I h) fun v s1 ⟨x, H1, I1, r1, a, ex, ⟨xs, hq⟩, q⟩ => ?_⟩
  subst ex
  cases r1
  obtain ⟨its, rv, p, hz⟩ := I1.list hq
  refine wpAny_pyIter_list p.isList ?_
  refine ⟨s1.heap.objs.size, [s1.heap.objs.size], _, _, H1, rfl, I1.kept (t' := s1.toks) fun b o e => Heap.get?_push_of_some _ e, turn_listH a _, ⟨_, Heap.get?_push_size _ rfl, rfl, rfl⟩, fun b hb => ?_, q⟩
  have e : b = s1.heap.objs.size := by simpa using hb
  subst e
  exact I1.fpOk (Nat.le_refl _) (I1.hok.fresh (Nat.le_refl _))
end
/-- what a def promises that is called within a suite: p is the handled exception -/
structure FnE (P : Program) (w : World) (K : PySem.W.Frag) (mg : Str → Option Value) (base : Heap) (k : Nat) (f : Addr) (fd : FuncData) (ps : List Str) (sp : Addr → Value → Option Addr → Sp) : Prop where
  len : ∀ a c d vs H Q E, sp a c d vs H Q E → vs.length = ps.length
  run : ∀ (A : Around) (outer : List Env) (s : Shared) (H : Hp) (args : Args) (us : List Value) (vs : List V) (Q : VK) (E : XK) (p : Addr × Obj) (c : Value) (d : Option Addr), RoomH k A → Hot1 A p → L2N.Zn c d p.2 → PinOk outer H s p → Env0 P w K mg base A outer s H → BindsTo s fd args (ps.zip us) → Vals vs us → sp p.1 c d vs H Q E →
    codeAny (model P w) A (.call (.ref f) args) (CR (L2N.CX P w) outer P w H s Q E) s
theorem fn_ofE {P : Program} {w : World} {K : PySem.W.Frag} {mg : Str → Option Value} {base : Heap} {k : Nat} {f : Addr} {name qual : Str} {params : Arguments} {body : List Stmt} {scope : Scope} {dV kV doc pm cdv ct oc : Value} {an od : Option Addr}
    {osl : Array (Option Value)} {N ps : List Str} {sp : Addr → Value → Option Addr → Sp} (lk : K.lookup f = some ⟨oc, od, .func (PySem.W.fnOf name qual params body scope dV kV doc pm an cdv ct), osl⟩) (hcd : PySem.W.codeIn K cdv qual = true) (S : FnScope N ps scope)
    (len : ∀ a c d vs H Q E, sp a c d vs H Q E → vs.length = ps.length)
    (hbody : ∀ (A : Around) (outer : List Env) (s : Shared) (H : Hp) (vs : List V) (Q : VK) (E : XK) (p : Addr × Obj) (c : Value) (d : Option Addr), Hot1 A p → L2N.Zn c d p.2 → RoomH k (A.deeper (envOfC qual scope s.heap.objs.size f cdv)) → sp p.1 c d vs H Q E →
      ∃ t, PSs (cxH (L2N.CX P w) P w K mg base N qual scope f cdv A outer s H E p) body t ∧ t { nx := fun _ H' => Q .non H', rt := Q } (L2.start N vs) H) :
    FnE P w K mg base (k + 1) f (PySem.W.fnOf name qual params body scope dV kV doc pm an cdv ct) ps sp := by
  constructor
  · exact len
  intro A outer s H args us vs Q E p c d hr hot hz hpin e0 hb r hsp
  have hin : ∀ b o, base.get? b = some o → s.heap.get? b = some o := fun b o e => (e0.bs b o e).1
  have hK : K.In s.heap := PySem.W.Frag.In.keeps e0.mod.kin hin
  have hpar : ∀ y ∈ ps.zip us, scope.names.lookup y.1 = some .local ∨ (scope.names.lookup y.1 = some .cell ∧ ((cellsFrom (s.heap.objs.size + 1) scope.names []).lookup y.1).isSome = true) := by
    rintro ⟨n, v⟩ hy
    have q := S.par n (List.of_mem_zip hy).1
    cases q with
    | inl q => exact Or.inl q
    | inr q => exact Or.inr ⟨q, PySem.W.cellsFrom_some _ _ _ (Or.inl q)⟩
  refine codeAny_call_function hr.depth (hK _ _ lk) rfl S.co S.gen rfl (PySem.W.codeRec_of hK hcd) (hb _ _ _ _ (wpAny_newFunctionEnv_cells S.kind hpar ?_))
  intro env he s1 x
  subst he
  refine ⟨(e0.mod.nolimit.keeps hin).keeps x.toInCall.keep, codeAny_func ?_⟩
  obtain ⟨t, ht, hq⟩ := hbody A outer s H vs Q E p c d hot hz (hr.deeper _) hsp
  have I := inv_startH (CX := L2N.CX P w) (K := K) (mg := mg) (base := base) (N := N) (qual := qual) (f := f) (cd := cdv) (E := E) S hpin e0 (len _ _ _ _ _ _ _ hsp) r x
  refine wpAny_mono (ht.run [] s1 _ H _ I hq) ?_ fun _ _ z => z
  intro fl s' hs
  cases fl with
  | ret u => exact match hs with | ⟨v, _, H', J, rv, q⟩ => ⟨v, H', J.os, J.bare, J.base, J.hok, rv, q⟩
  | next => exact match hs with | ⟨_, H', J, q⟩ => ⟨V.non, H', J.os, J.bare, J.base, J.hok, rfl, q⟩
  | brk => exact match hs with | ⟨_, _, _, q⟩ => q.elim
  | cont => exact match hs with | ⟨_, _, _, q⟩ => q.elim
section
variable {X : Cx} {k : Nat} {sp : Addr → Value → Option Addr → Sp} {cls : Value} {dd : Option Addr} {W : WX} {x m : Str} {pos q : Pos} {e o : Expr} {es : List Expr} {ta : TE} {t : TA} {p : Addr × Obj}
/-- a def of the module, as a suite's call uses it -/
def CalE (P : Program) (w : World) (K : PySem.W.Frag) (mg : Str → Option Value) (base : Heap) (k : Nat) (x : Str) (sp : Addr → Value → Option Addr → Sp) : Prop :=
  ∃ (f : Addr) (fd : FuncData) (ps : List Str), FnE P w K mg base k f fd ps sp ∧ mg x = some (.ref f) ∧ PySem.W.keepIn K (.ref f) = true ∧ L2.Binds K fd ps []
theorem pe_fnE (c : CalE X.prog X.w X.K X.mg X.base k x sp) (hr : RoomH k X.A) {a : Addr} {oe : Obj} (hot : Hot1 X.A (a, oe)) (hz : L2N.Zn cls dd oe) (hp : (a, oe) ∈ X.pn) (tk : L2N.Takes X W) (ha : PA X (e :: es) t) (hg : Gl X x := by rfl) (hdb : (x == ("__debug__" : Str)) = false := by decide)
    (he : starEach (e :: es) X.env = (false, eval e X.env) :: starEach es X.env := by rfl) (hpl : (backTo pos (starEach es X.env)).any (·.1) = false := by rfl) :
    PE X (.Call (.Name x q) (e :: es) [] pos) (tCallS (sp a cls dd) (WE W) t) := by
  obtain ⟨f, fd, ps, F, hm, hk, hb⟩ := c
  constructor
  intro pins s σ H Q I h
  refine wpAny_Call_Name_kw (ld_glob I hg hm ?_ hdb)
  refine PySem.W.callWith_K (h₀ := X.base) I.ok.mod.kin hk (thn (ha.run pos pins s σ H _ I h) ?_) he hpl
  rintro us s1 ⟨vs, H1, I1, r, hsp⟩
  refine ⟨I1.kIn, ?_⟩
  have b := hb s1 us I1.kIn (by rw [List.append_nil, ← r.length]; exact F.len _ _ _ _ _ _ _ hsp)
  rw [List.append_nil] at b
  have P1 := I1.pin (a, oe) (List.mem_append_left _ hp)
  have hpin : PinOk X.stack H1 s1 (a, oe) := ⟨P1.1, P1.2.1, fun hm => (List.mem_cons.mp (I1.stkSub a hm)).elim P1.2.2.1 P1.2.2.2.1, P1.2.2.2.2⟩
  refine wpAny_call (codeAny_mono (F.run X.A X.stack s1 H1 ⟨us, []⟩ us vs Q (WE W σ) (a, oe) cls dd hr hot hz hpin I1.env0 b r hsp) fun rs s' hq => ?_)
  cases rs with
  | error e => exact L2N.passAt tk σ pins H1 s1 e s' I1 hq
  | ok fl => cases fl with
    | ret u => exact I1.after hq
    | next => exact hq.elim
    | brk => exact hq.elim
    | cont => exact hq.elim
def clsOf : V → Option Value
  | .ref a => some (.ref a)
  | .ty n => some (.type n)
  | _ => none
/-- isinstance(e, c), e the handled exception -/
def rIsEC (K : PySem.W.Frag) (a : Addr) (cls : Value) : List V → Hp → VK → Prop := fun xs H Q => ∃ (c : V) (cv : Value) (b : Bool), xs = [.ref a, c] ∧ clsOf c = some cv ∧ PySem.W.kitOne K cls cv = some b ∧ Q (.bl b) H
theorem isE {D a : Addr} {oe : Obj} (C : ExcC X.K D) (hp : (a, oe) ∈ X.pn) (hz : L2N.Zn cls dd oe) (hc : cls = .ref D) (hd : dd = none) (hf : ∃ vs, oe.data = .fields vs) : CallR X (.builtin "isinstance") (rIsEC X.K a cls) := by
  subst hc hd
  rintro pins s σ H xs us Q I r ⟨c, cv, b, rfl, hcv, e, q⟩
  obtain ⟨u1, u2, rfl, r1, r2⟩ := vals2 r
  cases r1
  have ec : u2 = cv := by
    cases c <;> simp only [clsOf, Option.some.injEq, reduceCtorEq] at hcv
    · rw [← hcv]; exact r2
    · rw [← hcv]; exact r2
  subst ec
  have hget := (I.pin (a, oe) (List.mem_append_left _ hp)).1
  have J : PySem.W.InstAt s.heap a oe D none := by
    obtain ⟨oc, od, oda, osl⟩ := oe
    obtain ⟨z1, z2, _⟩ := hz
    obtain ⟨vs, hv⟩ := hf
    dsimp only at z1 z2 hv
    subst z1 z2 hv
    exact ⟨hget, rfl, rfl, trivial⟩
  exact PySem.W.kia_one (PySem.W.handS_kitx_exc C.hg C.hk C.hs C.hd C.ha C.hn C.ht C.hm) I.kIn J e (fun z => nomatch z) fun tk => ⟨.bl b, H, I.kept (t' := tk) fun _ _ z => z, rfl, q⟩
theorem tkN {a' : Addr} {pn' : List (Addr × Obj)} : L2N.Takes (X.suite a' pn') (fun _ _ _ _ => False) := fun _ _ ⟨_, _, _, _, _, _, _, _, _, _, _, _, _, _, _, _, w⟩ => w.elim
theorem tkB {s : Shared} {H : Hp} {sc : Scope} {ce : Env} {fp : List Addr} : L2N.Takes (X.blk s H sc ce fp) (fun _ _ _ _ => False) := fun _ _ ⟨_, _, _, _, _, _, _, _, _, _, _, _, _, _, _, _, w⟩ => w.elim
end
/-- a def of the module for suites, by its body -/
theorem fn_calE {P : Program} {w : World} {K : PySem.W.Frag} {mg : Str → Option Value} {base : Heap} {x : Str} {st : Stmt} {N ps : List Str} {k : Nat} {sp : Addr → Value → Option Addr → Sp} (F : FnP K (x, none) x x st) (hm : mg x = some (.ref (He.ga K x))) (S : FnScope N ps (defScope st))
    (len : ∀ a c d vs H Q E, sp a c d vs H Q E → vs.length = ps.length)
    (hbd : ∀ (kV doc pm : Value) (an : Option Addr) (cdv ct : Value) (us : List Value), us.length = ps.length → bindArgs (PySem.W.fnOf x x (defArgs st) (defBody st) (defScope st) .none kV doc pm an cdv ct) ⟨us, []⟩ = pure (ps.zip us))
    (hbody : ∀ (f : Addr) (cdv : Value) (A : Around) (outer : List Env) (s : Shared) (H : Hp) (vs : List V) (Q : VK) (E : XK) (p : Addr × Obj) (c : Value) (d : Option Addr), Hot1 A p → L2N.Zn c d p.2 → RoomH k (A.deeper (envOfC x (defScope st) s.heap.objs.size f cdv)) → sp p.1 c d vs H Q E →
      ∃ t, PSs (cxH (L2N.CX P w) P w K mg base N x (defScope st) f cdv A outer s H E p) (defBody st) t ∧ t { nx := fun _ H' => Q .non H', rt := Q } (L2.start N vs) H) : CalE P w K mg base (k + 1) x sp := by
  obtain ⟨fd, F⟩ := F
  obtain ⟨oc, od, dV, kV, doc, pm, an, cdv, ct, osl, rfl, lk, hcd, _, _⟩ := F.ex
  exact ⟨_, _, ps, fn_ofE lk hcd S len fun A outer s H vs Q E p c d h1 h2 hr h => hbody _ cdv A outer s H vs Q E p c d h1 h2 hr h, hm, F.kp, F.bindsN hbd⟩
theorem roomS {j k : Nat} {A : Around} {x : Option Value} (hr : Room j A) (h : k ≤ j) : RoomH k (A.mark x) := ⟨(roomH_of (hr.mono h)).dp, (roomH_of (hr.mono h)).un⟩
end RP

/-! ### rules whose readings simp can reckon -/
namespace RP
open PySem PySem.Spec PyProof.Rows L2
section
variable {X : Cx} {e : Expr} {st : Stmt}
theorem pe_imp {t t' : TE} (h : PE X e t) (i : ∀ σ H Q, t' σ H Q → t σ H Q) : PE X e t' := ⟨fun pins s σ H Q I q => h.run pins s σ H Q I (i σ H Q q)⟩
theorem pt_imp {t t' : TT} (h : PT X e t) (i : ∀ σ H Q, t' σ H Q → t σ H Q) : PT X e t' := ⟨fun pins s σ H Q I q => h.run pins s σ H Q I (i σ H Q q)⟩
theorem ps_imp {t t' : TS} (h : PS X st t) (i : ∀ D σ H, t' D σ H → t D σ H) : PS X st t' := ⟨fun pins s σ H D I q => h.run pins s σ H D I (i D σ H q)⟩
theorem call_imp {f : Value} {r r' : List V → Hp → VK → Prop} (h : CallR X f r) (i : ∀ vs H Q, r' vs H Q → r vs H Q) : CallR X f r' := fun pins s σ H xs us Q I v q => h pins s σ H xs us Q I v (i xs H Q q)
theorem op_imp {f : Value → Value → Sem Value} {r r' : R2} (h : OpR X f r) (i : ∀ x y H Q, r' x y H Q → r x y H Q) : OpR X f r' := fun pins s σ H x y v u Q I rx ry q => h pins s σ H x y v u Q I rx ry (i x y H Q q)
theorem ix_imp {r r' : R2} (h : IxR X r) (i : ∀ x y H Q, r' x y H Q → r x y H Q) : IxR X r' := fun a b pins s σ H x y v u Q I rx ry q => h a b pins s σ H x y v u Q I rx ry (i x y H Q q)
end
/-! #### what stands at a value -/
def tyN (H : Hp) : V → Option String
  | .non => some "NoneType"
  | .bl _ => some "bool"
  | .int _ => some "int"
  | .str _ => some "str"
  | .ref a => match H a with
    | some (.lst _) => some "list"
    | some (.tup _) => some "tuple"
    | some (.dK _) => some "dict"
    | _ => none
  | _ => none
def seqO (H : Hp) (a : Addr) : Option (List V) := match H a with
  | some (.lst xs) => some xs
  | some (.tup xs) => some xs
  | some (.frz _ (.lst xs)) => some xs
  | _ => none
def keyV : V → Option Key
  | .int n => some (.inl n)
  | .str x => some (.inr x)
  | _ => none
theorem keyV_eq {v : V} {k : Key} (h : keyV v = some k) : v = kV k := by
  cases v <;> simp only [keyV, Option.some.injEq, reduceCtorEq] at h <;> subst h <;> rfl
theorem tyN_ok {K : PySem.W.Frag} {H : Hp} {x : V} {t : String} (h : tyN H x = some t) : TyX K H x (.type t) := by
  cases x with
  | non => cases h; exact .base .non
  | bl b => cases h; exact .base (.bl b)
  | int i => cases h; exact .base (.int i)
  | str s => cases h; exact .base (.str s)
  | byt b => cases h
  | flt b => cases h
  | ty n => cases h
  | ref a =>
    unfold tyN at h
    dsimp only at h
    split at h
    · cases h; exact .base (.lst (by assumption))
    · cases h; exact .base (.tup (by assumption))
    · cases h; exact .base (.dK (by assumption))
    · cases h
theorem seqO_ok {K : PySem.W.Frag} {H : Hp} {a : Addr} {xs : List V} (h : seqO H a = some xs) : SqL K H a xs ∨ SqT K H a xs := by
  unfold seqO at h
  split at h
  · cases h; exact .inl (SqL.of (by assumption))
  · cases h; exact .inr (SqT.of (by assumption))
  · cases h; exact .inl (.inl (.inr ⟨_, by assumption⟩))
  · cases h
section
variable {X : Cx}
def rIsC : List V → Hp → VK → Prop := fun vs H Q => ∃ x c t b, vs = [x, .ty c] ∧ tyN H x = some t ∧ kitB t c = some b ∧ Q (.bl b) H
theorem call_isC : CallR X (.builtin "isinstance") rIsC := call_imp call_isi fun vs H Q ⟨x, c, t, b, e, h1, h2, q⟩ => ⟨x, .ty c, .type t, .type c, b, e, .ty c, tyN_ok h1, kit_ty h2, q⟩
def lenO (H : Hp) (a : Addr) : Option Nat := match H a with
  | some (.dK kvs) => some kvs.length
  | _ => (seqO H a).map List.length
def rLenC : List V → Hp → VK → Prop := fun vs H Q => ∃ a n, vs = [.ref a] ∧ lenO H a = some n ∧ Q (.int (n : Int)) H
theorem call_lenC : CallR X (.builtin "len") rLenC := by
  intro pins s σ H xs us Q I r h
  obtain ⟨a, n, rfl, e, q⟩ := h
  unfold lenO at e
  split at e
  · cases e
    exact call_lenD pins s σ H _ us Q I r ⟨_, _, rfl, by assumption, q⟩
  · obtain ⟨ys, e1, rfl⟩ := Option.map_eq_some_iff.mp e
    exact call_len_seq pins s σ H _ us Q I r ⟨_, _, rfl, seqO_ok e1, q⟩
def rIxC : R2 := fun x y H Q => ∃ p xs i v, x = .ref p ∧ y = .int i ∧ seqO H p = some xs ∧ atI xs i = some v ∧ Q v H
theorem ix_C : IxR X rIxC := ix_imp (IxR.or ix_list ix_tup) fun x y H Q ⟨p, xs, i, v, e1, e2, h, a, q⟩ => (seqO_ok (K := X.K) h).elim (fun z => .inl ⟨p, xs, i, v, e1, e2, z, a, q⟩) fun z => .inr ⟨p, xs, i, v, e1, e2, z, a, q⟩
def rInC (neg : Bool) : R2 := fun x y H Q => ∃ p xs, y = .ref p ∧ seqO H p = some xs ∧ flatV x = true ∧ xs.all flatV = true ∧ Q (.bl (if neg then !inV x xs else inV x xs)) H
theorem op_inC : OpR X (compareOp .In) (rInC false) := op_imp op_in_seq fun x y H Q ⟨p, xs, e, h, f1, f2, q⟩ => ⟨p, xs, e, seqO_ok h, f1, f2, q⟩
theorem op_notInC : OpR X (compareOp .NotIn) (rInC true) := op_imp op_notIn_seq fun x y H Q ⟨p, xs, e, h, f1, f2, q⟩ => ⟨p, xs, e, seqO_ok h, f1, f2, q⟩
/-! #### dicts with keys that are ints or texts -/
variable {a b o i value : Expr} {pos pos' apos cpos : Pos} {td ty tv te : TE}
def tInD (neg : Bool) (ty td : TE) : TE := fun σ H Q => ty σ H fun y H1 => td σ H1 fun x H2 => ∃ a kvs k, x = .ref a ∧ H2 a = some (.dK kvs) ∧ keyV y = some k ∧ Q (.bl (if neg then !(valV kvs k).isSome else (valV kvs k).isSome)) H2
theorem pc_imp {op : CmpOp} {t t' : TE} (h : PC X op a b t) (i : ∀ σ H Q, t' σ H Q → t σ H Q) : PC X op a b t' := ⟨fun pins s σ H Q I q => h.run pins s σ H Q I (i σ H Q q)⟩
/-- what must hold, by a wish that is less -/
def tMn (t : TE) : TE := fun σ H Q => ∃ R : VK, t σ H R ∧ ∀ x H1, R x H1 → Q x H1
theorem pe_mn {t : TE} (h : PE X a t) : PE X a (tMn t) := ⟨fun pins s σ H Q I ⟨R, r, m⟩ => thn (h.run pins s σ H R I r) fun u s1 ⟨v, H1, I1, rv, q⟩ => ⟨v, H1, I1, rv, m _ _ q⟩⟩
def tMnA (t : TA) : TA := fun σ H Q => ∃ R : List V → Hp → Prop, t σ H R ∧ ∀ x H1, R x H1 → Q x H1
theorem getK {H : Hp} {a : Addr} {kvs : List (Key × V)} {k : Key} {y : V} (e : H a = some (.dK kvs)) (h : keyV y = some k) : DGet H a y (valV kvs k) := by
  rw [keyV_eq h]
  exact DGet.k e
theorem pc_inD (hu : X.A.units + 1 < cLine) (hi : PE X i ty) (ho : PE X o td) : PC X .In i o (tInD false ty td) :=
  pc_imp (pc_din hu (pe_mn hi) (pe_mn ho)) fun σ H Q h => ⟨_, h, fun y H1 q => ⟨_, q, fun x H2 ⟨a, kvs, k, e, ea, ek, q⟩ => ⟨a, _, e, getK ea ek, q⟩⟩⟩
theorem pc_notinD (hu : X.A.units + 1 < cLine) (hi : PE X i ty) (ho : PE X o td) : PC X .NotIn i o (tInD true ty td) :=
  pc_imp (pc_dnotin hu (pe_mn hi) (pe_mn ho)) fun σ H Q h => ⟨_, h, fun y H1 q => ⟨_, q, fun x H2 ⟨a, kvs, k, e, ea, ek, q⟩ => ⟨a, _, e, getK ea ek, q⟩⟩⟩
def tGetD (td ty : TE) : TE := fun σ H Q => td σ H fun x H1 => ty σ H1 fun y H2 => ∃ a kvs k v, x = .ref a ∧ H2 a = some (.dK kvs) ∧ keyV y = some k ∧ valV kvs k = some v ∧ Q v H2
theorem pe_getD (hu : X.A.units + 1 < cLine) (ho : PE X o td) (hi : PE X i ty) (hs : NoSl i) : PE X (.Subscript o i pos) (tGetD td ty) :=
  pe_imp (pe_dget hu (pe_mn ho) (pe_mn hi) hs) fun σ H Q h => ⟨_, h, fun y H1 q => ⟨_, q, fun x H2 ⟨a, kvs, k, v, e, ea, ek, ev, q⟩ => ⟨a, v, e, ev ▸ getK ea ek, q⟩⟩⟩
def sPutD (td ty tv : TE) : TS := fun D σ H => tv σ H fun v H1 => td σ H1 fun x H2 => ty σ H2 fun y H3 => ∃ a kvs k, x = .ref a ∧ H3 a = some (.dK kvs) ∧ keyV y = some k ∧ kvs.length < sizeLine ∧ D.nx σ (upd H3 a (.dK (putK kvs k v)))
theorem ps_putD (hu : X.A.units + 1 < cLine) (ho : PE X o td) (hi : PE X i ty) (hv : PE X value tv) (hs : swapsWith value (some (.Subscript o i pos')) pos.line X.env = pure false) :
    PS X (.Assign [.Subscript o i pos'] value pos) (sPutD td ty tv) :=
  ps_imp (ps_dput hu (pe_mn ho) (pe_mn hi) (pe_mn hv) hs) fun D σ H h => ⟨_, h, fun v H1 q => ⟨_, q, fun x H2 q => ⟨_, q, fun y H3 ⟨a, kvs, k, e, ea, ek, hl, q⟩ => ⟨a, _, e, by rw [keyV_eq ek]; exact DPut.k ea hl, q⟩⟩⟩⟩
def tPopD (td ty : TE) : TE := fun σ H Q => td σ H fun x H1 => ∃ a kvs, x = .ref a ∧ H1 a = some (.dK kvs) ∧ ty σ H1 fun y H2 => ∃ kvs k v, H2 a = some (.dK kvs) ∧ keyV y = some k ∧ valV kvs k = some v ∧ Q v (upd H2 a (.dK (dropK kvs k)))
theorem pe_popD (ho : PE X o td) (he : PE X e ty) (m : M1 X o "pop" apos e cpos) : PE X (.Call (.Attribute o "pop" apos) [e] [] cpos) (tPopD td ty) :=
  pe_imp (pe_dpop1 (pe_mn ho) (pe_mn he) m) fun σ H Q h => ⟨_, h, fun x H1 ⟨a, kvs, e, ea, q⟩ => ⟨a, e, (.inl ⟨kvs, .inl ea⟩), ⟨_, q, fun y H2 ⟨kvs, k, v, e2, ek, ev, q⟩ => ⟨kvs, k, v, e2, keyV_eq ek, ev, q⟩⟩⟩⟩
/-! #### lists -/
variable {tl : TE} {t : TA} {es : List Expr}
def tAppC (tl te : TE) : TE := fun σ H Q => tl σ H fun x H1 => ∃ l ys, x = .ref l ∧ H1 l = some (.lst ys) ∧ te σ H1 fun y H2 => ∃ xs, H2 l = some (.lst xs) ∧ xs.length < sizeLine ∧ Q .non (upd H2 l (.lst (xs ++ [y])))
theorem pe_app (hl : PE X o tl) (he : PE X e te) (hbase : attributeBase o "append" X.env (eval o X.env) = eval o X.env := by rfl)
    (hfew : ((backTo cpos (starEach [e] X.env)).all (fun x => !x.1) && (backToKw cpos (keywordEach [] X.env)).all (fun x => x.1.isSome) && decide (([e] : List Expr).length + ([] : List Keyword).length + (if ([] : List Keyword).isEmpty then 0 else 1) < 30)) = true := by rfl)
    (hline : (apos.endLine == cpos.line) = true := by rfl) (hs : starEach [e] X.env = (false, eval e X.env) :: starEach [] X.env := by rfl) (hplain : (backTo cpos (starEach [] X.env)).any (·.1) = false := by rfl) :
    PE X (.Call (.Attribute o "append" apos) [e] [] cpos) (tAppC tl te) :=
  pe_imp (pe_bm PySem.F.plainAttrs_list PySem.F.slot_list_append PySem.F.type_list_append mt_append (pe_mn hl) (pa_cons (pe_mn he) pa_nil hs) hbase hfew hline hs hplain)
    fun σ H Q h => ⟨_, h, fun x H1 ⟨l, ys, e1, e2, q⟩ => ⟨by rw [e1]; exact .inl ⟨rfl, _, SqL.of e2⟩, ⟨_, q, fun y H2 ⟨xs, e3, z, q⟩ => ⟨l, xs, y, e1, rfl, e3, z, q⟩⟩⟩⟩
/-! #### data, compared -/
def mapO (f : V → Option PyData) : List V → Option (List PyData)
  | [] => some []
  | v :: r => match f v, mapO f r with
    | some d, some ds => some (d :: ds)
    | _, _ => none
def dat (H : Hp) : Nat → V → Option PyData
  | _, .non => some .none
  | _, .bl b => some (.bool b)
  | _, .int i => some (.int i)
  | _, .str x => some (.str x)
  | n + 1, .ref a => match H a with
    | some (.lst xs) => (mapO (dat H n) xs).map PyData.list
    | some (.tup xs) => (mapO (dat H n) xs).map PyData.tuple
    | some (.frz _ (.lst xs)) => (mapO (dat H n) xs).map PyData.list
    | _ => none
  | _, _ => none
theorem mapO_ok {K : PySem.W.Frag} {H : Hp} {f : V → Option PyData} (hf : ∀ v d, f v = some d → Dp K H v d) : ∀ {xs : List V} {ds : List PyData}, mapO f xs = some ds → DpAll K H xs ds
  | [], ds, h => by cases h; exact .nil
  | v :: r, ds, h => by
    unfold mapO at h
    split at h
    · rename_i d ds' h1 h2
      cases h
      exact .cons (hf _ _ h1) (mapO_ok hf h2)
    · cases h
theorem dat_ok {K : PySem.W.Frag} {H : Hp} : ∀ (n : Nat) (v : V) (d : PyData), dat H n v = some d → Dp K H v d
  | _, .non, d, h => by
    unfold dat at h
    cases h
    exact .non
  | _, .bl b, d, h => by
    unfold dat at h
    cases h
    exact .bl b
  | _, .int i, d, h => by
    unfold dat at h
    cases h
    exact .int i
  | _, .str x, d, h => by
    unfold dat at h
    cases h
    exact .str x
  | 0, .ref a, d, h => by
    unfold dat at h
    cases h
  | n + 1, .ref a, d, h => by
    unfold dat at h
    split at h
    · obtain ⟨ds, e, rfl⟩ := Option.map_eq_some_iff.mp h
      exact .lst (SqL.of (by assumption)) (mapO_ok (dat_ok n) e)
    · obtain ⟨ds, e, rfl⟩ := Option.map_eq_some_iff.mp h
      exact .tup (SqT.of (by assumption)) (mapO_ok (dat_ok n) e)
    · obtain ⟨ds, e, rfl⟩ := Option.map_eq_some_iff.mp h
      exact .lst (.inl (.inr ⟨_, by assumption⟩)) (mapO_ok (dat_ok n) e)
    · cases h
  | 0, .byt b, d, h => by unfold dat at h; cases h
  | 0, .flt b, d, h => by unfold dat at h; cases h
  | 0, .ty n, d, h => by unfold dat at h; cases h
  | _ + 1, .byt b, d, h => by unfold dat at h; cases h
  | _ + 1, .flt b, d, h => by unfold dat at h; cases h
  | _ + 1, .ty n, d, h => by unfold dat at h; cases h
def rEqC (neg : Bool) : R2 := fun x y H Q => ∃ d e, dat H 8 x = some d ∧ dat H 8 y = some e ∧ SeqAt.shaped d = true ∧ SeqAt.shaped e = true ∧ Q (.bl (if neg then !PyData.eqv d e else PyData.eqv d e)) H
theorem op_eqC (hu : X.A.units + 64 < cLine) : OpR X (compareOp .Eq) (rEqC false) := op_imp (op_eqD hu) fun x y H Q ⟨d, e, h1, h2, s1, s2, q⟩ => ⟨d, e, dat_ok _ _ _ h1, dat_ok _ _ _ h2, s1, s2, q⟩
theorem op_neC (hu : X.A.units + 64 < cLine) : OpR X (compareOp .NotEq) (rEqC true) := op_imp (op_neD hu) fun x y H Q ⟨d, e, h1, h2, s1, s2, q⟩ => ⟨d, e, dat_ok _ _ _ h1, dat_ok _ _ _ h2, s1, s2, q⟩
/-! #### text * int -/
theorem op_mul_str : OpR X (binaryOp .Mult) (fun x y H Q => ∃ z n, x = .str z ∧ y = .int n ∧ MulOk z n ∧ Q (.str (Txt.mul z n)) H) := by
  rintro pins s σ H x y v u Q I rx ry ⟨z, n, rfl, rfl, hz, q⟩
  obtain ⟨t, rfl⟩ := rx
  obtain ⟨t', rfl⟩ := ry
  exact SB.mul hz fun t1 k => ⟨.str (Txt.mul z n), H, I.tok _, ⟨_, rfl⟩, q⟩
/-! #### is, is not of truth values -/
end
/-! #### min of three, of four -/
section
variable {prog : Program} {w : World} {A : Around} {E : Value → Shared → Prop} {s : Shared}
theorem call_min_of {us : List Value} (hsz : sizeOk (.seq us.toArray)) (ha : argsOk "min" ⟨us, []⟩) (hp : ∀ s : Shared, (Builtin.Builtins.bindParams "min" ["key", "default"] 0 ⟨[], []⟩) = pure [none, none]) {a b : Value} {r : List Value} (hus : us = a :: b :: r) {Q : Value → Shared → Prop}
    (h : wpAny (model prog w) A.in1 (pyIter (.ref s.heap.objs.size)) (fun it s₂ => ∃ I fp wr n P St bt, it = .ref I ∧ Walks prog w A.in1 I fp wr n P St ∧ St 0 s₂.heap ∧ (∀ b ∈ fp, b < s₂.heap.objs.size) ∧ 0 < n ∧ CmpOf prog w A.in1 .Lt P bt ∧
      ∀ v h' tk, P (argBest bt (n - 1)) v → (∀ b o, b ∉ wr → s₂.heap.get? b = some o → h'.get? b = some o) → Q v { s₂ with heap := h', toks := tk }) E
      { s with heap := s.heap.push { cls := .type "tuple", data := .seq us.toArray } }) :
    wpAny (model prog w) A (call (.builtin "min") us) Q E s := by
  subst hus
  have hname : (toString "min" ++ toString ".loop" : String) = "min.loop" := by decide
  refine call_function_tree F.kind_min F.plain_min F.entry_min ha ?_
  show wpAny _ A.in1 (Builtin.Builtins.bindParams "min" ["key", "default"] 0 ⟨[], []⟩ >>= _) _ _ s
  refine wpAny_bind (wpAny_of_eq (hp s) ?_)
  show wpAny _ A.in1 (newTuple (a :: b :: r) >>= _) _ _ s
  refine wpAny_bind (wpAny_newObj_type ?_ hsz)
  refine wpAny_bind (wpAny_mono h (fun it s₂ h₂ => ?_) fun _ _ e => e)
  obtain ⟨I, fp, wr, n, P, St, bt, rfl, W, hst, hfp, hn, hcmp, hQ⟩ := h₂
  refine wpAny_bind (wpAny_newObj_type ?_)
  have hSf : s₂.heap.objs.size ∉ fp := fun hm => Nat.lt_irrefl _ (hfp _ hm)
  rw [hname]
  refine wpAny_pure ⟨plainId_quiet F.plain_min_loop _, codeAny_min_loop_first W bt hcmp s₂.heap.objs.size hSf hn (W.frame _ _ _ hst fun b _ o e => Heap.get?_push_of_some _ e) (Heap.get?_push_size _ rfl) fun v h' tk hP hk => ?_⟩
  exact hQ v h' tk hP fun b o hbw e => hk b o hbw (Nat.ne_of_lt (Heap.lt_size e)) (Heap.get?_push_of_some _ e)
theorem min_walk {xs : Array (Int × Tok)} {us : List Value} (hxs : (intItems xs).toList = us) (hsz : sizeOk (.seq us.toArray)) (ha : argsOk "min" ⟨us, []⟩) {a b : Value} {r : List Value} (hus : us = a :: b :: r) (hh : A.handled = none) {Q : Value → Shared → Prop}
    (h : ∀ v h' tk, (intItems xs)[argBest (fun i j => decide (numAt xs i < numAt xs j)) (xs.size - 1)]? = some v → (∀ c o, s.heap.get? c = some o → h'.get? c = some o) → Q v { s with heap := h', toks := tk }) :
    wpAny (model prog w) A (call (.builtin "min") us) Q E s := by
  have hu : us.toArray = intItems xs := by rw [← hxs]
  have hT : (s.heap.push { cls := .type "tuple", data := .seq us.toArray }).IsTuple s.heap.objs.size (intItems xs) := ⟨_, Heap.get?_push_size _ rfl, rfl, 0, by rw [hu]⟩
  have hn : 0 < (intItems xs).size := by rw [← hu, hus]; simp
  refine call_min_of hsz ha (fun _ => rfl) hus (wpAny_pyIter_tuple hT ?_)
  have hs1 : (s.heap.push { cls := .type "tuple", data := .seq us.toArray }).objs.size = s.heap.objs.size + 1 := Heap.size_push ..
  refine ⟨_, [_, s.heap.objs.size], [_], _, _, _, _, rfl, Walks.tuple (A := A.in1) hh _ s.heap.objs.size (by rw [hs1]; exact Nat.ne_of_lt (Nat.lt_succ_self _)) (intItems xs),
    ⟨⟨_, Heap.get?_push_size _ rfl, rfl, rfl⟩, hT.push _⟩, fun c hc => ?_, hn, CmpOf.ints_lt (numAt xs) (fun _ _ => intItems_at), fun v h' tk hP hk => ?_⟩
  · show c < ((s.heap.push _).push _).objs.size
    rw [Heap.size_push, hs1]
    simp only [List.mem_cons, List.not_mem_nil, or_false, hs1] at hc
    rcases hc with rfl | rfl
    · exact Nat.lt_succ_self _
    · exact Nat.lt_succ_of_lt (Nat.lt_succ_self _)
  · refine h v h' tk (by simpa [intItems] using hP) fun c o e => hk c o (fun hm => ?_) (Heap.get?_push_of_some _ (Heap.get?_push_of_some _ e))
    have hlt := Heap.lt_size e
    simp only [List.mem_cons, List.not_mem_nil, or_false, hs1] at hm
    rw [hm] at hlt
    exact Nat.lt_irrefl _ (Nat.lt_of_succ_lt hlt)
def mn2 (a b : Int) : Int := if b < a then b else a
theorem args_min3 (a b c : Value) : argsOk "min" ⟨[a, b, c], []⟩ := by unfold argsOk; kernel_rfl
theorem args_min4 (a b c d : Value) : argsOk "min" ⟨[a, b, c, d], []⟩ := by unfold argsOk; kernel_rfl
theorem min_three {a b c : Int} {t u v : Tok} {Q : Value → Shared → Prop} (hh : A.handled = none)
    (h : ∀ h' tk z, (∀ c o, s.heap.get? c = some o → h'.get? c = some o) → Q (.int (mn2 (mn2 a b) c) z) { s with heap := h', toks := tk }) :
    wpAny (model prog w) A (call (.builtin "min") [.int a t, .int b u, .int c v]) Q E s := by
  refine min_walk (us := [.int a t, .int b u, .int c v]) (xs := #[(a, t), (b, u), (c, v)]) (by simp [intItems]) (by size_fits) (args_min3 _ _ _) rfl hh fun r h' tk hr hk => ?_
  have e : ∃ z, r = .int (mn2 (mn2 a b) c) z := by
    unfold mn2
    by_cases h1 : b < a <;> by_cases h2 : c < b <;> by_cases h3 : c < a <;> simp [intItems, argBest, numAt, h1, h2, h3] at hr ⊢ <;> subst hr <;> exact ⟨_, rfl⟩
  obtain ⟨z, rfl⟩ := e
  exact h h' tk z hk
theorem min_four {a b c d : Int} {t u v y : Tok} {Q : Value → Shared → Prop} (hh : A.handled = none)
    (h : ∀ h' tk z, (∀ c o, s.heap.get? c = some o → h'.get? c = some o) → Q (.int (mn2 (mn2 (mn2 a b) c) d) z) { s with heap := h', toks := tk }) :
    wpAny (model prog w) A (call (.builtin "min") [.int a t, .int b u, .int c v, .int d y]) Q E s := by
  refine min_walk (us := [.int a t, .int b u, .int c v, .int d y]) (xs := #[(a, t), (b, u), (c, v), (d, y)]) (by simp [intItems]) (by size_fits) (args_min4 _ _ _ _) rfl hh fun r h' tk hr hk => ?_
  have e : ∃ z, r = .int (mn2 (mn2 (mn2 a b) c) d) z := by
    unfold mn2
    by_cases h1 : b < a <;> by_cases h2 : c < b <;> by_cases h3 : c < a <;> by_cases h4 : d < a <;> by_cases h5 : d < b <;> by_cases h6 : d < c <;> simp [intItems, argBest, numAt, h1, h2, h3, h4, h5, h6] at hr ⊢ <;> subst hr <;> exact ⟨_, rfl⟩
  obtain ⟨z, rfl⟩ := e
  exact h h' tk z hk
end
section
variable {X : Cx}
theorem call_min3 (hc : X.calm = true) : CallR X (.builtin "min") (fun xs H Q => ∃ i j k, xs = [.int i, .int j, .int k] ∧ Q (.int (mn2 (mn2 i j) k)) H) := by
  rintro pins s σ H xs us Q I r ⟨i, j, k, rfl, q⟩
  cases r with
  | cons r1 r => cases r with
    | cons r2 r => cases r with
      | cons r3 r =>
        cases r
        obtain ⟨t1, rfl⟩ := r1
        obtain ⟨t2, rfl⟩ := r2
        obtain ⟨t3, rfl⟩ := r3
        exact min_three (I.ok.hd hc) fun h' tk z kp => ⟨.int _, H, I.kept kp, ⟨_, rfl⟩, q⟩
theorem call_min4 (hc : X.calm = true) : CallR X (.builtin "min") (fun xs H Q => ∃ i j k l, xs = [.int i, .int j, .int k, .int l] ∧ Q (.int (mn2 (mn2 (mn2 i j) k) l)) H) := by
  rintro pins s σ H xs us Q I r ⟨i, j, k, l, rfl, q⟩
  cases r with
  | cons r1 r => cases r with
    | cons r2 r => cases r with
      | cons r3 r => cases r with
        | cons r4 r =>
          cases r
          obtain ⟨t1, rfl⟩ := r1
          obtain ⟨t2, rfl⟩ := r2
          obtain ⟨t3, rfl⟩ := r3
          obtain ⟨t4, rfl⟩ := r4
          exact min_four (I.ok.hd hc) fun h' tk z kp => ⟨.int _, H, I.kept kp, ⟨_, rfl⟩, q⟩
end
end RP

/-! ### readings, reckoned by simp: one theorem of equations -/
namespace RP
open PySem PySem.Spec PyProof.Rows L2
theorem RDa :
    (∀ (i : Nat) (σ : L2.St) (H : Hp) (Q : VK), tVar i σ H Q = ∃ v, σ[i]? = some (some v) ∧ Q v H) ∧
    (∀ (v : V) (σ : L2.St) (H : Hp) (Q : VK), tC v σ H Q = Q v H) ∧
    (∀ (r : R2) (ta tb : TE) (σ : L2.St) (H : Hp) (Q : VK), tOp r ta tb σ H Q = ta σ H fun x H1 => tb σ H1 fun y H2 => r x y H2 Q) ∧
    (∀ (r : V → Hp → VK → Prop) (ta : TE) (σ : L2.St) (H : Hp) (Q : VK), tUn r ta σ H Q = ta σ H fun x H1 => r x H1 Q) ∧
    (∀ (C : Int → Int → Prop) (g : Int → Int → V) (x y : V) (H : Hp) (Q : VK), rI C g x y H Q = ∃ i j, x = .int i ∧ y = .int j ∧ C i j ∧ Q (g i j) H) ∧
    (∀ (g : Int → Int → V) (x y : V) (H : Hp) (Q : VK), rI0 g x y H Q = ∃ i j, x = .int i ∧ y = .int j ∧ Q (g i j) H) ∧
    (∀ (g : Int → V) (x : V) (H : Hp) (Q : VK), rU g x H Q = ∃ i, x = .int i ∧ Q (g i) H) ∧
    (∀ (t : TE) (σ : L2.St) (H : Hp) (Q : Bool → Hp → Prop), tB t σ H Q = t σ H fun x H1 => ∃ c, x = .bl c ∧ Q c H1) ∧
    (∀ (t : TE) (σ : L2.St) (H : Hp) (Q : Bool → Hp → Prop), tTest t σ H Q = t σ H fun x H1 => ∃ c, x = .bl c ∧ Q c H1) ∧
    (∀ (t u : TT) (σ : L2.St) (H : Hp) (Q : Bool → Hp → Prop), tAnd t u σ H Q = t σ H fun c H1 => if c = true then u σ H1 Q else Q false H1) ∧
    (∀ (t u : TT) (σ : L2.St) (H : Hp) (Q : Bool → Hp → Prop), tOr t u σ H Q = t σ H fun c H1 => if c = true then Q true H1 else u σ H1 Q) ∧
    (∀ (t : TT) (σ : L2.St) (H : Hp) (Q : Bool → Hp → Prop), tNot t σ H Q = t σ H fun c H1 => Q (!c) H1) ∧
    (∀ (ta tb : TE) (σ : L2.St) (H : Hp) (Q : VK), tAndV ta tb σ H Q = ta σ H fun x H1 => ∃ c, x = .bl c ∧ if c = true then tb σ H1 Q else Q (.bl false) H1) ∧
    (∀ (ta tb : TE) (σ : L2.St) (H : Hp) (Q : VK), tOrV ta tb σ H Q = ta σ H fun x H1 => ∃ c, x = .bl c ∧ if c = true then Q (.bl true) H1 else tb σ H1 Q) ∧
    (∀ (ta : TE) (σ : L2.St) (H : Hp) (Q : VK), tNotV ta σ H Q = ta σ H fun x H1 => ∃ c, x = .bl c ∧ Q (.bl (!c)) H1) ∧
    (∀ (t : TT) (ta tb : TE) (σ : L2.St) (H : Hp) (Q : VK), tIf t ta tb σ H Q = t σ H fun c H1 => if c = true then ta σ H1 Q else tb σ H1 Q) ∧
    (∀ (r r' : R2) (ta tb tc : TE) (σ : L2.St) (H : Hp) (Q : VK), tChain r r' ta tb tc σ H Q = ta σ H fun x H1 => tb σ H1 fun y H2 => r x y H2 fun z H3 => ∃ k, z = .bl k ∧ (if k = true then tc σ H3 fun w' H4 => r' y w' H4 Q else Q (.bl false) H3)) ∧
    (∀ (D : Ends) (σ : L2.St) (H : Hp), tNext D σ H = D.nx σ H) ∧
    (∀ (t u : TS) (D : Ends) (σ : L2.St) (H : Hp), tSeq t u D σ H = t { D with nx := u D } σ H) ∧
    (∀ (te : TE) (D : Ends) (σ : L2.St) (H : Hp), tDrop te D σ H = te σ H fun _ H1 => D.nx σ H1) ∧
    (∀ (te : TE) (D : Ends) (σ : L2.St) (H : Hp), tRet te D σ H = te σ H D.rt) ∧
    (∀ (D : Ends) (σ : L2.St) (H : Hp), tRetN D σ H = D.rt .non H) ∧
    (∀ (c : TT) (t u : TS) (D : Ends) (σ : L2.St) (H : Hp), tIfS c t u D σ H = c σ H fun b H1 => if b = true then t D σ H1 else u D σ H1) ∧
    (∀ (te : TE) (g : TG) (D : Ends) (σ : L2.St) (H : Hp), tAsg te g D σ H = te σ H fun x H1 => g x σ H1 D.nx) ∧
    (∀ (i : Nat) (v : V) (σ : L2.St) (H : Hp) (Q : L2.St → Hp → Prop), gName i v σ H Q = Q (σ.set i (some v)) H) ∧
    (∀ (vs : List V) (σ : L2.St) (H : Hp) (Q : L2.St → Hp → Prop), gNil vs σ H Q = (vs = [] ∧ Q σ H)) ∧
    (∀ (t : TG) (u : TGs) (vs : List V) (σ : L2.St) (H : Hp) (Q : L2.St → Hp → Prop), gCons t u vs σ H Q = ∃ v r, vs = v :: r ∧ t v σ H fun σ' H' => u r σ' H' Q) ∧
    (∀ (to ti : TE) (t : TSet) (v : V) (σ : L2.St) (H : Hp) (Q : L2.St → Hp → Prop), gSub to ti t v σ H Q = to σ H fun o H1 => ti σ H1 fun i H2 => t o i v H2 fun H3 => Q σ H3) :=
  ⟨fun _ _ _ _ => rfl, fun _ _ _ _ => rfl, fun _ _ _ _ _ _ => rfl, fun _ _ _ _ _ => rfl, fun _ _ _ _ _ _ => rfl, fun _ _ _ _ _ => rfl, fun _ _ _ _ => rfl, fun _ _ _ _ => rfl, fun _ _ _ _ => rfl, fun _ _ _ _ _ => rfl, fun _ _ _ _ _ => rfl, fun _ _ _ _ => rfl, fun _ _ _ _ _ => rfl,
   fun _ _ _ _ _ => rfl, fun _ _ _ _ => rfl, fun _ _ _ _ _ _ => rfl, fun _ _ _ _ _ _ _ _ => rfl, fun _ _ _ => rfl, fun _ _ _ _ _ => rfl, fun _ _ _ _ => rfl, fun _ _ _ _ => rfl, fun _ _ _ => rfl, fun _ _ _ _ _ _ => rfl, fun _ _ _ _ _ => rfl, fun _ _ _ _ _ => rfl, fun _ _ _ _ => rfl, fun _ _ _ _ _ _ => rfl, fun _ _ _ _ _ _ _ => rfl⟩
theorem RDb :
    (∀ (K : PySem.W.Frag) (ta : TE) (f : Str) (σ : L2.St) (H : Hp) (Q : VK), tFld K ta f σ H Q = ta σ H fun x H1 => ∃ a C dx fs v, x = .ref a ∧ H1 a = some (.ins C dx fs) ∧ Cls K C ∧ NoAttr K C f ∧ fs.lookup f = some v ∧ Q v H1) ∧
    (∀ (K : PySem.W.Frag) (ta tv : TE) (f : Str) (D : Ends) (σ : L2.St) (H : Hp), sFld K ta tv f D σ H = tv σ H fun y H1 => ta σ H1 fun x H2 => ∃ a C dx fs, x = .ref a ∧ H2 a = some (.ins C dx fs) ∧ Cls K C ∧ NoAttr K C f ∧ fs.length < 1000 ∧ D.nx σ (upd H2 a (.ins C dx (putF f y fs)))) ∧
    (∀ (σ : L2.St) (H : Hp) (Q : List V → Hp → Prop), tNil σ H Q = Q [] H) ∧
    (∀ (ta : TE) (tr : TA) (σ : L2.St) (H : Hp) (Q : List V → Hp → Prop), tCons ta tr σ H Q = ta σ H fun x H1 => tr σ H1 fun xs H2 => Q (x :: xs) H2) ∧
    (∀ (t : TA) (σ : L2.St) (H : Hp) (Q : VK), tTup t σ H Q = t σ H fun xs H1 => xs.length ≤ sizeLine ∧ ∀ p, H1 p = none → Q (.ref p) (upd H1 p (.tup xs))) ∧
    (∀ (t : TA) (σ : L2.St) (H : Hp) (Q : VK), tLst t σ H Q = t σ H fun xs H1 => xs.length ≤ sizeLine ∧ ∀ p, H1 p = none → Q (.ref p) (upd H1 p (.lst xs))) ∧
    (∀ (r : List V → Hp → VK → Prop) (t : TA) (σ : L2.St) (H : Hp) (Q : VK), tCB r t σ H Q = t σ H fun vs H1 => r vs H1 Q) ∧
    (∀ (sp : Sp) (E : L2.St → XK) (t : TA) (σ : L2.St) (H : Hp) (Q : VK), tCallS sp E t σ H Q = t σ H fun vs H1 => sp vs H1 Q (E σ)) ∧
    (∀ (C : Addr) (m : Str) (sp : Sp) (E : L2.St → XK) (ta : TE) (t : TA) (σ : L2.St) (H : Hp) (Q : VK), tMethS C m sp E ta t σ H Q = ta σ H fun x H1 => ∃ a dx fs, x = .ref a ∧ H1 a = some (.ins C dx fs) ∧ fs.lookup m = none ∧ t σ H1 fun vs H2 => sp (x :: vs) H2 Q (E σ)) ∧
    (∀ (C : Addr) (sp : Sp) (E : L2.St → XK) (t : TA) (σ : L2.St) (H : Hp) (Q : VK), tMakeS C sp E t σ H Q = t σ H fun vs H1 => ∀ x dx, H1 x = none → H1 dx = none → dx ≠ x → sp (.ref x :: vs) (upd (upd H1 dx (.own x)) x (.ins C dx [])) (fun v H2 => v = .non ∧ Q (.ref x) H2) (E σ)) ∧
    (∀ (x y : V) (H : Hp) (Q : VK), rEq x y H Q = (scal x y = true ∧ Q (.bl (decide (x = y))) H)) ∧
    (∀ (x y : V) (H : Hp) (Q : VK), rNe x y H Q = (scal x y = true ∧ Q (.bl (!decide (x = y))) H)) ∧
    (∀ (i j : Int), scal (.int i) (.int j) = true) ∧ (∀ (i j : Str), scal (.str i) (.str j) = true) ∧ (∀ (i j : Bool), scal (.bl i) (.bl j) = true) ∧
    (∀ (vs : List V) (H : Hp) (Q : VK), rIsC vs H Q = ∃ x c t b, vs = [x, .ty c] ∧ tyN H x = some t ∧ kitB t c = some b ∧ Q (.bl b) H) ∧
    (∀ (vs : List V) (H : Hp) (Q : VK), rLenC vs H Q = ∃ a n, vs = [.ref a] ∧ lenO H a = some n ∧ Q (.int (n : Int)) H) ∧
    (∀ (x y : V) (H : Hp) (Q : VK), rIxC x y H Q = ∃ p xs i v, x = .ref p ∧ y = .int i ∧ seqO H p = some xs ∧ atI xs i = some v ∧ Q v H) ∧
    (∀ (neg : Bool) (x y : V) (H : Hp) (Q : VK), rInC neg x y H Q = ∃ p xs, y = .ref p ∧ seqO H p = some xs ∧ flatV x = true ∧ xs.all flatV = true ∧ Q (.bl (if neg then !inV x xs else inV x xs)) H) ∧
    (∀ (neg : Bool) (x y : V) (H : Hp) (Q : VK), rEqC neg x y H Q = ∃ d e, dat H 8 x = some d ∧ dat H 8 y = some e ∧ SeqAt.shaped d = true ∧ SeqAt.shaped e = true ∧ Q (.bl (if neg then !PyData.eqv d e else PyData.eqv d e)) H) ∧
    (∀ (neg : Bool) (ty td : TE) (σ : L2.St) (H : Hp) (Q : VK), tInD neg ty td σ H Q = ty σ H fun y H1 => td σ H1 fun x H2 => ∃ a kvs k, x = .ref a ∧ H2 a = some (.dK kvs) ∧ keyV y = some k ∧ Q (.bl (if neg then !(valV kvs k).isSome else (valV kvs k).isSome)) H2) ∧
    (∀ (td ty : TE) (σ : L2.St) (H : Hp) (Q : VK), tGetD td ty σ H Q = td σ H fun x H1 => ty σ H1 fun y H2 => ∃ a kvs k v, x = .ref a ∧ H2 a = some (.dK kvs) ∧ keyV y = some k ∧ valV kvs k = some v ∧ Q v H2) ∧
    (∀ (td ty tv : TE) (D : Ends) (σ : L2.St) (H : Hp), sPutD td ty tv D σ H = tv σ H fun v H1 => td σ H1 fun x H2 => ty σ H2 fun y H3 => ∃ a kvs k, x = .ref a ∧ H3 a = some (.dK kvs) ∧ keyV y = some k ∧ kvs.length < sizeLine ∧ D.nx σ (upd H3 a (.dK (putK kvs k v)))) ∧
    (∀ (td ty : TE) (σ : L2.St) (H : Hp) (Q : VK), tPopD td ty σ H Q = td σ H fun x H1 => ∃ a kvs, x = .ref a ∧ H1 a = some (.dK kvs) ∧ ty σ H1 fun y H2 => ∃ kvs k v, H2 a = some (.dK kvs) ∧ keyV y = some k ∧ valV kvs k = some v ∧ Q v (upd H2 a (.dK (dropK kvs k)))) ∧
    (∀ (tl te : TE) (σ : L2.St) (H : Hp) (Q : VK), tAppC tl te σ H Q = tl σ H fun x H1 => ∃ l ys, x = .ref l ∧ H1 l = some (.lst ys) ∧ te σ H1 fun y H2 => ∃ xs, H2 l = some (.lst xs) ∧ xs.length < sizeLine ∧ Q .non (upd H2 l (.lst (xs ++ [y])))) ∧
    (∀ (σ : L2.St) (H : Hp) (Q : Option Int → Hp → Prop), tNoPart σ H Q = Q none H) ∧
    (∀ (t : TE) (σ : L2.St) (H : Hp) (Q : Option Int → Hp → Prop), tPart t σ H Q = t σ H fun x H1 => ∃ i, x = .int i ∧ Q (some i) H1) ∧
    (∀ (r : V → Option Int → Option Int → Hp → VK → Prop) (te : TE) (tl th : TO) (σ : L2.St) (H : Hp) (Q : VK), tSl r te tl th σ H Q = te σ H fun x H1 => tl σ H1 fun l H2 => th σ H2 fun u H3 => r x l u H3 Q) :=
  ⟨fun _ _ _ _ _ _ => rfl, fun _ _ _ _ _ _ _ => rfl, fun _ _ _ => rfl, fun _ _ _ _ _ => rfl, fun _ _ _ _ => rfl, fun _ _ _ _ => rfl, fun _ _ _ _ _ => rfl, fun _ _ _ _ _ _ => rfl, fun _ _ _ _ _ _ _ _ _ => rfl, fun _ _ _ _ _ _ _ => rfl, fun _ _ _ _ => rfl, fun _ _ _ _ => rfl,
   fun _ _ => rfl, fun _ _ => rfl, fun _ _ => rfl, fun _ _ _ => rfl, fun _ _ _ => rfl, fun _ _ _ _ => rfl, fun _ _ _ _ _ => rfl, fun _ _ _ _ _ => rfl, fun _ _ _ _ _ _ => rfl, fun _ _ _ _ _ => rfl, fun _ _ _ _ _ _ => rfl, fun _ _ _ _ _ => rfl, fun _ _ _ _ _ => rfl, fun _ _ _ => rfl, fun _ _ _ _ => rfl, fun _ _ _ _ _ _ _ => rfl⟩
theorem RDk :
    kitB "int" "int" = some true ∧ kitB "bool" "int" = some true ∧ kitB "str" "int" = some false ∧ kitB "NoneType" "int" = some false ∧ kitB "list" "int" = some false ∧ kitB "tuple" "int" = some false ∧ kitB "dict" "int" = some false ∧
    kitB "int" "bool" = some false ∧ kitB "bool" "bool" = some true ∧ kitB "str" "bool" = some false ∧ kitB "NoneType" "bool" = some false ∧ kitB "list" "bool" = some false ∧ kitB "tuple" "bool" = some false ∧ kitB "dict" "bool" = some false ∧
    kitB "int" "str" = some false ∧ kitB "bool" "str" = some false ∧ kitB "str" "str" = some true ∧ kitB "NoneType" "str" = some false ∧ kitB "list" "str" = some false ∧ kitB "tuple" "str" = some false ∧ kitB "dict" "str" = some false ∧
    kitB "int" "tuple" = some false ∧ kitB "bool" "tuple" = some false ∧ kitB "str" "tuple" = some false ∧ kitB "NoneType" "tuple" = some false ∧ kitB "list" "tuple" = some false ∧ kitB "tuple" "tuple" = some true ∧ kitB "dict" "tuple" = some false ∧
    kitB "int" "list" = some false ∧ kitB "bool" "list" = some false ∧ kitB "str" "list" = some false ∧ kitB "NoneType" "list" = some false ∧ kitB "list" "list" = some true ∧ kitB "tuple" "list" = some false ∧ kitB "dict" "list" = some false := by
  decide +kernel
theorem RDv :
    (∀ (i j : Int), (V.int i = V.int j) = (i = j)) ∧ (∀ (i j : Str), (V.str i = V.str j) = (i = j)) ∧ (∀ (i j : Bool), (V.bl i = V.bl j) = (i = j)) ∧ (∀ (i j : Addr), (V.ref i = V.ref j) = (i = j)) ∧ (∀ (i j : String), (V.ty i = V.ty j) = (i = j)) ∧
    (∀ (α : Type) (i j : α), (some i = some j) = (i = j)) ∧
    (∀ H, tyN H .non = some "NoneType") ∧ (∀ H b, tyN H (.bl b) = some "bool") ∧ (∀ H b, tyN H (.int b) = some "int") ∧ (∀ H b, tyN H (.str b) = some "str") ∧
    (∀ n, keyV (.int n) = some (.inl n)) ∧ (∀ n, keyV (.str n) = some (.inr n)) ∧
    (∀ (C dx : Addr) (fs : List (Str × V)) (C' dx' : Addr) (fs' : List (Str × V)), (HO.ins C dx fs = HO.ins C' dx' fs') = (C = C' ∧ dx = dx' ∧ fs = fs')) ∧
    (∀ xs ys, (HO.lst xs = HO.lst ys) = (xs = ys)) ∧ (∀ xs ys, (HO.tup xs = HO.tup ys) = (xs = ys)) ∧ (∀ xs ys, (HO.dK xs = HO.dK ys) = (xs = ys)) := by
  refine ⟨?_, ?_, ?_, ?_, ?_, ?_, fun _ => rfl, fun _ _ => rfl, fun _ _ => rfl, fun _ _ => rfl, fun _ => rfl, fun _ => rfl, ?_, ?_, ?_, ?_⟩ <;> intros <;> simp
theorem datE (H : Hp) :
    (∀ n, dat H n .non = some .none) ∧ (∀ n b, dat H n (.bl b) = some (.bool b)) ∧ (∀ n b, dat H n (.int b) = some (.int b)) ∧ (∀ n b, dat H n (.str b) = some (.str b)) ∧
    (∀ n a xs, H a = some (.lst xs) → dat H (n + 1) (.ref a) = (mapO (dat H n) xs).map PyData.list) ∧ (∀ n a xs, H a = some (.tup xs) → dat H (n + 1) (.ref a) = (mapO (dat H n) xs).map PyData.tuple) := by
  refine ⟨fun n => ?_, fun n b => ?_, fun n b => ?_, fun n b => ?_, fun n a xs h => ?_, fun n a xs h => ?_⟩
  · cases n <;> rfl
  · cases n <;> rfl
  · cases n <;> rfl
  · cases n <;> rfl
  · conv => lhs; unfold dat
    rw [h]
  · conv => lhs; unfold dat
    rw [h]
theorem RDx :
    (∀ (CX : CXT) (P : Program) (w : World) (K : PySem.W.Frag) (mg : Str → Option Value) (base : Heap) (N : List Str) (q : Str) (sc : Scope) (f : Addr) (cd : Value) (A : Around) (o : List Env) (s : Shared) (H : Hp) (E : XK), (cxOf CX P w K mg base N q sc f cd A o s H E).K = K) ∧
    (∀ (CX : CXT) (P : Program) (w : World) (K : PySem.W.Frag) (mg : Str → Option Value) (base : Heap) (N : List Str) (q : Str) (sc : Scope) (f : Addr) (cd : Value) (A : Around) (o : List Env) (s : Shared) (H : Hp) (E : XK) (p : Addr × Obj), (L2H.cxH CX P w K mg base N q sc f cd A o s H E p).K = K) ∧
    (∀ (X : Cx) (pn : List (Addr × Obj)) (xe : Value → Shared → Prop), (X.tr pn xe).K = X.K) ∧
    (∀ (X : Cx) (a : Addr) (pn : List (Addr × Obj)), (X.suite a pn).K = X.K) ∧
    (∀ (X : Cx) (s : Shared) (H : Hp) (sc : Scope) (ce : Env) (fp : List Addr), (X.blk s H sc ce fp).K = X.K) ∧
    (∀ (X : Cx), X.nox.K = X.K) := ⟨fun _ _ _ _ _ _ _ _ _ _ _ _ _ _ _ _ => rfl, fun _ _ _ _ _ _ _ _ _ _ _ _ _ _ _ _ _ => rfl, fun _ _ _ => rfl, fun _ _ _ => rfl, fun _ _ _ _ _ _ => rfl, fun _ => rfl⟩
theorem RDe :
    (∀ (K : PySem.W.Frag) (c : Value) (i : Nat) (ts : Addr → Value → Option Addr → TS) (Wout : WX) (D : Ends) (cls : Value) (d : Option Addr) (σ : L2.St) (H : Hp), wAs K c i ts Wout D cls d σ H =
      ∃ b, PySem.W.exmOne K cls c = some b ∧ (b = true → ∀ a, H a = none → ts a cls d { nx := fun σ' H' => D.nx (σ'.set i none) H', rt := D.rt, bk := fun σ' H' => D.bk (σ'.set i none) H', ct := fun σ' H' => D.ct (σ'.set i none) H' } (σ.set i (some (.ref a))) H) ∧ (b = false → Wout cls d σ H)) ∧
    (∀ (K : PySem.W.Frag) (Wout : WX) (D : Ends), L2.wMany K Wout D [] = Wout) ∧
    (∀ (K : PySem.W.Frag) (Wout : WX) (D : Ends) (c : Value) (ts : Addr → Value → Option Addr → TS) (r : List (Value × (Addr → Value → Option Addr → TS))) (cls : Value) (d : Option Addr) (σ : L2.St) (H : Hp), L2.wMany K Wout D ((c, ts) :: r) cls d σ H =
      ∃ b, PySem.W.exmOne K cls c = some b ∧ (b = true → ∀ a, H a = none → ts a cls d D σ H) ∧ (b = false → L2.wMany K Wout D r cls d σ H)) ∧
    (∀ (K : PySem.W.Frag) (a : Addr) (cls : Value) (xs : List V) (H : Hp) (Q : VK), rIsEC K a cls xs H Q = ∃ (c : V) (cv : Value) (b : Bool), xs = [.ref a, c] ∧ clsOf c = some cv ∧ PySem.W.kitOne K cls cv = some b ∧ Q (.bl b) H) ∧
    (∀ a, clsOf (.ref a) = some (.ref a)) ∧ (∀ n, clsOf (.ty n) = some (.type n)) :=
  ⟨fun _ _ _ _ _ _ _ _ _ _ => rfl, fun _ _ _ => rfl, fun _ _ _ _ _ _ _ _ _ _ => rfl, fun _ _ _ _ _ _ => rfl, fun _ => rfl, fun _ => rfl⟩
/-! #### texts -/
theorem mul_one (z : Str) : Txt.mul z 1 = z := by unfold Txt.mul; rw [if_neg (by decide), if_pos (by simp)]
theorem mul_zero (z : Str) : Txt.mul z 0 = Str.empty := by unfold Txt.mul; rw [if_pos (by decide)]
theorem mulOk_one (z : Str) : MulOk z 1 := ⟨by decide, fun _ h => by simp at h, fun _ h => by simp at h⟩
theorem mulOk_zero (z : Str) : MulOk z 0 := ⟨by decide, fun h => absurd (by decide) h, fun h => absurd (by decide) h⟩
theorem str_ext {x y : Str} (h : x.cps.toList = y.cps.toList) : x = y := by
  obtain ⟨a⟩ := x
  obtain ⟨b⟩ := y
  congr
  exact Array.toList_inj.mp h
theorem app_empty (z : Str) : z ++ Str.empty = z := by
  refine str_ext ?_
  show (z.cps ++ #[]).toList = _
  simp
/-! #### loops, by what their walked thing gives -/
section
variable {K : PySem.W.Frag} {tl : TE} {g : TG} {tb : TS} {D : Ends} {σ : L2.St} {H : Hp}
theorem for_lcut (G : Addr → Hp → Prop) (xs : List V) (h1 : ∀ Z : VK, (∀ a H1, G a H1 → Z (.ref a) H1) → tl σ H Z) (Pv : Addr → Nat → L2.St → Hp → Prop) (h0 : ∀ a H1, G a H1 → SqL K H1 a xs ∧ Pv a 0 σ H1) (hl : ∀ a i σ H, i ≤ xs.length → Pv a i σ H → SqL K H a xs)
    (hs : ∀ a i x σ H, xs[i]? = some x → Pv a i σ H → g x σ H fun σ2 H2 => tb { D with nx := Pv a (i + 1), ct := Pv a (i + 1), bk := D.nx } σ2 H2) (hd : ∀ a σ H, Pv a xs.length σ H → D.nx σ H) : tFor (iList K tl) g tb D σ H :=
  h1 _ fun a H1 q => ⟨a, rfl, ⟨xs, (h0 a H1 q).1⟩, for_list (Pv a) (h0 a H1 q).2 (hl a) (hs a) (hd a)⟩
end
theorem same_new {H : Hp} {p : Addr} {o : HO} (h : H p = none) : Same H (upd H p o) := fun b u e => by rw [upd_ne (ne_of_none e h)]; exact e
theorem same_sql {K : PySem.W.Frag} {H H' : Hp} {a : Addr} {xs : List V} (e : Same H H') (h : SqL K H a xs) : SqL K H' a xs := e.seq h
theorem bl3 {i : Nat} {x : V} (h : ([V.bl false, V.bl false, V.bl false] : List V)[i]? = some x) : x = .bl false := by
  match i, h with
  | 0, h => exact (Option.some.inj h).symm
  | 1, h => exact (Option.some.inj h).symm
  | 2, h => exact (Option.some.inj h).symm
  | n + 3, h => cases h
/-! #### data as it is compared -/
theorem seqO_tup {H : Hp} {a : Addr} {xs : List V} (h : H a = some (.tup xs)) : seqO H a = some xs := by unfold seqO; rw [h]
theorem seqO_lst {H : Hp} {a : Addr} {xs : List V} (h : H a = some (.lst xs)) : seqO H a = some xs := by unfold seqO; rw [h]
theorem tyN_tup {H : Hp} {a : Addr} {xs : List V} (h : H a = some (.tup xs)) : tyN H (.ref a) = some "tuple" := by unfold tyN; dsimp only; rw [h]
theorem tyN_lst {H : Hp} {a : Addr} {xs : List V} (h : H a = some (.lst xs)) : tyN H (.ref a) = some "list" := by unfold tyN; dsimp only; rw [h]
theorem tyN_dK {H : Hp} {a : Addr} {xs : List (Key × V)} (h : H a = some (.dK xs)) : tyN H (.ref a) = some "dict" := by unfold tyN; dsimp only; rw [h]
theorem lenO_tup {H : Hp} {a : Addr} {xs : List V} (h : H a = some (.tup xs)) : lenO H a = some xs.length := by unfold lenO seqO; rw [h]; rfl
theorem lenO_lst {H : Hp} {a : Addr} {xs : List V} (h : H a = some (.lst xs)) : lenO H a = some xs.length := by unfold lenO seqO; rw [h]; rfl
theorem lenO_dK {H : Hp} {a : Addr} {xs : List (Key × V)} (h : H a = some (.dK xs)) : lenO H a = some xs.length := by unfold lenO; rw [h]
theorem dat_tup {H : Hp} {a : Addr} {xs : List V} (h : H a = some (.tup xs)) (n : Nat) : dat H (n + 1) (.ref a) = (mapO (dat H n) xs).map PyData.tuple := (datE H).2.2.2.2.2 n a xs h
theorem dat_lst {H : Hp} {a : Addr} {xs : List V} (h : H a = some (.lst xs)) (n : Nat) : dat H (n + 1) (.ref a) = (mapO (dat H n) xs).map PyData.list := (datE H).2.2.2.2.1 n a xs h
theorem RDd :
    (∀ f, mapO f [] = some []) ∧ (∀ f v r, mapO f (v :: r) = match f v, mapO f r with | some d, some ds => some (d :: ds) | _, _ => none) ∧
    (∀ H n, dat H n .non = some .none) ∧ (∀ H n b, dat H n (.bl b) = some (.bool b)) ∧ (∀ H n b, dat H n (.int b) = some (.int b)) ∧ (∀ H n b, dat H n (.str b) = some (.str b)) ∧
    (∀ (α : Type) (x : α) xs, atI (x :: xs) 0 = some x) ∧ (∀ (α : Type) (x y : α) xs, atI (x :: y :: xs) 1 = some y) ∧ (∀ (α : Type) (x y z : α) xs, atI (x :: y :: z :: xs) 2 = some z) ∧ (∀ (α : Type) (x y z u : α) xs, atI (x :: y :: z :: u :: xs) 3 = some u) ∧
    (∀ H, Option.map PyData.list (some H) = some (PyData.list H)) ∧ (∀ H, Option.map PyData.tuple (some H) = some (PyData.tuple H)) := by
  have at_ : ∀ (α : Type) (xs : List α) (k : Nat) (x : α), xs[k]? = some x → atI xs (k : Int) = some x := fun α xs k x h => by
    unfold atI ixN
    obtain ⟨hk, _⟩ := List.getElem?_eq_some_iff.mp h
    rw [if_pos (by omega), if_pos (by omega), Option.bind_some, Int.toNat_natCast, h]
  refine ⟨fun _ => rfl, fun _ _ _ => rfl, fun H => (datE H).1, fun H => (datE H).2.1, fun H => (datE H).2.2.1, fun H => (datE H).2.2.2.1, fun α x xs => at_ α _ 0 x rfl, fun α x y xs => at_ α _ 1 y rfl, fun α x y z xs => at_ α _ 2 z rfl, fun α x y z u xs => at_ α _ 3 u rfl, fun _ => rfl, fun _ => rfl⟩
/-- data of at most n levels that can be compared -/
def Shp (n : Nat) (d : PyData) : Prop := d.canLay0 = true ∧ d.depth ≤ n
theorem Shp.ok {d : PyData} (h : Shp 64 d) : SeqAt.shaped d = true := by
  unfold SeqAt.shaped
  rw [h.1, Bool.true_and]
  exact decide_eq_true h.2
theorem Shp.mono {n m : Nat} {d : PyData} (h : Shp n d) (l : n ≤ m) : Shp m d := ⟨h.1, Nat.le_trans h.2 l⟩
theorem shp_all {n : Nat} : ∀ {ds : List PyData}, (∀ d ∈ ds, Shp n d) → PyData.canLayAll0 ds = true ∧ PyData.depthAll ds ≤ n
  | [], _ => ⟨by simp [PyData.canLayAll0], by simp [PyData.depthAll]⟩
  | d :: r, h => by
    have h1 := h d List.mem_cons_self
    have h2 := shp_all (ds := r) fun e he => h e (List.mem_cons_of_mem _ he)
    constructor
    · rw [PyData.canLayAll0, h1.1, h2.1]; rfl
    · rw [PyData.depthAll]; exact Nat.max_le.mpr ⟨h1.2, h2.2⟩
theorem shp_list {n : Nat} {ds : List PyData} (h : ∀ d ∈ ds, Shp n d) : Shp (n + 1) (.list ds) := by
  obtain ⟨a, b⟩ := shp_all h
  exact ⟨by rw [PyData.canLay0]; exact a, by rw [PyData.depth]; omega⟩
theorem shp_tuple {n : Nat} {ds : List PyData} (h : ∀ d ∈ ds, Shp n d) : Shp (n + 1) (.tuple ds) := by
  obtain ⟨a, b⟩ := shp_all h
  exact ⟨by rw [PyData.canLay0]; exact a, by rw [PyData.depth]; omega⟩
theorem shp_s (n : Nat) : Shp n .none ∧ (∀ b, Shp n (.bool b)) ∧ (∀ i, Shp n (.int i)) ∧ (∀ x, PyData.strOk x = true → Shp n (.str x)) :=
  ⟨⟨by simp [PyData.canLay0], by simp [PyData.depth]⟩, fun _ => ⟨by simp [PyData.canLay0], by simp [PyData.depth]⟩, fun _ => ⟨by simp [PyData.canLay0], by simp [PyData.depth]⟩, fun _ h => ⟨by simpa [PyData.canLay0] using h, by simp [PyData.depth]⟩⟩
theorem sh1 {d : PyData} (h : d.canLay0 = true) (h2 : d.depth = 0) : SeqAt.shaped (.tuple [d]) = true ∧ SeqAt.shaped (.tuple [d]) = true := ⟨Shp.ok ⟨by simp [PyData.canLay0, PyData.canLayAll0, h], by simp [PyData.depth, PyData.depthAll, h2]⟩, Shp.ok ⟨by simp [PyData.canLay0, PyData.canLayAll0, h], by simp [PyData.depth, PyData.depthAll, h2]⟩⟩
theorem eqv_self {d : PyData} (h : d.canLay0 = true) : PyData.eqv d d = true := SeqAt.eqv_refl d h
end RP

/-! ### things made for one use only: no trace in what is tracked -/
namespace RP
open PySem PySem.Spec PyProof.Rows L2
section
variable {X : Cx} {b l : Expr} {es : List Expr} {t : TA} {tb tl : TE} {pos pos1 : Pos}
/-- [e, ..][b] -/
def tPick (t : TA) (tb : TE) : TE := fun σ H Q => t σ H fun vs H1 => vs.length ≤ 1000 ∧ tb σ H1 fun y H2 => ∃ k v, y = .int k ∧ 0 ≤ k ∧ atI vs k = some v ∧ Q v H2
theorem pe_pick (he : PA X es t) (hi : PE X b tb) (hs : PlainIx b) : PE X (.Subscript (.List es pos1) b pos) (tPick t tb) := by
  constructor
  intro pins s σ H Q I h
  refine Subscript_ (wpAny_List_spliced (thn (he.run pos1 pins s σ H _ I h) ?_))
  rintro us s1 ⟨vs, H1, I1, r, z, q⟩
  have z1 : us.length ≤ 1000 := by rw [← r.length]; exact z
  refine ⟨Nat.le_trans z1 (by decide), ?_⟩
  have kp : ∀ (b : Addr) (o : Obj), s1.heap.get? b = some o → (s1.heap.push { cls := .type "list", data := .seq us.toArray }).get? b = some o := fun b o e => Heap.get?_push_of_some _ e
  have gL : (s1.heap.push { cls := .type "list", data := .seq us.toArray }).get? s1.heap.objs.size = some { cls := .type "list", data := .seq us.toArray } := Heap.get?_push_size _ rfl
  have I2 : Inv X pins σ H1 { s1 with heap := s1.heap.push { cls := .type "list", data := .seq us.toArray } } := I1.kept (t' := s1.toks) kp
  have I3 := I2.pinned (fp := [s1.heap.objs.size]) (fun b hb => by
    have e : b = s1.heap.objs.size := by simpa using hb
    rw [e]
    exact I1.fpOk (Nat.le_refl _) (I1.hok.fresh (Nat.le_refl _))) (fun b hb => by
    have e : b = s1.heap.objs.size := by simpa using hb
    rw [e]
    exact ⟨_, gL, fun v w => by cases w⟩)
  refine thn (hi.run _ _ σ H1 _ I3 q) ?_
  rintro u s2 ⟨y, H2, I4, ry, k, v, rfl, h0, ha, qv⟩
  have g2 := (I4.pin (s1.heap.objs.size, { cls := .type "list", data := .seq us.toArray }) (List.mem_append_right _ (List.mem_append_right _ (mem_pinsAt (by simp) gL)))).1
  obtain ⟨tk, rfl⟩ := ry
  obtain ⟨j, h1, h2, h3, h4, h5⟩ := atI_get ha
  obtain ⟨w, ew, rw'⟩ := r.get h2
  have hl := r.length
  have hj : k.toNat = j := by
    rw [seqIndex_of h0 h5] at h1
    exact Option.some.inj h1
  have pl : PlainL s2.heap s1.heap.objs.size us.toArray := ⟨_, _, g2, rfl, rfl, rfl⟩
  exact item_listR pl.isList h0 (by omega) (by rw [hj]; simpa using ew) ⟨v, H2, I4.unpinned, rw', qv⟩ (hs _ _)
/-- l == (e, ..), l != (e, ..) -/
def tEqT (neg : Bool) (tl : TE) (t : TA) : TE := fun σ H Q => tl σ H fun x H1 => t σ H1 fun vs H2 => vs.length ≤ 1000 ∧ ∃ d ds, dat H2 8 x = some d ∧ mapO (dat H2 7) vs = some ds ∧ SeqAt.shaped d = true ∧ SeqAt.shaped (.tuple ds) = true ∧ Q (.bl (if neg then !PyData.eqv d (.tuple ds) else PyData.eqv d (.tuple ds))) H2
theorem dat_new {H : Hp} {p : Addr} {o : HO} (hp : H p = none) : ∀ (n : Nat) (v : V) (d : PyData), dat H n v = some d → dat (upd H p o) n v = some d := by
  have key : ∀ (f f' : V → Option PyData), (∀ v d, f v = some d → f' v = some d) → ∀ (xs : List V) (ds : List PyData), mapO f xs = some ds → mapO f' xs = some ds := by
    intro f f' hf xs
    induction xs with
    | nil => intro ds h; exact h
    | cons v r ih =>
      intro ds h
      unfold mapO at h ⊢
      split at h
      · rename_i d ds' h1 h2
        cases h
        rw [hf _ _ h1, ih _ h2]
      · cases h
  intro n
  induction n with
  | zero =>
    intro v d h
    cases v <;> exact h
  | succ n ih =>
    intro v d h
    cases v with
    | ref a =>
      have e : ∀ u, H a = some u → upd H p o a = some u := fun u e => by rw [upd_ne (ne_of_none e hp)]; exact e
      unfold dat at h ⊢
      split at h
      · rename_i xs e1
        obtain ⟨ds, e2, rfl⟩ := Option.map_eq_some_iff.mp h
        rw [e _ e1]
        dsimp only
        rw [key _ _ ih _ _ e2]
        rfl
      · rename_i xs e1
        obtain ⟨ds, e2, rfl⟩ := Option.map_eq_some_iff.mp h
        rw [e _ e1]
        dsimp only
        rw [key _ _ ih _ _ e2]
        rfl
      · rename_i ob xs e1
        obtain ⟨ds, e2, rfl⟩ := Option.map_eq_some_iff.mp h
        rw [e _ e1]
        dsimp only
        rw [key _ _ ih _ _ e2]
        rfl
      · cases h
    | _ => exact h
theorem eqT_run {neg : Bool} {op : CmpOp} (hop : op = if neg then .NotEq else .Eq) (hu : X.A.units + 64 < cLine) (hl : PE X l tl) (he : PA X es t) {x1 : Nat} {pins : List (Addr × Obj)} {s : Shared} {σ : L2.St} {H : Hp} {Q : VK} (I : Inv X pins σ H s) (h : tEqT neg tl t σ H Q) :
    wpAny (model X.prog X.w) X.A (eval l X.env) (fun v s1 => wpAny (model X.prog X.w) X.A (eval (.Tuple es x1 pos1) X.env) (fun u s2 => wpAny (model X.prog X.w) X.A (compareOp op v u) (EP X pins σ Q) X.xe s2) X.xe s1) X.xe s := by
  refine thn (hl.run pins s σ H _ I h) ?_
  rintro v s1 ⟨x, H1, I1, rx, q1⟩
  refine wpAny_Tuple_spliced (thn (he.run pos1 pins s1 σ H1 _ I1 q1) ?_)
  rintro us s2 ⟨vs, H2, I2, r, z, d, ds, h1, h2, sd, se, q⟩
  have z1 : us.length ≤ sizeLine := by rw [← r.length]; exact Nat.le_trans z (by decide)
  refine ⟨z1, ?_⟩
  have hf : H2 s2.heap.objs.size = none := I2.hok.fresh (Nat.le_refl _)
  have kp : ∀ (b : Addr) (o : Obj), s2.heap.get? b = some o → (s2.heap.push { cls := .type "tuple", data := .seq us.toArray }).get? b = some o := fun b o e => Heap.get?_push_of_some _ e
  have IU : Inv X pins σ H2 { s2 with heap := s2.heap.push { cls := .type "tuple", data := .seq us.toArray } } := I2.kept (t' := s2.toks) kp
  have IT : Inv X pins σ (upd H2 s2.heap.objs.size (.tup vs)) { s2 with heap := s2.heap.push { cls := .type "tuple", data := .seq us.toArray } } :=
    I2.laid (t' := s2.toks) kp (Nat.le_refl _) ⟨Nat.le_trans z (by decide), us, r, ⟨_, Heap.get?_push_size _ rfl, rfl, _, rfl⟩⟩
  obtain ⟨as, r1⟩ := Dp.reads IT d x v (dat_ok _ _ _ (dat_new hf _ _ _ h1)) rx
  have h3 : dat (upd H2 s2.heap.objs.size (.tup vs)) 8 (.ref s2.heap.objs.size) = some (.tuple ds) := by
    rw [dat_tup upd_same]
    have key : ∀ (xs : List V) (ds : List PyData), mapO (dat H2 7) xs = some ds → mapO (dat (upd H2 s2.heap.objs.size (.tup vs)) 7) xs = some ds := by
      intro xs
      induction xs with
      | nil => intro ds h; exact h
      | cons v r ih =>
        intro ds h
        unfold mapO at h ⊢
        split at h
        · rename_i d ds' h1 h2
          cases h
          rw [dat_new hf _ _ _ h1, ih _ h2]
        · cases h
    rw [key _ _ h2]
    rfl
  obtain ⟨bs, r2⟩ := Dp.reads IT (.tuple ds) (.ref s2.heap.objs.size) (.ref s2.heap.objs.size) (dat_ok _ _ _ h3) rfl
  subst hop
  cases neg with
  | true => exact SeqAt.compareNe_shaped r1 r2 sd se hu ⟨.bl _, H2, IU, rfl, q⟩
  | false => exact SeqAt.compareEq_shaped r1 r2 sd se hu ⟨.bl _, H2, IU, rfl, q⟩
theorem pc_eqT {x1 : Nat} (hu : X.A.units + 64 < cLine) (hl : PE X l tl) (he : PA X es t) : PC X .Eq l (.Tuple es x1 pos1) (tEqT false tl t) := ⟨fun pins s σ H Q I h => eqT_run (neg := false) rfl hu hl he I h⟩
theorem pc_neT {x1 : Nat} (hu : X.A.units + 64 < cLine) (hl : PE X l tl) (he : PA X es t) : PC X .NotEq l (.Tuple es x1 pos1) (tEqT true tl t) := ⟨fun pins s σ H Q I h => eqT_run (neg := true) rfl hu hl he I h⟩
/-- l in (e, ..), l not in (e, ..): flat things -/
def tInT (neg : Bool) (tl : TE) (t : TA) : TE := fun σ H Q => tl σ H fun x H1 => t σ H1 fun vs H2 => vs.length ≤ 1000 ∧ flatV x = true ∧ vs.all flatV = true ∧ Q (.bl (if neg then !inV x vs else inV x vs)) H2
theorem inT_run {neg : Bool} {op : CmpOp} (hop : op = if neg then .NotIn else .In) (hl : PE X l tl) (he : PA X es t) {x1 : Nat} {pins : List (Addr × Obj)} {s : Shared} {σ : L2.St} {H : Hp} {Q : VK} (I : Inv X pins σ H s) (h : tInT neg tl t σ H Q) :
    wpAny (model X.prog X.w) X.A (eval l X.env) (fun v s1 => wpAny (model X.prog X.w) X.A (eval (.Tuple es x1 pos1) X.env) (fun u s2 => wpAny (model X.prog X.w) X.A (compareOp op v u) (EP X pins σ Q) X.xe s2) X.xe s1) X.xe s := by
  refine thn (hl.run pins s σ H _ I h) ?_
  rintro v s1 ⟨x, H1, I1, rx, q1⟩
  refine wpAny_Tuple_spliced (thn (he.run pos1 pins s1 σ H1 _ I1 q1) ?_)
  rintro us s2 ⟨vs, H2, I2, r, z, f1, f2, q⟩
  have z1 : us.length ≤ sizeLine := by rw [← r.length]; exact Nat.le_trans z (by decide)
  refine ⟨z1, ?_⟩
  have hf : H2 s2.heap.objs.size = none := I2.hok.fresh (Nat.le_refl _)
  have kp : ∀ (b : Addr) (o : Obj), s2.heap.get? b = some o → (s2.heap.push { cls := .type "tuple", data := .seq us.toArray }).get? b = some o := fun b o e => Heap.get?_push_of_some _ e
  have IU : Inv X pins σ H2 { s2 with heap := s2.heap.push { cls := .type "tuple", data := .seq us.toArray } } := I2.kept (t' := s2.toks) kp
  have IT : Inv X pins σ (upd H2 s2.heap.objs.size (.tup vs)) { s2 with heap := s2.heap.push { cls := .type "tuple", data := .seq us.toArray } } :=
    I2.laid (t' := s2.toks) kp (Nat.le_refl _) ⟨Nat.le_trans z (by decide), us, r, ⟨_, Heap.get?_push_size _ rfl, rfl, _, rfl⟩⟩
  obtain ⟨its, r', pl, hz⟩ := IT.tuple (SqT.of (K := X.K) (upd_same (a := s2.heap.objs.size) (o := .tup vs)))
  subst hop
  cases neg with
  | true =>
    refine SeqAt.notIn_tupleAt (eqU x) pl (fun w hw => mem_eqAt rx f1 r' f2 w (by simpa using hw)) ⟨.bl _, H2, IU, rfl, ?_⟩
    rw [show its.toArray.any (eqU x) = its.any (eqU x) by simp, any_eqU r' f2]
    exact q
  | false =>
    refine SeqAt.in_tupleAt (eqU x) pl (fun w hw => mem_eqAt rx f1 r' f2 w (by simpa using hw)) ⟨.bl _, H2, IU, rfl, ?_⟩
    rw [show its.toArray.any (eqU x) = its.any (eqU x) by simp, any_eqU r' f2]
    exact q
theorem pc_inT {x1 : Nat} (hl : PE X l tl) (he : PA X es t) : PC X .In l (.Tuple es x1 pos1) (tInT false tl t) := ⟨fun pins s σ H Q I h => inT_run (neg := false) rfl hl he I h⟩
theorem pc_notInT {x1 : Nat} (hl : PE X l tl) (he : PA X es t) : PC X .NotIn l (.Tuple es x1 pos1) (tInT true tl t) := ⟨fun pins s σ H Q I h => inT_run (neg := true) rfl hl he I h⟩
end
theorem RDp :
    (∀ (t : TA) (tb : TE) (σ : L2.St) (H : Hp) (Q : VK), tPick t tb σ H Q = t σ H fun vs H1 => vs.length ≤ 1000 ∧ tb σ H1 fun y H2 => ∃ k v, y = .int k ∧ 0 ≤ k ∧ atI vs k = some v ∧ Q v H2) ∧
    (∀ (neg : Bool) (tl : TE) (t : TA) (σ : L2.St) (H : Hp) (Q : VK), tEqT neg tl t σ H Q = tl σ H fun x H1 => t σ H1 fun vs H2 => vs.length ≤ 1000 ∧ ∃ d ds, dat H2 8 x = some d ∧ mapO (dat H2 7) vs = some ds ∧ SeqAt.shaped d = true ∧ SeqAt.shaped (.tuple ds) = true ∧ Q (.bl (if neg then !PyData.eqv d (.tuple ds) else PyData.eqv d (.tuple ds))) H2) ∧
    (∀ (neg : Bool) (tl : TE) (t : TA) (σ : L2.St) (H : Hp) (Q : VK), tInT neg tl t σ H Q = tl σ H fun x H1 => t σ H1 fun vs H2 => vs.length ≤ 1000 ∧ flatV x = true ∧ vs.all flatV = true ∧ Q (.bl (if neg then !inV x vs else inV x vs)) H2) ∧
    (∀ i j : Int, CDiv i j = (0 < j ∧ j < 1073741824)) ∧ (∀ i j : Int, CPow i j = (0 ≤ j ∧ j ≤ 1000000 ∧ i.natAbs < 2 ^ 64)) :=
  ⟨fun _ _ _ _ _ => rfl, fun _ _ _ _ _ _ => rfl, fun _ _ _ _ _ _ => rfl, fun _ _ => rfl, fun _ _ => rfl⟩
theorem seq_gen {t u : TS} {D : Ends} {σ : L2.St} {H : Hp} (h : ∀ N : L2.St → Hp → Prop, (∀ σ H, u D σ H → N σ H) → t { D with nx := N } σ H) : tSeq t u D σ H := h _ fun _ _ z => z
theorem cut_int {ns : List Int} {lo hi : Option Int} {i : Nat} {x : V} (h : (cutV (ns.map V.int) lo hi)[i]? = some x) : ∃ c, x = .int c := by
  have h1 : x ∈ cutV (ns.map V.int) lo hi := List.mem_of_getElem? h
  unfold cutV at h1
  have h2 := List.mem_of_mem_drop (List.mem_of_mem_take h1)
  obtain ⟨c, _, e⟩ := List.mem_map.mp h2
  exact ⟨c, e.symm⟩
theorem ite_merge {α : Sort _} {P R : Prop} [Decidable P] [Decidable R] {x y : α} : (if P then (if R then x else y) else y) = if P ∧ R then x else y := by
  by_cases p : P <;> by_cases r : R <;> simp [p, r]
theorem ite_or' {α : Sort _} {P R : Prop} [Decidable P] [Decidable R] {x y : α} : (if P then x else (if R then x else y)) = if P ∨ R then x else y := by
  by_cases p : P <;> by_cases r : R <;> simp [p, r]
theorem getD_all {α : Type} {p : α → Prop} {xs : List α} {d : α} (h : ∀ x ∈ xs, p x) (hd : p d) (i : Nat) : p (xs.getD i d) := by
  rw [List.getD_eq_getElem?_getD]
  cases e : xs[i]? with
  | none => exact hd
  | some x => exact h x (List.mem_of_getElem? e)
theorem md_rng {n : Int} (x : Int) (h : 0 < n) : 0 ≤ x % n ∧ x % n < n := ⟨Int.emod_nonneg _ (by omega), Int.emod_lt_of_pos _ h⟩
theorem pick2 {x y : V} {k : Int} (h0 : 0 ≤ k) (h1 : k < 2) : atI [x, y] k = some (if k = 0 then x else y) := by
  rcases (show k = 0 ∨ k = 1 by omega) with rfl | rfl
  · rfl
  · rfl
theorem pickI2 {x y k : Int} (h0 : 0 ≤ k) (h1 : k < 2) : atI [V.int x, V.int y] k = some (.int (if k = 0 then x else y)) := by
  rcases (show k = 0 ∨ k = 1 by omega) with rfl | rfl
  · rfl
  · rfl
/-- an item of a list of whole numbers -/
theorem atInt {xs : List Int} {k : Int} (h0 : 0 ≤ k) (h1 : k < (xs.length : Int)) : atI (xs.map V.int) k = some (.int (xs.getD k.toNat 0)) := by
  have e2 : k = ((k.toNat : Nat) : Int) := by omega
  have e3 : k.toNat < xs.length := by omega
  rw [e2]
  refine atI_nat ?_
  rw [List.getElem?_map, List.getElem?_eq_getElem e3, List.getD_eq_getElem?_getD, Int.toNat_natCast, List.getElem?_eq_getElem e3]
  rfl
/-- the law's own def -/
theorem fn_law {P : Program} {w : World} {K : PySem.W.Frag} {mg : Str → Option Value} {base : Heap} {x : Str} {st : Stmt} {N ps : List Str} {k : Nat} {sp : Sp} {f0 : Addr} {fd : FuncData} (F : FunD K x x (defArgs st) (defBody st) (defScope st) [] [] f0 fd) (S : FnScope N ps (defScope st)) (len : ∀ vs H Q E, sp vs H Q E → vs.length = ps.length)
    (hbody : ∀ (f : Addr) (cdv : Value) (A : Around) (outer : List Env) (s : Shared) (H : Hp) (vs : List V) (Q : VK) (E : XK), Room k (A.deeper (envOfC x (defScope st) s.heap.objs.size f cdv)) → sp vs H Q E →
      ∃ t, PSs (cxOf (L2N.CX P w) P w K mg base N x (defScope st) f cdv A outer s H E) (defBody st) t ∧ t { nx := fun _ H' => Q .non H', rt := Q } (start N vs) H) : FnOk P w K mg base (L2N.CX P w) (k + 1) f0 fd ps sp :=
  F.ok S len fun cdv A outer s H vs Q E hr h => hbody _ cdv A outer s H vs Q E hr h
/-- the end of a law, its air leaning on the world -/
theorem walk_W {l : PySem.W.OpenLaw} {n k : Nat} {q : Program} {loose : List Str} {XP : (Str → Option Value) → Heap → Prop} {YP : World → Heap → Prop} {d : DefRec} {CX : World → CXT} {x : Str}
    (hn : l.most = some n) (hn2 : n ≤ sizeLine) (hdf : d.params.defaults = []) (hr : Room k callerA)
    (F : ∀ (w : World) (mg : Str → Option Value) (fa : Addr) (h : Heap), YP w h → h.Ns mainGlobals mg → mg d.name = some (.ref fa) →
      ∃ (K : PySem.W.Frag) (fd : FuncData) (sp : Sp), K.In h ∧ (∀ (s : Shared) (u : Value), BindsTo s fd ⟨[u], []⟩ [(x, u)]) ∧
        (∀ (H : Hp) (a : Addr) (ns : List Int), ns.length ≤ n → Only H → SqL K H a (ns.map V.int) → sp [.ref a] H (fun v _ => v = .bl true) fun _ _ _ => False) ∧
        ∀ base : Heap, K.In base → base.Ns mainGlobals mg → FnOk l.prog w K mg base (CX w) k fa fd [x] sp)
    (hCX : ∀ (w : World) (H : Hp) (s : Shared) (e : Value) (s' : Shared), CX w [] H s (fun _ _ _ => False) e s' → False) :
    PySem.W.WalkO q loose XP YP l.row.toRowW d [] (fun f vs => PySem.call f vs) := by
  refine Att.attach_call hn hdf fun w s₀ s₁ mg mb fa o pm cd doc a vs ns G Y ho hd hcd hmg hobj hints hlen hg => ?_
  obtain ⟨K, fd, sp, KX, hb, hsp, hF⟩ := F w mg fa _ Y G.T.g hmg
  exact law_call KX G.T.g G.T.b G.T.builtins G.T.nolimit hg hobj hints (Nat.le_trans hlen hn2) hr hF hb (fun H hO hS => hsp H a ns hlen hO hS) fun H e s' => hCX w H s₁ e s'
/-- a whole number between two -/
def amongV (x : V) (lo hi : Int) : Bool := match x with
  | .int n => decide (lo ≤ n) && decide (n ≤ hi)
  | _ => false
/-- things that may be handed in anywhere -/
def Kn (H : Hp) (x : V) : Prop := (tyN H x).isSome = true
theorem Kn.cases {H : Hp} {x : V} (h : Kn H x) : x = .non ∨ (∃ b, x = .bl b) ∨ (∃ n, x = .int n) ∨ (∃ z, x = .str z) ∨ ∃ a t, x = .ref a ∧ tyN H (.ref a) = some t ∧ (t = "list" ∨ t = "tuple" ∨ t = "dict") := by
  unfold Kn at h
  cases x with
  | non => exact .inl rfl
  | bl b => exact .inr (.inl ⟨b, rfl⟩)
  | int n => exact .inr (.inr (.inl ⟨n, rfl⟩))
  | str z => exact .inr (.inr (.inr (.inl ⟨z, rfl⟩)))
  | byt b => cases h
  | flt b => cases h
  | ty n => cases h
  | ref a =>
    refine .inr (.inr (.inr (.inr ?_)))
    unfold tyN at h
    dsimp only at h
    split at h
    · rename_i xs e
      exact ⟨a, "list", rfl, by unfold tyN; dsimp only; rw [e], .inl rfl⟩
    · rename_i xs e
      exact ⟨a, "tuple", rfl, by unfold tyN; dsimp only; rw [e], .inr (.inl rfl)⟩
    · rename_i xs e
      exact ⟨a, "dict", rfl, by unfold tyN; dsimp only; rw [e], .inr (.inr rfl)⟩
    · cases h
end RP

/-! ### frames, comprehensions by what they give, texts -/
namespace RP
open PySem PySem.Spec PyProof.Rows L2
/-- what is outside A stays -/
def Fr (A : List Addr) (H H' : Hp) : Prop := ∀ b o, b ∉ A → H b = some o → H' b = some o
theorem Fr.refl (A : List Addr) (H : Hp) : Fr A H H := fun _ _ _ h => h
theorem Fr.trans {A : List Addr} {H H1 H2 : Hp} (a : Fr A H H1) (b : Fr A H1 H2) : Fr A H H2 := fun c o n h => b c o n (a c o n h)
theorem Fr.of {A : List Addr} {H H1 : Hp} (a : Same H H1) : Fr A H H1 := fun c o _ h => a c o h
theorem Fr.upd {A : List Addr} {H H1 : Hp} {p : Addr} {o : HO} (a : Fr A H H1) (m : p ∈ A) : Fr A H (L2.upd H1 p o) := fun c u n h => by
  rw [upd_ne (fun e => n (by rw [e]; exact m))]
  exact a c u n h
theorem Fr.new {A : List Addr} {H H1 : Hp} {p : Addr} {o : HO} (a : Fr A H H1) (m : H1 p = none) : Fr A H (L2.upd H1 p o) := a.trans (.of (same_new m))
theorem Fr.mono {A B : List Addr} {H H1 : Hp} (a : Fr A H H1) (s : ∀ x ∈ A, x ∈ B) : Fr B H H1 := fun c o n h => a c o (fun m => n (s c m)) h
theorem Same.fr {H H1 : Hp} (a : Fr [] H H1) : Same H H1 := fun c o h => a c o (by simp) h
theorem ne_of_obj {H : Hp} {a b : Addr} {o u : HO} (h : H a = some o) (h2 : H b = some u) (n : o ≠ u) : a ≠ b := fun e => by
  rw [e, h2] at h
  exact n (Option.some.inj h).symm
/-- two lists, item by item -/
inductive All2 {α β : Type} (R : α → β → Prop) : List α → List β → Prop
  | nil : All2 R [] []
  | cons {x y xs ys} : R x y → All2 R xs ys → All2 R (x :: xs) (y :: ys)
theorem All2.mono {α β : Type} {R S : α → β → Prop} (i : ∀ x y, R x y → S x y) : ∀ {xs : List α} {ys : List β}, All2 R xs ys → All2 S xs ys
  | _, _, .nil => .nil
  | _, _, .cons h t => .cons (i _ _ h) (t.mono i)
theorem All2.snoc {α β : Type} {R : α → β → Prop} {x : α} {y : β} (h : R x y) : ∀ {xs : List α} {ys : List β}, All2 R xs ys → All2 R (xs ++ [x]) (ys ++ [y])
  | _, _, .nil => .cons h .nil
  | _, _, .cons h1 t => .cons h1 (t.snoc h)
theorem All2.length {α β : Type} {R : α → β → Prop} : ∀ {xs : List α} {ys : List β}, All2 R xs ys → xs.length = ys.length
  | _, _, .nil => rfl
  | _, _, .cons _ t => by rw [List.length_cons, List.length_cons, t.length]
theorem All2.get {α β : Type} {R : α → β → Prop} : ∀ {xs : List α} {ys : List β} {i : Nat} {y : β}, All2 R xs ys → ys[i]? = some y → ∃ x, xs[i]? = some x ∧ R x y
  | _, _, 0, y, .cons h _, e => ⟨_, rfl, by cases e; exact h⟩
  | _, _, i + 1, y, .cons _ t, e => by
    obtain ⟨x, e1, r⟩ := t.get (i := i) (by simpa using e)
    exact ⟨x, by simpa using e1, r⟩
  | _, _, i, y, .nil, e => by simp at e
theorem All2.getL {α β : Type} {R : α → β → Prop} : ∀ {xs : List α} {ys : List β} {i : Nat} {x : α}, All2 R xs ys → xs[i]? = some x → ∃ y, ys[i]? = some y ∧ R x y
  | _, _, 0, y, .cons h _, e => ⟨_, rfl, by cases e; exact h⟩
  | _, _, i + 1, y, .cons _ t, e => by
    obtain ⟨x, e1, r⟩ := t.getL (i := i) (by simpa using e)
    exact ⟨x, by simpa using e1, r⟩
  | _, _, i, y, .nil, e => by simp at e
theorem All2.of_map {α β : Type} {R : α → β → Prop} {f : α → β} (h : ∀ x, R x (f x)) : ∀ (xs : List α), All2 R xs (xs.map f)
  | [] => .nil
  | x :: r => .cons (h x) (All2.of_map h r)
theorem All2.map_eq {α β : Type} {f : α → β} : ∀ {xs : List α} {ys : List β}, All2 (fun x y => y = f x) xs ys → ys = xs.map f
  | _, _, .nil => rfl
  | _, _, .cons h t => by rw [h, t.map_eq]; rfl
theorem All2.map_l {α β γ : Type} {f : γ → α} {R : α → β → Prop} : ∀ {xs : List γ} {ys : List β}, All2 R (xs.map f) ys → All2 (fun x y => R (f x) y) xs ys
  | [], _, .nil => .nil
  | _ :: _, _, .cons h t => .cons h t.map_l
theorem All2.mapO_eq {f : V → Option PyData} {g : α → PyData} : ∀ {xs : List α} {ys : List V}, All2 (fun x y => f y = some (g x)) xs ys → mapO f ys = some (xs.map g)
  | _, _, .nil => rfl
  | _, _, .cons h t => by
    unfold mapO
    rw [h, t.mapO_eq]
    rfl
/-- what stays told, whatever becomes of the new list -/
def Keeps (R : Hp → α → V → Prop) : Prop := ∀ H H' D xs x y, H D = some (.lst xs) → Fr [D] H H' → R H x y → R H' x y
theorem keeps_pure {R : α → V → Prop} : Keeps (fun _ => R) := fun _ _ _ _ _ _ _ _ r => r
theorem keeps_tup {f : α → List V} : Keeps (fun H x y => ∃ q, y = .ref q ∧ H q = some (.tup (f x))) := fun H H' D xs x y hD fr ⟨q, e, h⟩ =>
  ⟨q, e, fr q _ (fun m => by
    have e2 : q = D := by simpa using m
    rw [e2, hD] at h
    cases h) h⟩
section
variable {K : PySem.W.Frag} {tl te : TE} {ta : TA} {g : TG} {tb : TS} {D : Ends} {σ : L2.St} {H : Hp} {vs : List Nat} {Q : VK}
/-- [e for x in a list] -/
theorem lcut {tl : TE} (G : Addr → Hp → Prop) (R : Hp → V → V → Prop) (xs : List V) (hk : Keeps R) (h1 : ∀ Z : VK, (∀ a H1, G a H1 → Z (.ref a) H1) → tl σ H Z) (h0 : ∀ a H1, G a H1 → SqL K H1 a xs) (hlen : xs.length ≤ sizeLine)
    (hs : ∀ a H1 H2 (i : Nat) x (Z : VK), G a H1 → xs[i]? = some x → Same H1 H2 → (∀ y H3, Same H2 H3 → R H3 x y → Z y H3) → g x (wipe σ vs) H2 fun σ2 H3' => wipe σ2 vs = wipe σ vs ∧ te σ2 H3' Z)
    (hd : ∀ a H1 H3 D rs, G a H1 → H1 D = none → Same H1 H3 → H3 D = some (.lst rs) → All2 (R H3) xs rs → Q (.ref D) H3) : tLc (iList K tl) g tYes te vs σ H Q := by
  refine h1 _ fun a H1 hG => ⟨a, rfl, ⟨xs, h0 a H1 hG⟩, fun D nD => ?_⟩
  refine lc_list (xs := xs) (fun i H' => Same H1 H' ∧ ∃ rs, H' D = some (.lst rs) ∧ All2 (R H') (xs.take i) rs) ⟨same_new nD, [], upd_same, by rw [List.take_zero]; exact .nil⟩ (fun i H' _ h => h.1.seq (h0 a H1 hG)) ?_ ?_
  · rintro i x H' hx ⟨s1, rs, hD, ar⟩
    obtain ⟨hi, hx2⟩ := List.getElem?_eq_some_iff.mp hx
    simp only [tYes, if_true]
    refine hs a H1 H' i x _ hG hx s1 fun y H3 s3 r3 => ?_
    have hl : rs.length < sizeLine := by
      rw [← ar.length, List.length_take]
      omega
    refine ⟨rs, s3 _ _ hD, hl, fun c o ec => ?_, rs ++ [y], upd_same, ?_⟩
    · rw [upd_ne (ne_of_none ec nD)]
      exact s3 _ _ (s1 _ _ ec)
    · have f3 : Fr [D] H3 (upd H3 D (.lst (rs ++ [y]))) := (Fr.refl _ _).upd (by simp)
      have e : xs.take (i + 1) = xs.take i ++ [x] := by rw [List.take_succ, hx]; rfl
      rw [e]
      exact (ar.mono fun u v r => hk _ _ D _ u v (s3 _ _ hD) f3 (hk _ _ D _ u v hD (.of s3) r)).snoc (hk _ _ D _ x y (s3 _ _ hD) f3 r3)
  · rintro H' ⟨s1, rs, hD, ar⟩
    rw [List.take_length] at ar
    exact hd a H1 H' D rs hG nD s1 hD ar
/-- [e for x in range(n)] -/
theorem rcut {wi : TI} (lo : Int) (n : Nat) (G : Hp → Prop) (R : Hp → Nat → V → Prop) (hk : Keeps R) (h1 : ∀ Z : It → Hp → Prop, (∀ H1, G H1 → Z (Itr lo n) H1) → wi σ H Z) (hlen : n ≤ sizeLine)
    (hs : ∀ H1 H2 i (Z : VK), G H1 → i < n → Same H1 H2 → (∀ y H3, Same H2 H3 → R H3 i y → Z y H3) → g (.int (lo + i)) (wipe σ vs) H2 fun σ2 H3' => wipe σ2 vs = wipe σ vs ∧ te σ2 H3' Z)
    (hd : ∀ H1 H3 D rs, G H1 → H1 D = none → Same H1 H3 → H3 D = some (.lst rs) → All2 (R H3) (List.range n) rs → Q (.ref D) H3) : tLc wi g tYes te vs σ H Q := by
  refine h1 _ fun H1 hG => fun D nD => ?_
  refine lc_range (fun i H' => Same H1 H' ∧ ∃ rs, H' D = some (.lst rs) ∧ All2 (R H') (List.range i) rs) ⟨same_new nD, [], upd_same, .nil⟩ ?_ ?_
  · rintro i H' hi ⟨s1, rs, hD, ar⟩
    simp only [tYes, if_true]
    refine hs H1 H' i _ hG hi s1 fun y H3 s3 r3 => ?_
    have hl : rs.length < sizeLine := by
      rw [← ar.length, List.length_range]
      omega
    refine ⟨rs, s3 _ _ hD, hl, fun c o ec => ?_, rs ++ [y], upd_same, ?_⟩
    · rw [upd_ne (ne_of_none ec nD)]
      exact s3 _ _ (s1 _ _ ec)
    · have f3 : Fr [D] H3 (upd H3 D (.lst (rs ++ [y]))) := (Fr.refl _ _).upd (by simp)
      rw [List.range_succ]
      exact (ar.mono fun u v r => hk _ _ D _ u v (s3 _ _ hD) f3 (hk _ _ D _ u v hD (.of s3) r)).snoc (hk _ _ D _ i y (s3 _ _ hD) f3 r3)
  · rintro H' ⟨s1, rs, hD, ar⟩
    exact hd H1 H' D rs hG nD s1 hD ar
/-- [e for i, x in enumerate(a list)] -/
theorem ecut {ta : TA} (G : Addr → Hp → Prop) (R : Hp → Nat × V → V → Prop) (xs : List V) (hk : Keeps R) (h1 : ∀ Z : List V → Hp → Prop, (∀ a H1, G a H1 → Z [.ref a] H1) → ta σ H Z) (h0 : ∀ a H1, G a H1 → SqL K H1 a xs) (hlen : xs.length ≤ sizeLine)
    (hs : ∀ a H1 H2 (i : Nat) x T (Z : VK), G a H1 → xs[i]? = some x → Same H1 H2 → H2 T = some (.tup [.int (i : Nat), x]) → (∀ y H3, Same H2 H3 → R H3 (i, x) y → Z y H3) → g (.ref T) (wipe σ vs) H2 fun σ2 H3' => wipe σ2 vs = wipe σ vs ∧ te σ2 H3' Z)
    (hd : ∀ a H1 H3 D rs, G a H1 → H1 D = none → Same H1 H3 → H3 D = some (.lst rs) → All2 (R H3) ((List.range xs.length).zip xs) rs → Q (.ref D) H3) : tLc (iEnum K ta) g tYes te vs σ H Q := by
  refine h1 _ fun a H1 hG => ⟨a, xs, rfl, h0 a H1 hG, fun D nD => ?_⟩
  refine ⟨fun i m H' => m = xs.length - i ∧ i ≤ xs.length ∧ Same H1 H' ∧ ∃ rs, H' D = some (.lst rs) ∧ All2 (R H') ((List.range i).zip (xs.take i)) rs, ⟨xs.length, by simp, Nat.zero_le _, same_new nD, [], upd_same, .nil⟩, ?_⟩
  rintro i m H' ⟨rfl, hi, s1, rs, hD, ar⟩
  have q := s1.seq (h0 a H1 hG)
  by_cases hlt : i < xs.length
  · refine .inr ⟨⟨xs, xs[i], q, by simp [hlt]⟩, fun H' => i + 1 ≤ xs.length ∧ Same H1 H' ∧ ∃ rs, H' D = some (.lst rs) ∧ All2 (R H') ((List.range (i + 1)).zip (xs.take (i + 1))) rs, fun H' p' => ⟨xs.length - (i + 1), by omega, rfl, hlt, p'.2⟩, fun v H'' y => ?_⟩
    obtain ⟨T, x, rfl, nT, rfl, hx⟩ := y
    have hx := hx xs q
    have sT : Same H' (upd H' T (.tup [.int (i : Nat), x])) := same_new nT
    simp only [tYes, if_true]
    refine hs a H1 _ i x T _ hG hx (s1.trans sT) upd_same fun y H3 s3 r3 => ?_
    have hl : rs.length < sizeLine := by
      rw [← ar.length, List.length_zip, List.length_take, List.length_range]
      omega
    have s4 := sT.trans s3
    refine ⟨rs, s4 _ _ hD, hl, hlt, fun c o ec => ?_, rs ++ [y], upd_same, ?_⟩
    · rw [upd_ne (ne_of_none ec nD)]
      exact s4 _ _ (s1 _ _ ec)
    · have f3 : Fr [D] H3 (upd H3 D (.lst (rs ++ [y]))) := (Fr.refl _ _).upd (by simp)
      have e : xs.take (i + 1) = xs.take i ++ [x] := by rw [List.take_succ, hx]; rfl
      rw [e, List.range_succ, List.zip_append (by rw [List.length_range, List.length_take]; omega)]
      exact (ar.mono fun u v r => hk _ _ D _ u v (s4 _ _ hD) f3 (hk _ _ D _ u v hD (.of s4) r)).snoc (hk _ _ D _ (i, x) y (s4 _ _ hD) f3 r3)
  · have e : i = xs.length := by omega
    subst e
    rw [List.take_length] at ar
    exact .inl ⟨⟨xs, q, Nat.le_refl _⟩, hd a H1 H' D rs hG nD s1 hD ar⟩
/-- [e for x in range(n) if ..] -/
theorem rcutF {tt : TT} {wi : TI} (lo : Int) (n : Nat) (c : Nat → Bool) (G : Hp → Prop) (R : Hp → Nat → V → Prop) (hk : Keeps R) (h1 : ∀ Z : It → Hp → Prop, (∀ H1, G H1 → Z (Itr lo n) H1) → wi σ H Z) (hlen : n ≤ sizeLine)
    (hs : ∀ H1 H2 i (Z : VK) (W : Hp → Prop), G H1 → i < n → Same H1 H2 → (c i = true → ∀ y H3, Same H2 H3 → R H3 i y → Z y H3) → (c i = false → ∀ H3, Same H2 H3 → W H3) → g (.int (lo + i)) (wipe σ vs) H2 fun σ2 H3' => wipe σ2 vs = wipe σ vs ∧ tt σ2 H3' fun b H3 => if b = true then te σ2 H3 Z else W H3)
    (hd : ∀ H1 H3 D rs, G H1 → H1 D = none → Same H1 H3 → H3 D = some (.lst rs) → All2 (R H3) ((List.range n).filter c) rs → Q (.ref D) H3) : tLc wi g tt te vs σ H Q := by
  refine h1 _ fun H1 hG => fun D nD => ?_
  refine lc_range (fun i H' => i ≤ n ∧ Same H1 H' ∧ ∃ rs, H' D = some (.lst rs) ∧ All2 (R H') ((List.range i).filter c) rs) ⟨Nat.zero_le _, same_new nD, [], upd_same, .nil⟩ ?_ ?_
  · rintro i H' hi ⟨_, s1, rs, hD, ar⟩
    refine hs H1 H' i _ _ hG hi s1 (fun hc y H3 s3 r3 => ?_) (fun hc H3 s3 => ?_)
    · have hl : rs.length < sizeLine := by
        rw [← ar.length]
        exact Nat.lt_of_le_of_lt (List.length_filter_le _ _) (by rw [List.length_range]; omega)
      refine ⟨rs, s3 _ _ hD, hl, hi, fun c o ec => ?_, rs ++ [y], upd_same, ?_⟩
      · rw [upd_ne (ne_of_none ec nD)]
        exact s3 _ _ (s1 _ _ ec)
      · have f3 : Fr [D] H3 (upd H3 D (.lst (rs ++ [y]))) := (Fr.refl _ _).upd (by simp)
        rw [List.range_succ, List.filter_append, List.filter_cons, if_pos hc]
        exact (ar.mono fun u v r => hk _ _ D _ u v (s3 _ _ hD) f3 (hk _ _ D _ u v hD (.of s3) r)).snoc (hk _ _ D _ i y (s3 _ _ hD) f3 r3)
    · refine ⟨hi, s1.trans s3, rs, s3 _ _ hD, ?_⟩
      rw [List.range_succ, List.filter_append, List.filter_cons, if_neg (by rw [hc]; exact Bool.false_ne_true), List.filter_nil, List.append_nil]
      exact ar.mono fun u v r => hk _ _ D _ u v hD (.of s3) r
  · rintro H' ⟨_, s1, rs, hD, ar⟩
    exact hd H1 H' D rs hG nD s1 hD ar
/-- [e for x in a list if ..], none of which is taken -/
theorem lcut0 {tt : TT} {tl : TE} (G : Addr → Hp → Prop) (xs : List V) (h1 : ∀ Z : VK, (∀ a H1, G a H1 → Z (.ref a) H1) → tl σ H Z) (h0 : ∀ a H1, G a H1 → SqL K H1 a xs)
    (hs : ∀ a H1 H2 (i : Nat) x (Z : VK) (W : Hp → Prop), G a H1 → xs[i]? = some x → Same H1 H2 → (∀ H3, Same H2 H3 → W H3) → g x (wipe σ vs) H2 fun σ2 H3' => wipe σ2 vs = wipe σ vs ∧ tt σ2 H3' fun b H3 => if b = true then te σ2 H3 Z else W H3)
    (hd : ∀ a H1 H3 D, G a H1 → H1 D = none → Same H1 H3 → H3 D = some (.lst []) → Q (.ref D) H3) : tLc (iList K tl) g tt te vs σ H Q := by
  refine h1 _ fun a H1 hG => ⟨a, rfl, ⟨xs, h0 a H1 hG⟩, fun D nD => ?_⟩
  refine lc_list (xs := xs) (fun i H' => Same H1 H' ∧ H' D = some (.lst [])) ⟨same_new nD, upd_same⟩ (fun i H' _ h => h.1.seq (h0 a H1 hG)) ?_ ?_
  · rintro i x H' hx ⟨s1, hD⟩
    exact hs a H1 H' i x _ _ hG hx s1 fun H3 s3 => ⟨s1.trans s3, s3 _ _ hD⟩
  · rintro H' ⟨s1, hD⟩
    exact hd a H1 H' D hG nD s1 hD
/-- for x in range(..) -/
theorem for_rcut {wi : TI} (lo : Int) (n : Nat) (G : Hp → Prop) (h1 : ∀ Z : It → Hp → Prop, (∀ H1, G H1 → Z (Itr lo n) H1) → wi σ H Z) (Pv : Nat → L2.St → Hp → Prop) (h0 : ∀ H1, G H1 → Pv 0 σ H1)
    (hs : ∀ i σ H, i < n → Pv i σ H → g (.int (lo + i)) σ H fun σ2 H2 => tb { D with nx := Pv (i + 1), ct := Pv (i + 1), bk := D.nx } σ2 H2) (hd : ∀ σ H, Pv n σ H → D.nx σ H) : tFor wi g tb D σ H :=
  h1 _ fun H1 q => for_range Pv (h0 H1 q) hs hd
end
/-! #### sorted of a dict with int keys -/
def srt (ks : List Int) : List Int := ks.mergeSort fun a b => decide (a ≤ b)
theorem srt_perm (ks : List Int) : (srt ks).Perm ks := List.mergeSort_perm ..
theorem srt_mem {ks : List Int} {k : Int} : k ∈ srt ks ↔ k ∈ ks := (srt_perm ks).mem_iff
theorem srt_length (ks : List Int) : (srt ks).length = ks.length := (srt_perm ks).length_eq
theorem call_sortedC {X : Cx} (hcalm : X.calm = true) : CallR X (.builtin "sorted") (fun xs H Q => ∃ (a : Addr) (kvs : List (Key × V)) (ks : List Int), xs = [.ref a] ∧ H a = some (.dK kvs) ∧ kvs.map (·.1) = ks.map Sum.inl ∧ ks.length < 64 ∧
    ∀ p : Addr, H p = none → Q (.ref p) (upd H p (.lst ((srt ks).map V.int)))) :=
  call_imp (call_sortedDI hcalm) fun xs H Q ⟨a, kvs, ks, e, h, hk, l, q⟩ => ⟨a, kvs, ks, e, Rd.of h, hk, l, fun ys p pm so n => by
    have e : ys = srt ks := by
      refine List.Perm.eq_of_pairwise (le := fun a b => a ≤ b) (fun a b _ _ h1 h2 => Int.le_antisymm h1 h2) so ?_ (pm.trans (srt_perm ks).symm)
      have z := List.pairwise_mergeSort (le := fun a b : Int => decide (a ≤ b)) (fun a b c h1 h2 => by simp only [decide_eq_true_eq] at *; omega) (fun a b => by simp only [Bool.or_eq_true, decide_eq_true_eq]; omega) ks
      exact z.imp fun h => of_decide_eq_true h
    rw [e]
    exact q p n⟩
/-! #### texts -/
def TxtOk (n : Nat) (x : Str) : Prop := PyData.strOk x = true ∧ x.length ≤ n
theorem TxtOk.mono {n m : Nat} {x : Str} (h : TxtOk n x) (l : n ≤ m) : TxtOk m x := ⟨h.1, Nat.le_trans h.2 l⟩
theorem strOk_iff {x : Str} : PyData.strOk x = true ↔ ∀ c ∈ x.cps.toList, c < 0x110000 := by
  unfold PyData.strOk
  rw [Array.all_eq_true_iff_forall_mem]
  simp only [decide_eq_true_eq]
  exact ⟨fun h c m => h c (by simpa using m), fun h c m => h c (by simpa using m)⟩
theorem append_cps (x y : Str) : (x ++ y).cps.toList = x.cps.toList ++ y.cps.toList := by
  show (x.cps ++ y.cps).toList = _
  simp
theorem length_append (x y : Str) : (x ++ y).length = x.length + y.length := by
  show (x.cps ++ y.cps).size = _
  rw [Array.size_append]; rfl
theorem TxtOk.app {n m : Nat} {x y : Str} (h : TxtOk n x) (h2 : TxtOk m y) : TxtOk (n + m) (x ++ y) := by
  refine ⟨strOk_iff.mpr fun c hc => ?_, by rw [length_append]; exact Nat.add_le_add h.2 h2.2⟩
  rw [append_cps] at hc
  rcases List.mem_append.mp hc with z | z
  · exact strOk_iff.mp h.1 c z
  · exact strOk_iff.mp h2.1 c z
/-- an attribute, within a block: the reading names no block -/
theorem pe_fldK {X : Cx} {K : PySem.W.Frag} {e : Expr} {ta : TE} {f : Str} {pos : Pos} (hK : X.K = K) (he : PE X e ta) (hb : attributeBase e f X.env (eval e X.env) = eval e X.env) : PE X (.Attribute e f pos) (tFld K ta f) := by
  subst hK
  exact pe_fld he hb
/-- a, b = a tuple -/
def gTupC (n : Nat) (t : TGs) : TG := fun v σ H Q => ∃ a, v = .ref a ∧ ∃ xs, H a = some (.tup xs) ∧ xs.length = n ∧ t xs σ H Q
theorem pg_tupC {X : Cx} {pos : Pos} {es : List Expr} {k : Nat} {t : TGs} {n : Nat} (hc : X.calm = true) (h : PGs X es t)
    (hn : (assignEach es X.env).length = n := by rfl) (hst : (assignEach es X.env).findIdx? (·.1) = none := by rfl) : PG X (.Tuple es k pos) (gTupC n t) :=
  ⟨fun pins s σ H v u Q I r ⟨a, e, xs, ha, hl, q⟩ => (pg_tup hc h hn hst).run pins s σ H v u Q I r ⟨a, xs, e, SqT.of ha, hl, q⟩⟩
/-- b if c else d, as a test -/
def tIfT (c a b : TT) : TT := fun σ H Q => c σ H fun d H1 => if d = true then a σ H1 Q else b σ H1 Q
theorem pt_ifExp {X : Cx} {pos : Pos} {c a b : Expr} {tc ta tb : TT} (hc : PT X c tc) (ha : PT X a ta) (hb : PT X b tb) : PT X (.IfExp c a b pos) (tIfT tc ta tb) := by
  refine ⟨fun pins s σ H Q I h => ?_⟩
  refine PyProof.Rows.isTrue_IfExp (thn (hc.run pins s σ H _ I h) fun d s1 ⟨H1, I1, q1⟩ => ?_)
  cases d with
  | true => exact ha.run pins s1 σ H1 Q I1 q1
  | false => exact hb.run pins s1 σ H1 Q I1 q1
/-- one statement, by where it gets to -/
theorem seq_rel {t u : TS} {D : Ends} {σ : L2.St} {H : Hp} (R : L2.St → Hp → Prop) (h1 : ∀ N : L2.St → Hp → Prop, (∀ σ1 H1, R σ1 H1 → N σ1 H1) → t { D with nx := N } σ H) (h2 : ∀ σ1 H1, R σ1 H1 → u D σ1 H1) : tSeq t u D σ H := h1 _ h2
theorem seq_to {t u : TS} {D : Ends} {σ : L2.St} {H : Hp} (σ1 : L2.St) (H1 : Hp) (h1 : ∀ N : L2.St → Hp → Prop, N σ1 H1 → t { D with nx := N } σ H) (h2 : u D σ1 H1) : tSeq t u D σ H := h1 _ h2
theorem call_listC {X : Cx} : CallR X (.type "list") (fun xs H Q => ∃ p ys, xs = [.ref p] ∧ seqO H p = some ys ∧ ∀ l, H l = none → Q (.ref l) (upd H l (.lst ys))) :=
  call_imp call_list_of fun vs H Q ⟨p, ys, e, h, q⟩ => ⟨p, ys, e, seqO_ok h, q⟩
theorem call_dictC {X : Cx} : CallR X (.type "dict") (fun xs H Q => ∃ p kvs, xs = [.ref p] ∧ H p = some (.dK kvs) ∧ ∀ l : Addr, H l = none → Q (.ref l) (upd H l (.dK kvs))) :=
  call_imp call_dictD fun vs H Q ⟨p, ys, e, h, q⟩ => ⟨p, ys, e, Rd.of h, q⟩
/-- texts: one sign -/
theorem ix_strC {X : Cx} : IxR X (fun x y H Q => ∃ z i, x = .str z ∧ y = .int i ∧ z.length ≤ sizeLine ∧ ∃ c, atI z.cps.toList i = some c ∧ Q (.str ⟨#[c]⟩) H) := ix_imp ix_str fun x y H Q ⟨z, i, e1, e2, l, c, h, q⟩ => ⟨z, i, c, e1, e2, l, h, q⟩
theorem RDq :
    (∀ (σ : L2.St) (H : Hp) (Q : VK), tDNewK σ H Q = ∀ p, H p = none → Q (.ref p) (upd H p (.dK []))) ∧
    (∀ (trs : List (TE × TE)) (σ : L2.St) (H : Hp) (Q : VK), tDisp trs σ H Q = ∀ p, H p = none → tPairs trs σ (upd H p (.dK [])) fun ps H2 => H2 p = some (.dK []) ∧ ∃ kvs : List (Key × V), ps = kvs.map (fun kv => (kV kv.1, kv.2)) ∧ kvs.length ≤ 15 ∧ Q (.ref p) (upd H2 p (.dK (mergeK [] kvs)))) ∧
    (∀ (σ : L2.St) (H : Hp) (Q : List (V × V) → Hp → Prop), tPairs [] σ H Q = Q [] H) ∧
    (∀ (tk tv : TE) (r : List (TE × TE)) (σ : L2.St) (H : Hp) (Q : List (V × V) → Hp → Prop), tPairs ((tk, tv) :: r) σ H Q = tk σ H fun x H1 => tv σ H1 fun y H2 => tPairs r σ H2 fun ps H3 => Q ((x, y) :: ps) H3) ∧
    (∀ (x y : V) (H : Hp) (Q : VK), rCat x y H Q = ∃ l b xs zs, x = .ref l ∧ y = .ref b ∧ H l = some (.lst xs) ∧ H b = some (.lst zs) ∧ xs.length + zs.length ≤ sizeLine ∧ ∀ p, H p = none → Q (.ref p) (upd H p (.lst (xs ++ zs)))) ∧
    (∀ (x y : V) (H : Hp) (Q : VK), rRep x y H Q = ∃ l k xs, x = .ref l ∧ y = .int k ∧ H l = some (.lst xs) ∧ -(2 ^ 63) ≤ k ∧ k < 2 ^ 63 ∧ xs.length * k.toNat ≤ sizeLine ∧ ∀ p, H p = none → Q (.ref p) (upd H p (.lst (List.replicate k.toNat xs).flatten))) ∧
    (∀ (K : PySem.W.Frag) (vs : List V) (H : Hp) (Q : VK), rAll K vs H Q = ∃ (a : Addr) (bs : List Bool), vs = [V.ref a] ∧ SqL K H a (bs.map V.bl) ∧ Q (.bl (bs.all id)) H) ∧
    (∀ (te : L2.St → Hp → (Int → Int → Hp → Prop) → Prop) (σ : L2.St) (H : Hp) (Q : VK), tLstRg te σ H Q = te σ H fun a b H1 => RgOk a b ∧ ∀ q, H1 q = none → Q (.ref q) (upd H1 q (.lst (rgV a b)))) ∧
    (∀ (ta : TE) (σ : L2.St) (H : Hp) (Q : Int → Int → Hp → Prop), tRg1 ta σ H Q = ta σ H fun x H1 => ∃ n, x = .int n ∧ Q 0 n H1) ∧
    (∀ (ta tb : TE) (σ : L2.St) (H : Hp) (Q : Int → Int → Hp → Prop), tRg2 ta tb σ H Q = ta σ H fun x H1 => tb σ H1 fun y H2 => ∃ i j, x = .int i ∧ y = .int j ∧ Q i j H2) ∧
    (∀ (r : V → List V → Hp → VK → Prop) (to te : TE) (σ : L2.St) (H : Hp) (Q : VK), tM1 r to te σ H Q = to σ H fun x H1 => (∃ a, x = .str a) ∧ te σ H1 fun y H2 => r x [y] H2 Q) ∧
    (∀ (x : V) (lo hi : Option Int) (H : Hp) (Q : VK), rSlS x lo hi H Q = ∃ z, x = .str z ∧ z.length ≤ sizeLine ∧ Q (.str (cutS z lo hi)) H) ∧
    (∀ (K : PySem.W.Frag) (x : V) (lo hi : Option Int) (H : Hp) (Q : VK), rSlL K x lo hi H Q = ∃ a xs, x = .ref a ∧ SqL K H a xs ∧ ∀ p, H p = none → Q (.ref p) (upd H p (.lst (cutV xs lo hi)))) ∧
    (∀ (α : Type) (f : α → V), ([] : List α).map f = []) ∧
    (∀ (ta : TA) (σ : L2.St) (H : Hp) (R : It → Hp → Prop), iRng1 ta σ H R = ta σ H fun vs H1 => ∃ j : Int, vs = [.int j] ∧ -(2 ^ 62) ≤ j ∧ j < 2 ^ 62 ∧ R (Itr 0 j.toNat) H1) ∧
    (∀ (ta : TA) (σ : L2.St) (H : Hp) (R : It → Hp → Prop), iRng2 ta σ H R = ta σ H fun vs H1 => ∃ i j : Int, vs = [.int i, .int j] ∧ (-(2 ^ 62) ≤ i ∧ i < 2 ^ 62 ∧ -(2 ^ 62) ≤ j ∧ j < 2 ^ 62) ∧ R (Itr i (j - i).toNat) H1) ∧
    (∀ (n : Nat) (t : TGs) (v : V) (σ : L2.St) (H : Hp) (Q : L2.St → Hp → Prop), gTupC n t v σ H Q = ∃ a, v = .ref a ∧ ∃ xs, H a = some (.tup xs) ∧ xs.length = n ∧ t xs σ H Q) ∧
    (∀ (c a b : TT) (σ : L2.St) (H : Hp) (Q : Bool → Hp → Prop), tIfT c a b σ H Q = c σ H fun d H1 => if d = true then a σ H1 Q else b σ H1 Q) ∧
    (∀ (σ : L2.St), wipe σ [] = σ) ∧ (∀ (σ : L2.St) (v : Nat) (vs : List Nat), wipe σ (v :: vs) = (wipe σ vs).set v none) :=
  ⟨fun _ _ _ => rfl, fun _ _ _ _ => rfl, fun _ _ _ => rfl, fun _ _ _ _ _ _ => rfl, fun _ _ _ _ => rfl, fun _ _ _ _ => rfl, fun _ _ _ _ => rfl, fun _ _ _ _ => rfl, fun _ _ _ _ => rfl, fun _ _ _ _ _ => rfl, fun _ _ _ _ _ _ => rfl, fun _ _ _ _ _ => rfl, fun _ _ _ _ _ _ => rfl, fun _ _ => rfl, fun _ _ _ _ => rfl, fun _ _ _ _ => rfl, fun _ _ _ _ _ _ => rfl, fun _ _ _ _ _ _ => rfl, fun _ => rfl, fun _ _ _ => rfl⟩
/-! #### data under frames -/
theorem mapO_same {f f' : V → Option PyData} (hf : ∀ v d, f v = some d → f' v = some d) : ∀ (xs : List V) (ds : List PyData), mapO f xs = some ds → mapO f' xs = some ds
  | [], ds, h => h
  | v :: r, ds, h => by
    unfold mapO at h ⊢
    split at h
    · rename_i d ds' h1 h2
      cases h
      rw [hf _ _ h1, mapO_same hf r _ h2]
    · cases h
theorem dat_same {H H' : Hp} (s : Same H H') : ∀ (n : Nat) (v : V) (d : PyData), dat H n v = some d → dat H' n v = some d := by
  intro n
  induction n with
  | zero =>
    intro v d h
    cases v <;> exact h
  | succ n ih =>
    intro v d h
    cases v with
    | ref a =>
      unfold dat at h ⊢
      split at h
      · rename_i xs e1
        obtain ⟨ds, e2, rfl⟩ := Option.map_eq_some_iff.mp h
        rw [s _ _ e1]
        dsimp only
        rw [mapO_same ih _ _ e2]
        rfl
      · rename_i xs e1
        obtain ⟨ds, e2, rfl⟩ := Option.map_eq_some_iff.mp h
        rw [s _ _ e1]
        dsimp only
        rw [mapO_same ih _ _ e2]
        rfl
      · rename_i ob xs e1
        obtain ⟨ds, e2, rfl⟩ := Option.map_eq_some_iff.mp h
        rw [s _ _ e1]
        dsimp only
        rw [mapO_same ih _ _ e2]
        rfl
      · cases h
    | _ => exact h
/-- the heap but for A -/
def hm (A : List Addr) (H : Hp) : Hp := fun c => if c ∈ A then none else H c
theorem hm_in {A : List Addr} {H : Hp} {c : Addr} (h : c ∉ A) : hm A H c = H c := if_neg h
theorem hm_same {A : List Addr} {H : Hp} : Same (hm A H) H := fun c o h => by
  unfold hm at h
  split at h
  · cases h
  · exact h
theorem hm_fr {A : List Addr} {H H' : Hp} (f : Fr A H H') : Same (hm A H) (hm A H') := fun c o h => by
  unfold hm at h ⊢
  split at h
  · cases h
  · rename_i n
    rw [if_neg n]
    exact f c o n h
/-- the data of a list of texts -/
theorem dat_strs (H : Hp) (n : Nat) : ∀ (g : List Str), mapO (dat H n) (g.map V.str) = some (g.map PyData.str)
  | [] => rfl
  | x :: r => by
    have e : dat H n (.str x) = some (.str x) := (datE H).2.2.2.1 n x
    rw [List.map_cons]
    unfold mapO
    rw [e, dat_strs H n r]
    rfl
theorem dat_ints (H : Hp) (n : Nat) : ∀ (g : List Int), mapO (dat H n) (g.map V.int) = some (g.map PyData.int)
  | [] => rfl
  | x :: r => by
    have e : dat H n (.int x) = some (.int x) := (datE H).2.2.1 n x
    rw [List.map_cons]
    unfold mapO
    rw [e, dat_ints H n r]
    rfl
theorem mapO_append {f : V → Option PyData} : ∀ {xs ys : List V} {ds es : List PyData}, mapO f xs = some ds → mapO f ys = some es → mapO f (xs ++ ys) = some (ds ++ es)
  | [], ys, ds, es, h1, h2 => by cases h1; exact h2
  | x :: r, ys, ds, es, h1, h2 => by
    unfold mapO at h1
    split at h1
    · rename_i d ds' e1 e2
      cases h1
      rw [List.cons_append, List.cons_append]
      conv => lhs; unfold mapO
      rw [e1, mapO_append e2 h2]
    · cases h1
theorem shp_str {n m : Nat} {x : Str} (h : TxtOk n x) : Shp m (.str x) := (shp_s m).2.2.2 x h.1
theorem Shp.lay {n : Nat} {d : PyData} (h : Shp n d) : d.canLay0 = true := h.1
end RP

namespace RP
open PySem PySem.Spec PyProof.Rows L2
def top (i : Nat) : Stmt := PySem.Challenge.pw_ringpost_k04_what_is_there.main.body.getD i (.Pass ⟨0, 0, 0, 0⟩)
/-- what the top says of an own error class -/
structure ErrC (K : PySem.W.Frag) (mg : Str → Option Value) (n : Str) : Prop where
  g : mg n = some (.ref (He.ga K n))
  ex : PySem.W.excIn K (He.ga K n) He.veBase "ValueError.__new__" = true
  k : PySem.W.keepIn K (.ref (He.ga K n)) = true
  s : PySem.W.subIn K (.ref (He.ga K n)) (.type "BaseException") = some true
  t : PySem.W.typeIn K (.ref (He.ga K n)) = some (.type "type")
end RP

namespace RP
open PySem PySem.Spec PyProof.Rows L2
abbrev s_is_among : Stmt := top 11
abbrev N_is_among : List Str := ["thing", "least", "most"]
theorem sc_is_among : FnScope N_is_among ["thing", "least", "most"] (defScope s_is_among) := ⟨rfl, rfl, rfl, by decide +kernel, rfl, by decide +kernel, by decide +kernel⟩
def sp_is_among (K : PySem.W.Frag) : Sp := fun vs H Q _ => ∃ x lo hi, vs = [x, .int lo, .int hi] ∧ Kn H x ∧ Q (.bl (amongV x lo hi)) H
theorem ok_is_among {P : Program} {w : World} {K : PySem.W.Frag} {mg : Str → Option Value} {base : Heap} (F : FnP K ("is_among", none) "is_among" "is_among" s_is_among) (hm : mg "is_among" = some (.ref (He.ga K "is_among"))) (bl : Blt mg) : Cal P w K mg base 1 "is_among" (sp_is_among K) := by
  refine fn_cal F hm sc_is_among (fun vs H Q E => by walk_at "len") (fun _ _ _ _ _ _ us hl => match us, hl with | [_, _, _], _ => rfl) (fun f cdv A outer s H vs Q E hr h => ?_)
  have hu := hu_of hr
  obtain ⟨x, lo, hi, rfl, hk, q⟩ := h
  refine ⟨_, (pss_one (ps_ret (pe_and (pe_callB call_isC (by rfl) (bl.isi) (by decide +kernel) (pa_cons (pv 0) (pa_cons (pe_bltn (v := .ty "int") (u := .type "int") rfl (bl.int) (by decide +kernel) rfl) pa_nil))) (pe_and (pe_not (pe_callB call_isC (by rfl) (bl.isi) (by decide +kernel) (pa_cons (pv 0) (pa_cons (pe_bltn (v := .ty "bool") (u := .type "bool") rfl (bl.bool) (by decide +kernel) rfl) pa_nil)))) (pe_one (pe_chain op_le op_le (pv 1) (pv 0) (pv 2))))))), ?_⟩
  walk_at "st0"
  simp only [RDa, RDb, RDv, RDk, RDx, RDe, RDd, RDp, RDq, List.getElem?_cons_zero, List.getElem?_cons_succ, List.set_cons_zero, List.set_cons_succ, List.cons.injEq, List.cons_ne_nil, reduceCtorEq, exists_eq_left', exists_eq_left, exists_and_left, and_assoc, exists_const, true_and, and_true, if_true, if_false, false_and, and_false, exists_false, false_or, or_false, true_implies, false_implies, implies_true, forall_eq, forall_eq', Bool.false_eq_true, if_neg, decide_eq_true_eq, Bool.not_eq_true', decide_eq_false_iff_not, Bool.not_true, Bool.not_false, List.length_cons, List.length_nil, sizeLine_eq, Nat.reduceAdd, Nat.reduceLeDiff, Nat.reduceLT, Int.reduceLT, Int.reduceLE, Int.emod_nonneg, ne_eq, Int.reduceEq, not_false_eq_true, not_true_eq_false]
  rcases hk.cases with rfl | ⟨b, rfl⟩ | ⟨n, rfl⟩ | ⟨z, rfl⟩ | ⟨a, t, rfl, ht, rfl | rfl | rfl⟩
  · simp only [RDa, RDb, RDv, RDk, RDx, RDe, RDd, RDp, RDq, List.getElem?_cons_zero, List.getElem?_cons_succ, List.set_cons_zero, List.set_cons_succ, List.cons.injEq, List.cons_ne_nil, reduceCtorEq, exists_eq_left', exists_eq_left, exists_and_left, and_assoc, exists_const, true_and, and_true, if_true, if_false, false_and, and_false, exists_false, false_or, or_false, true_implies, false_implies, implies_true, forall_eq, forall_eq', Bool.false_eq_true, if_neg, decide_eq_true_eq, Bool.not_eq_true', decide_eq_false_iff_not, Bool.not_true, Bool.not_false, List.length_cons, List.length_nil, sizeLine_eq, Nat.reduceAdd, Nat.reduceLeDiff, Nat.reduceLT, Int.reduceLT, Int.reduceLE, Int.emod_nonneg, ne_eq, Int.reduceEq, not_false_eq_true, not_true_eq_false]
    exact q
  · simp only [RDa, RDb, RDv, RDk, RDx, RDe, RDd, RDp, RDq, List.getElem?_cons_zero, List.getElem?_cons_succ, List.set_cons_zero, List.set_cons_succ, List.cons.injEq, List.cons_ne_nil, reduceCtorEq, exists_eq_left', exists_eq_left, exists_and_left, and_assoc, exists_const, true_and, and_true, if_true, if_false, false_and, and_false, exists_false, false_or, or_false, true_implies, false_implies, implies_true, forall_eq, forall_eq', Bool.false_eq_true, if_neg, decide_eq_true_eq, Bool.not_eq_true', decide_eq_false_iff_not, Bool.not_true, Bool.not_false, List.length_cons, List.length_nil, sizeLine_eq, Nat.reduceAdd, Nat.reduceLeDiff, Nat.reduceLT, Int.reduceLT, Int.reduceLE, Int.emod_nonneg, ne_eq, Int.reduceEq, not_false_eq_true, not_true_eq_false]
    exact q
  · simp only [RDa, RDb, RDv, RDk, RDx, RDe, RDd, RDp, RDq, List.getElem?_cons_zero, List.getElem?_cons_succ, List.set_cons_zero, List.set_cons_succ, List.cons.injEq, List.cons_ne_nil, reduceCtorEq, exists_eq_left', exists_eq_left, exists_and_left, and_assoc, exists_const, true_and, and_true, if_true, if_false, false_and, and_false, exists_false, false_or, or_false, true_implies, false_implies, implies_true, forall_eq, forall_eq', Bool.false_eq_true, if_neg, decide_eq_true_eq, Bool.not_eq_true', decide_eq_false_iff_not, Bool.not_true, Bool.not_false, List.length_cons, List.length_nil, sizeLine_eq, Nat.reduceAdd, Nat.reduceLeDiff, Nat.reduceLT, Int.reduceLT, Int.reduceLE, Int.emod_nonneg, ne_eq, Int.reduceEq, not_false_eq_true, not_true_eq_false]
    unfold amongV at q
    by_cases h1 : lo ≤ n
    · rw [if_pos h1]
      simpa [h1] using q
    · rw [if_neg h1]
      simpa [h1] using q
  · simp only [RDa, RDb, RDv, RDk, RDx, RDe, RDd, RDp, RDq, List.getElem?_cons_zero, List.getElem?_cons_succ, List.set_cons_zero, List.set_cons_succ, List.cons.injEq, List.cons_ne_nil, reduceCtorEq, exists_eq_left', exists_eq_left, exists_and_left, and_assoc, exists_const, true_and, and_true, if_true, if_false, false_and, and_false, exists_false, false_or, or_false, true_implies, false_implies, implies_true, forall_eq, forall_eq', Bool.false_eq_true, if_neg, decide_eq_true_eq, Bool.not_eq_true', decide_eq_false_iff_not, Bool.not_true, Bool.not_false, List.length_cons, List.length_nil, sizeLine_eq, Nat.reduceAdd, Nat.reduceLeDiff, Nat.reduceLT, Int.reduceLT, Int.reduceLE, Int.emod_nonneg, ne_eq, Int.reduceEq, not_false_eq_true, not_true_eq_false]
    exact q
  · simp only [RDa, RDb, RDv, RDk, RDx, RDe, RDd, RDp, RDq, List.getElem?_cons_zero, List.getElem?_cons_succ, List.set_cons_zero, List.set_cons_succ, List.cons.injEq, List.cons_ne_nil, reduceCtorEq, exists_eq_left', exists_eq_left, exists_and_left, and_assoc, exists_const, true_and, and_true, if_true, if_false, false_and, and_false, exists_false, false_or, or_false, true_implies, false_implies, implies_true, forall_eq, forall_eq', Bool.false_eq_true, if_neg, decide_eq_true_eq, Bool.not_eq_true', decide_eq_false_iff_not, Bool.not_true, Bool.not_false, List.length_cons, List.length_nil, sizeLine_eq, Nat.reduceAdd, Nat.reduceLeDiff, Nat.reduceLT, Int.reduceLT, Int.reduceLE, Int.emod_nonneg, ne_eq, Int.reduceEq, not_false_eq_true, not_true_eq_false, ht]
    exact q
  · simp only [RDa, RDb, RDv, RDk, RDx, RDe, RDd, RDp, RDq, List.getElem?_cons_zero, List.getElem?_cons_succ, List.set_cons_zero, List.set_cons_succ, List.cons.injEq, List.cons_ne_nil, reduceCtorEq, exists_eq_left', exists_eq_left, exists_and_left, and_assoc, exists_const, true_and, and_true, if_true, if_false, false_and, and_false, exists_false, false_or, or_false, true_implies, false_implies, implies_true, forall_eq, forall_eq', Bool.false_eq_true, if_neg, decide_eq_true_eq, Bool.not_eq_true', decide_eq_false_iff_not, Bool.not_true, Bool.not_false, List.length_cons, List.length_nil, sizeLine_eq, Nat.reduceAdd, Nat.reduceLeDiff, Nat.reduceLT, Int.reduceLT, Int.reduceLE, Int.emod_nonneg, ne_eq, Int.reduceEq, not_false_eq_true, not_true_eq_false, ht]
    exact q
  · simp only [RDa, RDb, RDv, RDk, RDx, RDe, RDd, RDp, RDq, List.getElem?_cons_zero, List.getElem?_cons_succ, List.set_cons_zero, List.set_cons_succ, List.cons.injEq, List.cons_ne_nil, reduceCtorEq, exists_eq_left', exists_eq_left, exists_and_left, and_assoc, exists_const, true_and, and_true, if_true, if_false, false_and, and_false, exists_false, false_or, or_false, true_implies, false_implies, implies_true, forall_eq, forall_eq', Bool.false_eq_true, if_neg, decide_eq_true_eq, Bool.not_eq_true', decide_eq_false_iff_not, Bool.not_true, Bool.not_false, List.length_cons, List.length_nil, sizeLine_eq, Nat.reduceAdd, Nat.reduceLeDiff, Nat.reduceLT, Int.reduceLT, Int.reduceLE, Int.emod_nonneg, ne_eq, Int.reduceEq, not_false_eq_true, not_true_eq_false, ht]
    exact q
end RP

namespace RP
open PySem PySem.Spec PyProof.Rows L2
/-- the attributes of a Post -/
def flPost (a0 : Int) (a1 : Addr) : List (Str × V) := [(("bound" : Str), V.int a0), (("things" : Str), V.ref a1)]
abbrev PostF (K : PySem.W.Frag) : Prop := Cls K (He.ga K "Post") ∧ NoAttr K (He.ga K "Post") "bound" ∧ NoAttr K (He.ga K "Post") "things"
theorem flPost_inj (a0 : Int) (a1 : Addr) (b0 : Int) (b1 : Addr) : (flPost a0 a1 = flPost b0 b1) = (a0 = b0 ∧ a1 = b1) := by
  simp only [flPost, List.cons.injEq, Prod.mk.injEq, V.int.injEq, V.ref.injEq, true_and, and_true]
theorem PostL : (∀ (a0 : Int) (a1 : Addr), (flPost a0 a1).lookup ("bound" : Str) = some (.int a0)) ∧
    (∀ (a0 : Int) (a1 : Addr), (flPost a0 a1).lookup ("things" : Str) = some (.ref a1)) ∧
    (∀ (a0 : Int) (a1 : Addr), (flPost a0 a1).lookup ("posted" : Str) = none) ∧
    (∀ (a0 : Int) (a1 : Addr), (flPost a0 a1).lookup ("there" : Str) = none) ∧
    (∀ (a0 : Int) (a1 : Addr), (flPost a0 a1).lookup ("taken" : Str) = none) ∧
    (∀ (a0 : Int) (a1 : Addr), (flPost a0 a1).length = 2) ∧
    (∀ (a0 : Int) (a1 : Addr) (b0 : Int) (b1 : Addr), (flPost a0 a1 = flPost b0 b1) = (a0 = b0 ∧ a1 = b1)) ∧
    (∀ (a0 : Int) (a1 : Addr) (y : Int), putF ("bound" : Str) (.int y) (flPost a0 a1) = flPost y a1) ∧
    (∀ (a0 : Int) (a1 : Addr) (y : Addr), putF ("things" : Str) (.ref y) (flPost a0 a1) = flPost a0 y) := by
  refine ⟨?_, ?_, ?_, ?_, ?_, ?_, ?_, ?_, ?_⟩ <;> intros <;> first | rfl | exact flPost_inj .. | kernel_rfl
theorem PostI : (∀  (v : V), putF ("bound" : Str) v ([] : List (Str × V)) = [(("bound" : Str), v)]) ∧
    (∀ (a0 : Int) (a1 : Addr), putF ("things" : Str) (.ref a1) ([(("bound" : Str), V.int a0)] : List (Str × V)) = flPost a0 a1) := by
  refine ⟨?_, ?_⟩ <;> intros <;> first | rfl | kernel_rfl
def mx2 (a b : Int) : Int := if b > a then b else a
theorem inV_rg (k a b : Int) (h : a ≤ b) : inV (.int k) (rgV a b) = decide (a ≤ k ∧ k < b) := by
  unfold inV rgV
  rw [Bool.eq_iff_iff, List.any_eq_true]
  simp only [List.mem_map, List.mem_range, decide_eq_true_eq]
  constructor
  · rintro ⟨y, ⟨i, hi, rfl⟩, e⟩
    have e2 : a + (i : Int) = k := by simpa [eqV] using e
    omega
  · rintro ⟨h1, h2⟩
    exact ⟨_, ⟨(k - a).toNat, by omega, rfl⟩, by simp [eqV]; omega⟩
theorem flat_rg (a b : Int) : (rgV a b).all flatV = true := by
  unfold rgV
  rw [List.all_map, List.all_eq_true]
  intro i _
  rfl
structure PostAt (K : PySem.W.Frag) (H : Hp) (p tx : Addr) (bound : Int) (ts : List V) : Prop where
  ins : ∃ dx, H p = some (.ins (He.ga K "Post") dx (flPost bound tx))
  txt : H tx = some (.lst ts)
theorem PostAt.same {K : PySem.W.Frag} {H H1 : Hp} {p tx : Addr} {bound : Int} {ts : List V} (t : PostAt K H p tx bound ts) (f : Same H H1) : PostAt K H1 p tx bound ts := ⟨t.ins.elim fun dx e => ⟨dx, f _ _ e⟩, f _ _ t.txt⟩
theorem PostAt.fr {K : PySem.W.Frag} {H H1 : Hp} {p tx : Addr} {bound : Int} {ts : List V} {A : List Addr} (t : PostAt K H p tx bound ts) (f : Fr A H H1) (h1 : p ∉ A) (h2 : tx ∉ A) : PostAt K H1 p tx bound ts := ⟨t.ins.elim fun dx e => ⟨dx, f _ _ h1 e⟩, f _ _ h2 t.txt⟩
theorem PostAt.ne {K : PySem.W.Frag} {H : Hp} {p tx : Addr} {bound : Int} {ts : List V} (t : PostAt K H p tx bound ts) : p ≠ tx := t.ins.elim fun _ e => ne_of_obj e t.txt (by simp)
abbrev s_Post_init : Stmt := inClass (top 13) 0
abbrev N_Post_init : List Str := ["self", "bound"]
theorem sc_Post_init : FnScope N_Post_init ["self", "bound"] (defScope s_Post_init) := ⟨rfl, rfl, rfl, by decide +kernel, rfl, by decide +kernel, by decide +kernel⟩
def sp_Post_init (K : PySem.W.Frag) : Sp := fun vs H Q _ => ∃ p dx b, vs = [.ref p, .int b] ∧ H p = some (.ins (He.ga K "Post") dx []) ∧
  ∀ tx H', H tx = none → Fr [p] H H' → PostAt K H' p tx b [] → Q .non H'
theorem ok_Post_init {P : Program} {w : World} {K : PySem.W.Frag} {mg : Str → Option Value} {base : Heap} (F : FnP K ("Post", some "__init__") "__init__" "Post.__init__" s_Post_init) (hm : mg "Post" = some (.ref (He.ga K "Post"))) (hmk : Mk K (He.ga K "Post") (He.ma K (He.ga K "Post") "__init__")) (bl : Blt mg) (hPost : PostF K) : KCal P w K mg base 1 "Post" (He.ga K "Post") (sp_Post_init K) := by
  refine fn_kcal F hm hmk sc_Post_init (fun vs H Q E => by walk_at "len") (fun _ _ _ _ _ _ us hl => match us, hl with | [_, _], _ => rfl) (fun f cdv A outer s H vs Q E hr h => ?_)
  have hu := hu_of hr
  obtain ⟨p, dx, b, rfl, hp, q⟩ := h
  refine ⟨_, (pss_cons (ps_fld (pv 0) (pv 1) rfl)
  (pss_one (ps_fld (pv 0) (pe_lst pa_nil) rfl))), ?_⟩
  walk_at "st0"
  simp only [RDa, RDb, RDv, RDk, RDx, RDe, RDd, RDp, RDq, List.getElem?_cons_zero, List.getElem?_cons_succ, List.set_cons_zero, List.set_cons_succ, List.cons.injEq, List.cons_ne_nil, reduceCtorEq, exists_eq_left', exists_eq_left, exists_and_left, and_assoc, exists_const, true_and, and_true, if_true, if_false, false_and, and_false, exists_false, false_or, or_false, true_implies, false_implies, implies_true, forall_eq, forall_eq', Bool.false_eq_true, if_neg, decide_eq_true_eq, Bool.not_eq_true', decide_eq_false_iff_not, Bool.not_true, Bool.not_false, List.length_cons, List.length_nil, sizeLine_eq, Nat.reduceAdd, Nat.reduceLeDiff, Nat.reduceLT, Int.reduceLT, Int.reduceLE, Int.emod_nonneg, ne_eq, Int.reduceEq, not_false_eq_true, not_true_eq_false, hPost, PostI, hp, upd_same, upd_upd]
  intro tx n1
  have e1 : tx ≠ p := fun e => by rw [e, upd_same] at n1; cases n1
  rw [upd_ne e1] at n1
  refine ⟨_, dx, _, (upd_ne (Ne.symm e1)).trans upd_same, hPost.1, hPost.2.2, by simp, ?_⟩
  simp only [RDa, RDb, RDv, RDk, RDx, RDe, RDd, RDp, RDq, List.getElem?_cons_zero, List.getElem?_cons_succ, List.set_cons_zero, List.set_cons_succ, List.cons.injEq, List.cons_ne_nil, reduceCtorEq, exists_eq_left', exists_eq_left, exists_and_left, and_assoc, exists_const, true_and, and_true, if_true, if_false, false_and, and_false, exists_false, false_or, or_false, true_implies, false_implies, implies_true, forall_eq, forall_eq', Bool.false_eq_true, if_neg, decide_eq_true_eq, Bool.not_eq_true', decide_eq_false_iff_not, Bool.not_true, Bool.not_false, List.length_cons, List.length_nil, sizeLine_eq, Nat.reduceAdd, Nat.reduceLeDiff, Nat.reduceLT, Int.reduceLT, Int.reduceLE, Int.emod_nonneg, ne_eq, Int.reduceEq, not_false_eq_true, not_true_eq_false, PostI]
  refine q tx _ n1 ?_ ⟨⟨dx, upd_same⟩, ?_⟩
  · exact (((Fr.refl _ _).upd (by simp)).new (by rw [upd_ne e1]; exact n1)).upd (by simp)
  · rw [upd_ne e1, upd_same]
theorem mk_Post {K : PySem.W.Frag} {H : Hp} {b : Int} {Q : VK} {E : XK} (q : ∀ p tx H', H p = none → H tx = none → Same H H' → PostAt K H' p tx b [] → Q (.ref p) H') (x dx : Addr) (h1 : H x = none) (h2 : H dx = none) (h3 : ¬ dx = x) :
    sp_Post_init K [.ref x, .int b] (upd (upd H dx (.own x)) x (.ins (He.ga K "Post") dx [])) (fun v H2 => v = .non ∧ Q (.ref x) H2) E := by
  refine ⟨x, dx, b, rfl, upd_same, fun tx H' n1 f t => ⟨rfl, ?_⟩⟩
  have fresh : ∀ c, upd (upd H dx (.own x)) x (.ins (He.ga K "Post") dx []) c = none → H c = none := fun c n => by
    have e1 : c ≠ x := fun e => by rw [e, upd_same] at n; cases n
    rw [upd_ne e1] at n
    have e2 : c ≠ dx := fun e => by rw [e, upd_same] at n; cases n
    rw [upd_ne e2] at n
    exact n
  refine q x tx H' h1 (fresh _ n1) (fun c o e => ?_) t
  have e1 : c ≠ x := ne_of_none e h1
  have e2 : c ≠ dx := ne_of_none e h2
  exact f c o (by simpa using e1) (by rw [upd_ne e1, upd_ne e2]; exact e)
theorem made_free {H : Hp} {dx x c C : Addr} (n : upd (upd H dx (.own x)) x (.ins C dx []) c = none) : H c = none := by
  have e1 : c ≠ x := fun e => by rw [e, upd_same] at n; cases n
  rw [upd_ne e1] at n
  have e2 : c ≠ dx := fun e => by rw [e, upd_same] at n; cases n
  rw [upd_ne e2] at n
  exact n
theorem made_same {H H' : Hp} {dx x C : Addr} (h1 : H x = none) (h2 : H dx = none) (f : Fr [x] (upd (upd H dx (.own x)) x (.ins C dx [])) H') : Same H H' := fun c o e => by
  have e1 : c ≠ x := ne_of_none e h1
  have e2 : c ≠ dx := ne_of_none e h2
  exact f c o (by simpa using e1) (by rw [upd_ne e1, upd_ne e2]; exact e)
abbrev s_Post_posted : Stmt := inClass (top 13) 1
abbrev N_Post_posted : List Str := ["self", "thing"]
theorem sc_Post_posted : FnScope N_Post_posted ["self", "thing"] (defScope s_Post_posted) := ⟨rfl, rfl, rfl, by decide +kernel, rfl, by decide +kernel, by decide +kernel⟩
def sp_Post_posted (K : PySem.W.Frag) : Sp := fun vs H Q _ => ∃ p tx b ts x, vs = [.ref p, x] ∧ PostAt K H p tx b ts ∧ ts.length < 100000 ∧
  ∀ H', Fr [tx] H H' → PostAt K H' p tx b (ts ++ [x]) → Q (.int ts.length) H'
theorem ok_Post_posted {P : Program} {w : World} {K : PySem.W.Frag} {mg : Str → Option Value} {base : Heap} (F : FnP K ("Post", some "posted") "posted" "Post.posted" s_Post_posted) (hc : Cls K (He.ga K "Post")) (hm : Meth K (He.ga K "Post") "posted" (He.ma K (He.ga K "Post") "posted")) (bl : Blt mg) (hPost : PostF K) : MCal P w K mg base 1 (He.ga K "Post") "posted" (sp_Post_posted K) := by
  refine fn_mcal F hc hm sc_Post_posted (fun vs H Q E => by walk_at "len") (fun _ _ _ _ _ _ us hl => match us, hl with | [_, _], _ => rfl) (fun f cdv A outer s H vs Q E hr h => ?_)
  have hu := hu_of hr
  obtain ⟨p, tx, b, ts, x, rfl, t, hl, q⟩ := h
  obtain ⟨dx, hp⟩ := t.ins
  have d1 := t.ne
  refine ⟨_, (pss_cons (ps_expr (pe_app (pe_fld (pv 0) rfl) (pv 1)))
  (pss_one (ps_ret (pe_op op_sub (pe_callB call_lenC (by rfl) (bl.len) (by decide +kernel) (pa_cons (pe_fld (pv 0) rfl) pa_nil)) pe_int)))), ?_⟩
  walk_at "st0"
  simp only [RDa, RDb, RDv, RDk, RDx, RDe, RDd, RDp, RDq, List.getElem?_cons_zero, List.getElem?_cons_succ, List.set_cons_zero, List.set_cons_succ, List.cons.injEq, List.cons_ne_nil, reduceCtorEq, exists_eq_left', exists_eq_left, exists_and_left, and_assoc, exists_const, true_and, and_true, if_true, if_false, false_and, and_false, exists_false, false_or, or_false, true_implies, false_implies, implies_true, forall_eq, forall_eq', Bool.false_eq_true, if_neg, decide_eq_true_eq, Bool.not_eq_true', decide_eq_false_iff_not, Bool.not_true, Bool.not_false, List.length_cons, List.length_nil, sizeLine_eq, Nat.reduceAdd, Nat.reduceLeDiff, Nat.reduceLT, Int.reduceLT, Int.reduceLE, Int.emod_nonneg, ne_eq, Int.reduceEq, not_false_eq_true, not_true_eq_false, hPost, PostL, hp, t.txt, upd_same, upd_ne d1]
  refine ⟨by omega, _, lenO_lst upd_same, ?_⟩
  rw [List.length_append, List.length_singleton, show (((ts.length + 1 : Nat) : Int) - 1) = (ts.length : Int) by omega]
  exact q _ ((Fr.refl _ _).upd (by simp)) ⟨⟨dx, by rw [upd_ne d1]; exact hp⟩, upd_same⟩
abbrev s_Post_there : Stmt := inClass (top 13) 2
abbrev N_Post_there : List Str := ["self"]
theorem sc_Post_there : FnScope N_Post_there ["self"] (defScope s_Post_there) := ⟨rfl, rfl, rfl, by decide +kernel, rfl, by decide +kernel, by decide +kernel⟩
def sp_Post_there (K : PySem.W.Frag) : Sp := fun vs H Q _ => ∃ p tx b ts, vs = [.ref p] ∧ PostAt K H p tx b ts ∧ 0 ≤ b ∧ b < 100000 ∧ ts.length < 100000 ∧
  ∀ l H', H l = none → Same H H' → H' l = some (.lst (rgV (mx2 0 (ts.length - 1 - b)) ts.length)) → Q (.ref l) H'
theorem ok_Post_there {P : Program} {w : World} {K : PySem.W.Frag} {mg : Str → Option Value} {base : Heap} (F : FnP K ("Post", some "there") "there" "Post.there" s_Post_there) (hc : Cls K (He.ga K "Post")) (hm : Meth K (He.ga K "Post") "there" (He.ma K (He.ga K "Post") "there")) (bl : Blt mg) (hPost : PostF K) : MCal P w K mg base 1 (He.ga K "Post") "there" (sp_Post_there K) := by
  refine fn_mcal F hc hm sc_Post_there (fun vs H Q E => by walk_at "len") (fun _ _ _ _ _ _ us hl => match us, hl with | [_], _ => rfl) (fun f cdv A outer s H vs Q E hr h => ?_)
  have hu := hu_of hr
  obtain ⟨p, tx, b, ts, rfl, t, hb0, hb1, hl, q⟩ := h
  obtain ⟨dx, hp⟩ := t.ins
  refine ⟨_, (pss_one (ps_ret (pe_listRg rfl rfl (bl.list) (prg_2 rfl (bl.range) (pe_callB (call_max2 rfl) (by rfl) (bl.max) (by decide +kernel) (pa_cons pe_int (pa_cons (pe_op op_sub (pe_op op_sub (pe_callB call_lenC (by rfl) (bl.len) (by decide +kernel) (pa_cons (pe_fld (pv 0) rfl) pa_nil)) pe_int) (pe_fld (pv 0) rfl)) pa_nil))) (pe_callB call_lenC (by rfl) (bl.len) (by decide +kernel) (pa_cons (pe_fld (pv 0) rfl) pa_nil)))))), ?_⟩
  walk_at "st0"
  simp only [RDa, RDb, RDv, RDk, RDx, RDe, RDd, RDp, RDq, List.getElem?_cons_zero, List.getElem?_cons_succ, List.set_cons_zero, List.set_cons_succ, List.cons.injEq, List.cons_ne_nil, reduceCtorEq, exists_eq_left', exists_eq_left, exists_and_left, and_assoc, exists_const, true_and, and_true, if_true, if_false, false_and, and_false, exists_false, false_or, or_false, true_implies, false_implies, implies_true, forall_eq, forall_eq', Bool.false_eq_true, if_neg, decide_eq_true_eq, Bool.not_eq_true', decide_eq_false_iff_not, Bool.not_true, Bool.not_false, List.length_cons, List.length_nil, sizeLine_eq, Nat.reduceAdd, Nat.reduceLeDiff, Nat.reduceLT, Int.reduceLT, Int.reduceLE, Int.emod_nonneg, ne_eq, Int.reduceEq, not_false_eq_true, not_true_eq_false, hPost, PostL, hp, t.txt, lenO_lst t.txt]
  have e : ∀ j : Int, (if j > 0 then j else 0) = mx2 0 j := fun j => rfl
  rw [e]
  have h0 : 0 ≤ mx2 0 ((ts.length : Int) - 1 - b) ∧ mx2 0 ((ts.length : Int) - 1 - b) ≤ (ts.length : Int) := by unfold mx2; split <;> omega
  exact ⟨.of_le h0.1 (by omega) (by omega) (by omega), fun l nl => q l _ nl (same_new nl) upd_same⟩
abbrev s_Post_taken : Stmt := inClass (top 13) 3
abbrev N_Post_taken : List Str := ["self", "number"]
theorem sc_Post_taken : FnScope N_Post_taken ["self", "number"] (defScope s_Post_taken) := ⟨rfl, rfl, rfl, by decide +kernel, rfl, by decide +kernel, by decide +kernel⟩
def sp_Post_taken (K : PySem.W.Frag) : Sp := fun vs H Q E => ∃ p tx b ts x, vs = [.ref p, x] ∧ PostAt K H p tx b ts ∧ 0 ≤ b ∧ b < 100000 ∧ ts.length < 100000 ∧ Kn H x ∧
  (∀ k v H', x = .int k → mx2 0 (ts.length - 1 - b) ≤ k → k < ts.length → atI ts k = some v → Same H H' → Q v H') ∧
  (amongV x (mx2 0 (ts.length - 1 - b)) (ts.length - 1) = false → ∀ H', Same H H' → E (.ref (He.ga K "NoLetter")) none H')
theorem ok_Post_taken {P : Program} {w : World} {K : PySem.W.Frag} {mg : Str → Option Value} {base : Heap} (F : FnP K ("Post", some "taken") "taken" "Post.taken" s_Post_taken) (hc : Cls K (He.ga K "Post")) (hm : Meth K (He.ga K "Post") "taken" (He.ma K (He.ga K "Post") "taken")) (bl : Blt mg) (hPost : PostF K) (m_Post_there : MCal P w K mg base 1 (He.ga K "Post") "there" (sp_Post_there K)) (c_is_among : Cal P w K mg base 1 "is_among" (sp_is_among K)) (e_NoLetter : ErrC K mg "NoLetter") : MCal P w K mg base 2 (He.ga K "Post") "taken" (sp_Post_taken K) := by
  refine fn_mcal F hc hm sc_Post_taken (fun vs H Q E => by walk_at "len") (fun _ _ _ _ _ _ us hl => match us, hl with | [_, _], _ => rfl) (fun f cdv A outer s H vs Q E hr h => ?_)
  have hu := hu_of hr
  obtain ⟨p, tx, b, ts, x, rfl, t, hb0, hb1, hl, hk, q1, q2⟩ := h
  obtain ⟨dx, hp⟩ := t.ins
  refine ⟨_, (pss_cons (ps_if (PW.pt (pw_or (pt_not (pt_val (pe_fn c_is_among (hr.mono (by decide)) (L2N.takes_of rfl rfl rfl rfl) (pa_cons (pv 1) (pa_cons pe_int (pa_cons (pe_op op_sub (pe_callB call_lenC (by rfl) (bl.len) (by decide +kernel) (pa_cons (pe_fld (pv 0) rfl) pa_nil)) pe_int) pa_nil)))))) (pw_or1 (pt_cmpR op_notInC (pv 1) (pe_mth0 (pv 0) m_Post_there (hr.mono (by decide)) (L2N.takes_of rfl rfl rfl rfl)) (by rfl)))))
  (pss_one (L2N.ps_raise rfl (L2N.takes_of rfl rfl rfl rfl) (L2N.pmk_own PySem.F.excBase_ValueError e_NoLetter.ex e_NoLetter.g e_NoLetter.k (raises_own e_NoLetter.s e_NoLetter.t) rfl)))
  pss_nil)
  (pss_one (ps_ret (pe_ix ix_C (pe_fld (pv 0) rfl) (pv 1) (fun _ _ => rfl))))), ?_⟩
  walk_at "st0"
  simp only [RDa, RDb, RDv, RDk, RDx, RDe, RDd, RDp, RDq, List.getElem?_cons_zero, List.getElem?_cons_succ, List.set_cons_zero, List.set_cons_succ, List.cons.injEq, List.cons_ne_nil, reduceCtorEq, exists_eq_left', exists_eq_left, exists_and_left, and_assoc, exists_const, true_and, and_true, if_true, if_false, false_and, and_false, exists_false, false_or, or_false, true_implies, false_implies, implies_true, forall_eq, forall_eq', Bool.false_eq_true, if_neg, decide_eq_true_eq, Bool.not_eq_true', decide_eq_false_iff_not, Bool.not_true, Bool.not_false, List.length_cons, List.length_nil, sizeLine_eq, Nat.reduceAdd, Nat.reduceLeDiff, Nat.reduceLT, Int.reduceLT, Int.reduceLE, Int.emod_nonneg, ne_eq, Int.reduceEq, not_false_eq_true, not_true_eq_false, hPost, PostL, hp, t.txt, lenO_lst t.txt, sp_is_among, hk, sp_Post_there]
  have hlo : 0 ≤ mx2 0 ((ts.length : Int) - 1 - b) ∧ mx2 0 ((ts.length : Int) - 1 - b) ≤ (ts.length : Int) := by unfold mx2; split <;> omega
  cases ha : amongV x 0 ((ts.length : Int) - 1) with
  | false =>
    rw [if_pos rfl]
    refine q2 ?_ H (Same.refl _)
    cases x <;> simp only [amongV] at ha ⊢
    rename_i k
    simp only [Bool.and_eq_false_iff, decide_eq_false_iff_not] at ha ⊢
    omega
  | true =>
    rw [if_neg (by decide)]
    obtain ⟨k, rfl⟩ : ∃ k, x = .int k := by
      cases x <;> simp only [amongV, Bool.false_eq_true, reduceCtorEq] at ha
      exact ⟨_, rfl⟩
    have hk2 : 0 ≤ k ∧ k ≤ (ts.length : Int) - 1 := by simpa [amongV] using ha
    refine ⟨tx, b, ts, t, hb0, hb1, hl, fun l H' nl s' a' => ⟨_, seqO_lst a', rfl, flat_rg _ _, ?_⟩⟩
    rw [inV_rg _ _ _ hlo.2]
    by_cases c : mx2 0 ((ts.length : Int) - 1 - b) ≤ k ∧ k < (ts.length : Int)
    · rw [if_neg (by rw [decide_eq_true c]; exact Bool.true_eq_false.mp)]
      have t' := t.same s'
      have e3 : k.toNat < ts.length := by omega
      have ea : atI ts k = some ts[k.toNat] := by
        have := atI_nat (List.getElem?_eq_getElem e3)
        rwa [show ((k.toNat : Nat) : Int) = k by omega] at this
      refine ⟨_, _, _, s' _ _ hp, hPost.1, hPost.2.2, _, rfl, tx, rfl, ts, k, rfl, seqO_lst t'.txt, _, ea, q1 k _ H' rfl c.1 c.2 ea s'⟩
    · rw [if_pos (decide_eq_false c)]
      refine q2 ?_ H' s'
      simp only [amongV, Bool.and_eq_false_iff, decide_eq_false_iff_not]
      omega
end RP

namespace RP
open PySem PySem.Spec PyProof.Rows L2
def cell (ns : List Int) (k : Int) : Int := ns.getD k.toNat 0
abbrev s__law_at : Stmt := top 15
abbrev N__law_at : List Str := ["_law_script", "_law_k"]
theorem sc__law_at : FnScope N__law_at ["_law_script", "_law_k"] (defScope s__law_at) := ⟨rfl, rfl, rfl, by decide +kernel, rfl, by decide +kernel, by decide +kernel⟩
def sp__law_at (K : PySem.W.Frag) (a : Addr) (ns : List Int) : Sp := fun vs H Q _ => ∃ k, vs = [.ref a, .int k] ∧ SqL K H a (ns.map V.int) ∧ 0 ≤ k ∧ Q (.int (cell ns k)) H
theorem ok__law_at {P : Program} {w : World} {K : PySem.W.Frag} {mg : Str → Option Value} {base : Heap} (F : FnP K ("_law_at", none) "_law_at" "_law_at" s__law_at) (hm : mg "_law_at" = some (.ref (He.ga K "_law_at"))) (bl : Blt mg) (a : Addr) (ns : List Int) : Cal P w K mg base 1 "_law_at" (sp__law_at K a ns) := by
  refine fn_cal F hm sc__law_at (fun vs H Q E => by walk_at "len") (fun _ _ _ _ _ _ us hl => match us, hl with | [_, _], _ => rfl) (fun f cdv A outer s H vs Q E hr h => ?_)
  have hu := hu_of hr
  obtain ⟨k, rfl, hS, hk, q⟩ := h
  refine ⟨_, (pss_cons (ps_if (pt_cmpR op_lt (pv 1) (pe_callB call_len_seq (by rfl) (bl.len) (by decide +kernel) (pa_cons (pv 0) pa_nil)) (nomark _))
  (pss_one (ps_ret (pe_ix ix_list (pv 0) (pv 1) (fun _ _ => rfl))))
  pss_nil)
  (pss_one (ps_ret pe_int))), ?_⟩
  walk_at "st0"
  simp only [RDa, RDb, RDv, RDk, RDx, RDe, RDd, RDp, RDq, List.getElem?_cons_zero, List.getElem?_cons_succ, List.set_cons_zero, List.set_cons_succ, List.cons.injEq, List.cons_ne_nil, reduceCtorEq, exists_eq_left', exists_eq_left, exists_and_left, and_assoc, exists_const, true_and, and_true, if_true, if_false, false_and, and_false, exists_false, false_or, or_false, true_implies, false_implies, implies_true, forall_eq, forall_eq', Bool.false_eq_true, if_neg, decide_eq_true_eq, Bool.not_eq_true', decide_eq_false_iff_not, Bool.not_true, Bool.not_false, List.length_cons, List.length_nil, sizeLine_eq, Nat.reduceAdd, Nat.reduceLeDiff, Nat.reduceLT, Int.reduceLT, Int.reduceLE, Int.emod_nonneg, ne_eq, Int.reduceEq, not_false_eq_true, not_true_eq_false, hS]
  refine ⟨_, .inl hS, ?_⟩
  rw [List.length_map]
  by_cases e : k < (ns.length : Int)
  · rw [if_pos e]
    refine ⟨_, _, k, V.int (cell ns k), rfl, rfl, hS, ?_, q⟩
    have e2 : k = ((k.toNat : Nat) : Int) := by omega
    have e3 : k.toNat < ns.length := by omega
    rw [e2]
    refine atI_nat ?_
    unfold cell
    rw [List.getElem?_map, List.getElem?_eq_getElem e3, List.getD_eq_getElem?_getD, Int.toNat_natCast, List.getElem?_eq_getElem e3]
    rfl
  · rw [if_neg e]
    have e3 : ns.length ≤ k.toNat := by omega
    have e4 : cell ns k = 0 := by
      unfold cell
      rw [List.getD_eq_getElem?_getD, List.getElem?_eq_none e3]
      rfl
    rw [e4] at q
    exact q
def mixed (c k : Int) : Int := (c * 48271 + 7919 * (k + 1) * (k + 3)) % 2147483647
abbrev s__law_mixed : Stmt := top 16
abbrev N__law_mixed : List Str := ["_law_cell", "_law_k"]
theorem sc__law_mixed : FnScope N__law_mixed ["_law_cell", "_law_k"] (defScope s__law_mixed) := ⟨rfl, rfl, rfl, by decide +kernel, rfl, by decide +kernel, by decide +kernel⟩
def sp__law_mixed (K : PySem.W.Frag) : Sp := fun vs H Q _ => ∃ c k : Int, vs = [.int c, .int k] ∧ 0 ≤ k ∧ k < 100 ∧ Q (.int (mixed c k)) H
theorem ok__law_mixed {P : Program} {w : World} {K : PySem.W.Frag} {mg : Str → Option Value} {base : Heap} (F : FnP K ("_law_mixed", none) "_law_mixed" "_law_mixed" s__law_mixed) (hm : mg "_law_mixed" = some (.ref (He.ga K "_law_mixed"))) (bl : Blt mg) : Cal P w K mg base 1 "_law_mixed" (sp__law_mixed K) := by
  refine fn_cal F hm sc__law_mixed (fun vs H Q E => by walk_at "len") (fun _ _ _ _ _ _ us hl => match us, hl with | [_, _], _ => rfl) (fun f cdv A outer s H vs Q E hr h => ?_)
  have hu := hu_of hr
  obtain ⟨c, k, rfl, h0, h1, q⟩ := h
  refine ⟨_, (pss_one (ps_ret (pe_op op_mod (pe_op op_add (pe_op op_mul (pv 0) pe_int) (pe_op op_mul (pe_op op_mul pe_int (pe_op op_add (pv 1) pe_int)) (pe_op op_add (pv 1) pe_int))) pe_int))), ?_⟩
  walk_at "st0"
  simp only [RDa, RDb, RDv, RDk, RDx, RDe, RDd, RDp, RDq, List.getElem?_cons_zero, List.getElem?_cons_succ, List.set_cons_zero, List.set_cons_succ, List.cons.injEq, List.cons_ne_nil, reduceCtorEq, exists_eq_left', exists_eq_left, exists_and_left, and_assoc, exists_const, true_and, and_true, if_true, if_false, false_and, and_false, exists_false, false_or, or_false, true_implies, false_implies, implies_true, forall_eq, forall_eq', Bool.false_eq_true, if_neg, decide_eq_true_eq, Bool.not_eq_true', decide_eq_false_iff_not, Bool.not_true, Bool.not_false, List.length_cons, List.length_nil, sizeLine_eq, Nat.reduceAdd, Nat.reduceLeDiff, Nat.reduceLT, Int.reduceLT, Int.reduceLE, Int.emod_nonneg, ne_eq, Int.reduceEq, not_false_eq_true, not_true_eq_false]
  refine ⟨.inr ⟨by decide, by decide⟩, .inl ⟨by decide, by decide⟩, .inr ⟨by omega, by omega⟩, q⟩
theorem mixed_pos (c k : Int) : 0 ≤ mixed c k := Int.emod_nonneg _ (by decide)
abbrev s__law_whole : Stmt := top 17
abbrev N__law_whole : List Str := ["_law_thing_here"]
theorem sc__law_whole : FnScope N__law_whole ["_law_thing_here"] (defScope s__law_whole) := ⟨rfl, rfl, rfl, by decide +kernel, rfl, by decide +kernel, by decide +kernel⟩
def wholeV (x : V) : Bool := match x with
  | .int _ => true
  | _ => false
def sp__law_whole (K : PySem.W.Frag) : Sp := fun vs H Q _ => ∃ x, vs = [x] ∧ Kn H x ∧ Q (.bl (wholeV x)) H
theorem ok__law_whole {P : Program} {w : World} {K : PySem.W.Frag} {mg : Str → Option Value} {base : Heap} (F : FnP K ("_law_whole", none) "_law_whole" "_law_whole" s__law_whole) (hm : mg "_law_whole" = some (.ref (He.ga K "_law_whole"))) (bl : Blt mg) : Cal P w K mg base 1 "_law_whole" (sp__law_whole K) := by
  refine fn_cal F hm sc__law_whole (fun vs H Q E => by walk_at "len") (fun _ _ _ _ _ _ us hl => match us, hl with | [_], _ => rfl) (fun f cdv A outer s H vs Q E hr h => ?_)
  have hu := hu_of hr
  obtain ⟨x, rfl, hk, q⟩ := h
  refine ⟨_, (pss_one (ps_ret (pe_and (pe_callB call_isC (by rfl) (bl.isi) (by decide +kernel) (pa_cons (pv 0) (pa_cons (pe_bltn (v := .ty "int") (u := .type "int") rfl (bl.int) (by decide +kernel) rfl) pa_nil))) (pe_one (pe_not (pe_callB call_isC (by rfl) (bl.isi) (by decide +kernel) (pa_cons (pv 0) (pa_cons (pe_bltn (v := .ty "bool") (u := .type "bool") rfl (bl.bool) (by decide +kernel) rfl) pa_nil)))))))), ?_⟩
  walk_at "st0"
  simp only [RDa, RDb, RDv, RDk, RDx, RDe, RDd, RDp, RDq, List.getElem?_cons_zero, List.getElem?_cons_succ, List.set_cons_zero, List.set_cons_succ, List.cons.injEq, List.cons_ne_nil, reduceCtorEq, exists_eq_left', exists_eq_left, exists_and_left, and_assoc, exists_const, true_and, and_true, if_true, if_false, false_and, and_false, exists_false, false_or, or_false, true_implies, false_implies, implies_true, forall_eq, forall_eq', Bool.false_eq_true, if_neg, decide_eq_true_eq, Bool.not_eq_true', decide_eq_false_iff_not, Bool.not_true, Bool.not_false, List.length_cons, List.length_nil, sizeLine_eq, Nat.reduceAdd, Nat.reduceLeDiff, Nat.reduceLT, Int.reduceLT, Int.reduceLE, Int.emod_nonneg, ne_eq, Int.reduceEq, not_false_eq_true, not_true_eq_false]
  rcases hk.cases with rfl | ⟨b, rfl⟩ | ⟨n, rfl⟩ | ⟨z, rfl⟩ | ⟨a, t, rfl, ht, rfl | rfl | rfl⟩
  · simp only [RDv, RDk, exists_eq_left', if_true, Bool.false_eq_true, if_false]; exact q
  · simp only [RDv, RDk, exists_eq_left', if_true, Bool.false_eq_true, if_false, Bool.not_true]; exact q
  · simp only [RDv, RDk, exists_eq_left', if_true, Bool.false_eq_true, if_false, Bool.not_false]; exact q
  · simp only [RDv, RDk, exists_eq_left', if_true, Bool.false_eq_true, if_false]; exact q
  · simp only [ht, RDv, RDk, exists_eq_left', if_true, Bool.false_eq_true, if_false]; exact q
  · simp only [ht, RDv, RDk, exists_eq_left', if_true, Bool.false_eq_true, if_false]; exact q
  · simp only [ht, RDv, RDk, exists_eq_left', if_true, Bool.false_eq_true, if_false]; exact q
end RP

namespace RP
open PySem PySem.Spec PyProof.Rows L2 L2H
/-- what isinstance says of an error of the class D -/
abbrev KitF (K : PySem.W.Frag) (D : Str) (l : List (Str × Bool)) : Prop := ∀ q ∈ l, PySem.W.kitOne K (.ref (He.ga K D)) (.ref (He.ga K q.1)) = some q.2
abbrev errNames : List Str := ["BadBounds", "BadRing", "BadTexts", "BadStep", "NotNow", "NoLetter", "Safe", "NoLine"]
abbrev s__law_word : Stmt := top 18
abbrev N__law_word : List Str := ["_law_error", "_law_word_here", "_law_is_other"]
theorem sc__law_word : FnScope N__law_word ["_law_error"] (defScope s__law_word) := ⟨rfl, rfl, rfl, by decide +kernel, rfl, by decide +kernel, by decide +kernel⟩
def sp__law_word (K : PySem.W.Frag) (a : Addr) (c : Value) (d : Option Addr) : Sp := fun vs H Q _ => vs = [.ref a] ∧ c = .ref (He.ga K "NoLetter") ∧ d = none ∧ ∀ H', Same H H' → Q (.str "letter") H'
theorem ok__law_word {P : Program} {w : World} {K : PySem.W.Frag} {mg : Str → Option Value} {base : Heap} (F : FnP K ("_law_word", none) "_law_word" "_law_word" s__law_word) (hm : mg "_law_word" = some (.ref (He.ga K "_law_word"))) (bl : Blt mg) (e_BadBounds : ErrC K mg "BadBounds") (e_BadRing : ErrC K mg "BadRing") (e_BadStep : ErrC K mg "BadStep") (e_BadTexts : ErrC K mg "BadTexts") (e_NoLetter : ErrC K mg "NoLetter") (e_NoLine : ErrC K mg "NoLine") (e_NotNow : ErrC K mg "NotNow") (e_Safe : ErrC K mg "Safe") (hE : ExcC K (He.ga K "NoLetter")) (hkf : KitF K "NoLetter" (errNames.map fun x => (x, decide (x = "NoLetter")))) (hkv : PySem.W.kitOne K (.ref (He.ga K "NoLetter")) (.type "ValueError") = some true) : CalE P w K mg base 1 "_law_word" (sp__law_word K) := by
  refine fn_calE F hm sc__law_word (fun _ _ _ vs H Q E => by walk_at "len") (fun _ _ _ _ _ _ us hl => match us, hl with | [_], _ => rfl) (fun f cdv A outer s H vs Q E p c d hot hz hr h => ?_)
  obtain ⟨rfl, rfl, rfl, q⟩ := h
  have hfl : ∃ vs, p.2.data = .fields vs := hot.2.elim fun vs e => ⟨vs, e.1⟩
  have k1 := hkf ("BadBounds", false) (by decide)
  have k2 := hkf ("BadRing", false) (by decide)
  have k3 := hkf ("BadTexts", false) (by decide)
  have k4 := hkf ("BadStep", false) (by decide)
  have k5 := hkf ("NoLetter", true) (by decide)
  have k6 := hkf ("NotNow", false) (by decide)
  have k7 := hkf ("Safe", false) (by decide)
  have k8 := hkf ("NoLine", false) (by decide)
  refine ⟨_, (pss_cons (ps_set (i := 1) sc__law_word.nd rfl (Or.inl rfl) (pe_op op_mul_str pe_str (pe_callTy call_int1 (by rfl) (bl.int) (by decide +kernel) (pa_cons (pe_callB (isE hE (a := p.1) (oe := p.2) List.mem_cons_self hz rfl rfl hfl) (by rfl) (bl.isi) (by decide +kernel) (pa_cons (pv 0) (pa_cons (pe_glob (v := .ref (He.ga K "NoLetter")) rfl e_NoLetter.g rfl) pa_nil))) pa_nil))))
  (pss_cons (L2H.ps_forH (passes_of rfl) ⟨p, hot, List.mem_cons_self⟩ (pi_listH (pe_lst (pa_cons (pe_callB (isE hE (a := p.1) (oe := p.2) List.mem_cons_self hz rfl rfl hfl) (by rfl) (bl.isi) (by decide +kernel) (pa_cons (pv 0) (pa_cons (pe_glob (v := .ref (He.ga K "BadBounds")) rfl e_BadBounds.g rfl) pa_nil))) (pa_cons (pe_callB (isE hE (a := p.1) (oe := p.2) List.mem_cons_self hz rfl rfl hfl) (by rfl) (bl.isi) (by decide +kernel) (pa_cons (pv 0) (pa_cons (pe_glob (v := .ref (He.ga K "BadRing")) rfl e_BadRing.g rfl) pa_nil))) (pa_cons (pe_callB (isE hE (a := p.1) (oe := p.2) List.mem_cons_self hz rfl rfl hfl) (by rfl) (bl.isi) (by decide +kernel) (pa_cons (pv 0) (pa_cons (pe_glob (v := .ref (He.ga K "BadTexts")) rfl e_BadTexts.g rfl) pa_nil))) pa_nil))))) (pg_name (i := 2) sc__law_word.nd rfl (Or.inl rfl))
  (pss_one (ps_set (i := 1) sc__law_word.nd rfl (Or.inl rfl) (pe_op op_add_str (pv 1) (pe_op op_mul_str pe_str (pe_callTy call_int1 (by rfl) (bl.int) (by decide +kernel) (pa_cons (pv 2) pa_nil)))))))
  (pss_cons (L2H.ps_forH (passes_of rfl) ⟨p, hot, List.mem_cons_self⟩ (pi_listH (pe_lst (pa_cons (pe_callB (isE hE (a := p.1) (oe := p.2) List.mem_cons_self hz rfl rfl hfl) (by rfl) (bl.isi) (by decide +kernel) (pa_cons (pv 0) (pa_cons (pe_glob (v := .ref (He.ga K "BadStep")) rfl e_BadStep.g rfl) pa_nil))) (pa_cons (pe_callB (isE hE (a := p.1) (oe := p.2) List.mem_cons_self hz rfl rfl hfl) (by rfl) (bl.isi) (by decide +kernel) (pa_cons (pv 0) (pa_cons (pe_glob (v := .ref (He.ga K "NotNow")) rfl e_NotNow.g rfl) pa_nil))) (pa_cons (pe_callB (isE hE (a := p.1) (oe := p.2) List.mem_cons_self hz rfl rfl hfl) (by rfl) (bl.isi) (by decide +kernel) (pa_cons (pv 0) (pa_cons (pe_glob (v := .ref (He.ga K "Safe")) rfl e_Safe.g rfl) pa_nil))) pa_nil))))) (pg_name (i := 2) sc__law_word.nd rfl (Or.inl rfl))
  (pss_one (ps_set (i := 1) sc__law_word.nd rfl (Or.inl rfl) (pe_op op_add_str (pv 1) (pe_op op_mul_str pe_str (pe_callTy call_int1 (by rfl) (bl.int) (by decide +kernel) (pa_cons (pv 2) pa_nil)))))))
  (pss_one (ps_ret (pe_op op_mul_str (pe_op op_add_str (pv 1) (pe_op op_mul_str pe_str (pe_callTy call_int1 (by rfl) (bl.int) (by decide +kernel) (pa_cons (pe_callB (isE hE (a := p.1) (oe := p.2) List.mem_cons_self hz rfl rfl hfl) (by rfl) (bl.isi) (by decide +kernel) (pa_cons (pv 0) (pa_cons (pe_glob (v := .ref (He.ga K "NoLine")) rfl e_NoLine.g rfl) pa_nil))) pa_nil)))) (pe_callTy call_int1 (by rfl) (bl.int) (by decide +kernel) (pa_cons (pe_callB (isE hE (a := p.1) (oe := p.2) List.mem_cons_self hz rfl rfl hfl) (by rfl) (bl.isi) (by decide +kernel) (pa_cons (pv 0) (pa_cons (pe_bltn (v := .ty "ValueError") (u := .type "ValueError") rfl (bl.ValueError) (by decide +kernel) rfl) pa_nil))) pa_nil)))))))), ?_⟩
  walk_at "st0"
  simp only [RDa, RDb, RDv, RDk, RDx, RDe, RDd, RDp, RDq, List.getElem?_cons_zero, List.getElem?_cons_succ, List.set_cons_zero, List.set_cons_succ, List.cons.injEq, List.cons_ne_nil, reduceCtorEq, exists_eq_left', exists_eq_left, exists_and_left, and_assoc, exists_const, true_and, and_true, if_true, if_false, false_and, and_false, exists_false, false_or, or_false, true_implies, false_implies, implies_true, forall_eq, forall_eq', Bool.false_eq_true, if_neg, decide_eq_true_eq, Bool.not_eq_true', decide_eq_false_iff_not, Bool.not_true, Bool.not_false, List.length_cons, List.length_nil, sizeLine_eq, Nat.reduceAdd, Nat.reduceLeDiff, Nat.reduceLT, Int.reduceLT, Int.reduceLE, Int.emod_nonneg, ne_eq, Int.reduceEq, not_false_eq_true, not_true_eq_false, k1, k2, k3, k4, k5, k6, k7, k8, hkv, mul_one, mul_zero, mulOk_one, mulOk_zero, app_empty]
  have hl : ("letter" : Str).length + Str.empty.length ≤ 16777216 := by decide +kernel
  refine for_lcut (fun a H2 => Same H H2 ∧ H2 a = some (.lst [.bl false, .bl false, .bl false])) [.bl false, .bl false, .bl false] (fun Z hZ => ?_)
    (fun a i σ H' => (∃ v, σ = [some (.ref p.1), some (.str "letter"), v]) ∧ Same H H' ∧ H' a = some (.lst [.bl false, .bl false, .bl false])) ?_ ?_ ?_ ?_
  · simp only [RDa, RDb, RDv, RDk, RDx, RDe, RDd, RDp, RDq, List.getElem?_cons_zero, List.getElem?_cons_succ, List.set_cons_zero, List.set_cons_succ, List.cons.injEq, List.cons_ne_nil, reduceCtorEq, exists_eq_left', exists_eq_left, exists_and_left, and_assoc, exists_const, true_and, and_true, if_true, if_false, false_and, and_false, exists_false, false_or, or_false, true_implies, false_implies, implies_true, forall_eq, forall_eq', Bool.false_eq_true, if_neg, decide_eq_true_eq, Bool.not_eq_true', decide_eq_false_iff_not, Bool.not_true, Bool.not_false, List.length_cons, List.length_nil, sizeLine_eq, Nat.reduceAdd, Nat.reduceLeDiff, Nat.reduceLT, Int.reduceLT, Int.reduceLE, Int.emod_nonneg, ne_eq, Int.reduceEq, not_false_eq_true, not_true_eq_false, k1, k2, k3, k4, k5, k6, k7, k8, hkv, mul_one, mul_zero, mulOk_one, mulOk_zero, app_empty]
    exact fun a ha => hZ a _ ⟨same_new ha, upd_same⟩
  · rintro a H1 ⟨h1, h2⟩
    exact ⟨SqL.of h2, ⟨none, rfl⟩, h1, h2⟩
  · rintro a i σ H1 _ ⟨_, _, h2⟩
    exact SqL.of h2
  · rintro a i x σ H1 hx ⟨⟨v, rfl⟩, h1, h2⟩
    rw [bl3 hx]
    simp only [RDa, RDb, RDv, RDk, RDx, RDe, RDd, RDp, RDq, List.getElem?_cons_zero, List.getElem?_cons_succ, List.set_cons_zero, List.set_cons_succ, List.cons.injEq, List.cons_ne_nil, reduceCtorEq, exists_eq_left', exists_eq_left, exists_and_left, and_assoc, exists_const, true_and, and_true, if_true, if_false, false_and, and_false, exists_false, false_or, or_false, true_implies, false_implies, implies_true, forall_eq, forall_eq', Bool.false_eq_true, if_neg, decide_eq_true_eq, Bool.not_eq_true', decide_eq_false_iff_not, Bool.not_true, Bool.not_false, List.length_cons, List.length_nil, sizeLine_eq, Nat.reduceAdd, Nat.reduceLeDiff, Nat.reduceLT, Int.reduceLT, Int.reduceLE, Int.emod_nonneg, ne_eq, Int.reduceEq, not_false_eq_true, not_true_eq_false, k1, k2, k3, k4, k5, k6, k7, k8, hkv, mul_one, mul_zero, mulOk_one, mulOk_zero, app_empty]
    exact ⟨hl, ⟨_, rfl⟩, h1, h2⟩
  rintro a1 σ H1 ⟨⟨v, rfl⟩, h1, h2⟩
  simp only [RDa, RDb, RDv, RDk, RDx, RDe, RDd, RDp, RDq, List.getElem?_cons_zero, List.getElem?_cons_succ, List.set_cons_zero, List.set_cons_succ, List.cons.injEq, List.cons_ne_nil, reduceCtorEq, exists_eq_left', exists_eq_left, exists_and_left, and_assoc, exists_const, true_and, and_true, if_true, if_false, false_and, and_false, exists_false, false_or, or_false, true_implies, false_implies, implies_true, forall_eq, forall_eq', Bool.false_eq_true, if_neg, decide_eq_true_eq, Bool.not_eq_true', decide_eq_false_iff_not, Bool.not_true, Bool.not_false, List.length_cons, List.length_nil, sizeLine_eq, Nat.reduceAdd, Nat.reduceLeDiff, Nat.reduceLT, Int.reduceLT, Int.reduceLE, Int.emod_nonneg, ne_eq, Int.reduceEq, not_false_eq_true, not_true_eq_false, k1, k2, k3, k4, k5, k6, k7, k8, hkv, mul_one, mul_zero, mulOk_one, mulOk_zero, app_empty]
  refine for_lcut (fun a H2 => Same H H2 ∧ H2 a = some (.lst [.bl false, .bl false, .bl false])) [.bl false, .bl false, .bl false] (fun Z hZ => ?_)
    (fun a i σ H' => (∃ v, σ = [some (.ref p.1), some (.str "letter"), v]) ∧ Same H H' ∧ H' a = some (.lst [.bl false, .bl false, .bl false])) ?_ ?_ ?_ ?_
  · simp only [RDa, RDb, RDv, RDk, RDx, RDe, RDd, RDp, RDq, List.getElem?_cons_zero, List.getElem?_cons_succ, List.set_cons_zero, List.set_cons_succ, List.cons.injEq, List.cons_ne_nil, reduceCtorEq, exists_eq_left', exists_eq_left, exists_and_left, and_assoc, exists_const, true_and, and_true, if_true, if_false, false_and, and_false, exists_false, false_or, or_false, true_implies, false_implies, implies_true, forall_eq, forall_eq', Bool.false_eq_true, if_neg, decide_eq_true_eq, Bool.not_eq_true', decide_eq_false_iff_not, Bool.not_true, Bool.not_false, List.length_cons, List.length_nil, sizeLine_eq, Nat.reduceAdd, Nat.reduceLeDiff, Nat.reduceLT, Int.reduceLT, Int.reduceLE, Int.emod_nonneg, ne_eq, Int.reduceEq, not_false_eq_true, not_true_eq_false, k1, k2, k3, k4, k5, k6, k7, k8, hkv, mul_one, mul_zero, mulOk_one, mulOk_zero, app_empty]
    exact fun a ha => hZ a _ ⟨h1.trans (same_new ha), upd_same⟩
  · rintro a H2 ⟨h3, h4⟩
    exact ⟨SqL.of h4, ⟨v, rfl⟩, h3, h4⟩
  · rintro a i σ H2 _ ⟨_, _, h4⟩
    exact SqL.of h4
  · rintro a i x σ H2 hx ⟨⟨v, rfl⟩, h3, h4⟩
    rw [bl3 hx]
    simp only [RDa, RDb, RDv, RDk, RDx, RDe, RDd, RDp, RDq, List.getElem?_cons_zero, List.getElem?_cons_succ, List.set_cons_zero, List.set_cons_succ, List.cons.injEq, List.cons_ne_nil, reduceCtorEq, exists_eq_left', exists_eq_left, exists_and_left, and_assoc, exists_const, true_and, and_true, if_true, if_false, false_and, and_false, exists_false, false_or, or_false, true_implies, false_implies, implies_true, forall_eq, forall_eq', Bool.false_eq_true, if_neg, decide_eq_true_eq, Bool.not_eq_true', decide_eq_false_iff_not, Bool.not_true, Bool.not_false, List.length_cons, List.length_nil, sizeLine_eq, Nat.reduceAdd, Nat.reduceLeDiff, Nat.reduceLT, Int.reduceLT, Int.reduceLE, Int.emod_nonneg, ne_eq, Int.reduceEq, not_false_eq_true, not_true_eq_false, k1, k2, k3, k4, k5, k6, k7, k8, hkv, mul_one, mul_zero, mulOk_one, mulOk_zero, app_empty]
    exact ⟨hl, ⟨_, rfl⟩, h3, h4⟩
  rintro a2 σ H2 ⟨⟨v, rfl⟩, h3, h4⟩
  simp only [RDa, RDb, RDv, RDk, RDx, RDe, RDd, RDp, RDq, List.getElem?_cons_zero, List.getElem?_cons_succ, List.set_cons_zero, List.set_cons_succ, List.cons.injEq, List.cons_ne_nil, reduceCtorEq, exists_eq_left', exists_eq_left, exists_and_left, and_assoc, exists_const, true_and, and_true, if_true, if_false, false_and, and_false, exists_false, false_or, or_false, true_implies, false_implies, implies_true, forall_eq, forall_eq', Bool.false_eq_true, if_neg, decide_eq_true_eq, Bool.not_eq_true', decide_eq_false_iff_not, Bool.not_true, Bool.not_false, List.length_cons, List.length_nil, sizeLine_eq, Nat.reduceAdd, Nat.reduceLeDiff, Nat.reduceLT, Int.reduceLT, Int.reduceLE, Int.emod_nonneg, ne_eq, Int.reduceEq, not_false_eq_true, not_true_eq_false, k1, k2, k3, k4, k5, k6, k7, k8, hkv, mul_one, mul_zero, mulOk_one, mulOk_zero, app_empty]
  exact ⟨hl, q H2 h3⟩
end RP

namespace RP
open PySem PySem.Spec PyProof.Rows L2 L2H
abbrev s__law_said : Stmt := top 19
abbrev N__law_said : List Str := ["_law_post", "_law_number", "_law_error"]
theorem sc__law_said : FnScope N__law_said ["_law_post", "_law_number"] (defScope s__law_said) := ⟨rfl, rfl, rfl, by decide +kernel, rfl, by decide +kernel, by decide +kernel⟩
def sp__law_said (K : PySem.W.Frag) : Sp := fun vs H Q E => ∃ p tx b ts x, vs = [.ref p, x] ∧ PostAt K H p tx b ts ∧ 0 ≤ b ∧ b < 100000 ∧ ts.length < 100000 ∧ Kn H x ∧
  (∀ k v q H1, x = .int k → mx2 0 (ts.length - 1 - b) ≤ k → k < ts.length → atI ts k = some v → Same H H1 → H q = none → H1 q = some (.tup [.str "told", v]) → Q (.ref q) H1) ∧
  (amongV x (mx2 0 (ts.length - 1 - b)) (ts.length - 1) = false → ∀ q H1, Same H H1 → H q = none → H1 q = some (.tup [.str "refused", .str "letter"]) → Q (.ref q) H1)
theorem ok__law_said {P : Program} {w : World} {K : PySem.W.Frag} {mg : Str → Option Value} {base : Heap} (F : FnP K ("_law_said", none) "_law_said" "_law_said" s__law_said) (hm : mg "_law_said" = some (.ref (He.ga K "_law_said"))) (bl : Blt mg) (hPost : PostF K) (m_Post_taken : MCal P w K mg base 2 (He.ga K "Post") "taken" (sp_Post_taken K)) (c__law_word : CalE P w K mg base 1 "_law_word" (sp__law_word K)) (e_PostError : ErrC K mg "PostError") (hx : PySem.W.exmOne K (.ref (He.ga K "NoLetter")) (.ref (He.ga K "PostError")) = some true) : Cal P w K mg base 3 "_law_said" (sp__law_said K) := by
  refine fn_cal F hm sc__law_said (fun vs H Q E => by walk_at "len") (fun _ _ _ _ _ _ us hl => match us, hl with | [_, _], _ => rfl) (fun f cdv A outer s H vs Q E hr h => ?_)
  have hu := hu_of hr
  obtain ⟨p, tx, b, ts, x, rfl, t, hb0, hb1, hl, hk, q1, q2⟩ := h
  obtain ⟨dx, hp⟩ := t.ins
  refine ⟨_, (pss_one (L2N.ps_try_as (i := 2) rfl rfl sc__law_said.nd rfl rfl ⟨rfl, by decide, .inl e_PostError.g⟩ (L2N.takes_of rfl rfl rfl rfl)
  (fun W pn xe tk po => (pss_one (ps_ret (pe_tup (pa_cons pe_str (pa_cons (pe_mth (pv 0) m_Post_taken (hr.mono (by decide)) tk (pa_cons (pv 1) pa_nil)) pa_nil))))))
  (fun a oe cls d pn hz hf => (pss_one (ps_ret (pe_tup (pa_cons pe_str (pa_cons (by exact (pe_fnE c__law_word (roomS hr (by decide)) ⟨rfl, hf.elim fun vs e => ⟨vs, e, hz.2.2 vs e⟩⟩ hz List.mem_cons_self tkN (pa_cons (pv 2) pa_nil))) pa_nil)))))))), ?_⟩
  walk_at "st0"
  simp only [RDa, RDb, RDv, RDk, RDx, RDe, RDd, RDp, RDq, List.getElem?_cons_zero, List.getElem?_cons_succ, List.set_cons_zero, List.set_cons_succ, List.cons.injEq, List.cons_ne_nil, reduceCtorEq, exists_eq_left', exists_eq_left, exists_and_left, and_assoc, exists_const, true_and, and_true, if_true, if_false, false_and, and_false, exists_false, false_or, or_false, true_implies, false_implies, implies_true, forall_eq, forall_eq', Bool.false_eq_true, if_neg, decide_eq_true_eq, Bool.not_eq_true', decide_eq_false_iff_not, Bool.not_true, Bool.not_false, List.length_cons, List.length_nil, sizeLine_eq, Nat.reduceAdd, Nat.reduceLeDiff, Nat.reduceLT, Int.reduceLT, Int.reduceLE, Int.emod_nonneg, ne_eq, Int.reduceEq, not_false_eq_true, not_true_eq_false, hPost, PostL, hp, hx]
  refine ⟨p, tx, b, ts, x, rfl, t, hb0, hb1, hl, hk, fun k v H' e h1 h2 h3 s1 q hq => q1 k v q _ e h1 h2 h3 (s1.trans (same_new hq)) (s1.free hq) upd_same, fun ha H' s1 => ?_⟩
  simp only [RDa, RDb, RDv, RDk, RDx, RDe, RDd, RDp, RDq, List.getElem?_cons_zero, List.getElem?_cons_succ, List.set_cons_zero, List.set_cons_succ, List.cons.injEq, List.cons_ne_nil, reduceCtorEq, exists_eq_left', exists_eq_left, exists_and_left, and_assoc, exists_const, true_and, and_true, if_true, if_false, false_and, and_false, exists_false, false_or, or_false, true_implies, false_implies, implies_true, forall_eq, forall_eq', Bool.false_eq_true, if_neg, decide_eq_true_eq, Bool.not_eq_true', decide_eq_false_iff_not, Bool.not_true, Bool.not_false, List.length_cons, List.length_nil, sizeLine_eq, Nat.reduceAdd, Nat.reduceLeDiff, Nat.reduceLT, Int.reduceLT, Int.reduceLE, Int.emod_nonneg, ne_eq, Int.reduceEq, not_false_eq_true, not_true_eq_false, hx, sp__law_word]
  exact fun _ _ H2 s2 q hq => q2 ha q _ (s1.trans (s2.trans (same_new hq))) (s1.free (s2.free hq)) upd_same
abbrev s__law_thing : Stmt := top 20
abbrev N__law_thing : List Str := ["_law_cell"]
theorem sc__law_thing : FnScope N__law_thing ["_law_cell"] (defScope s__law_thing) := ⟨rfl, rfl, rfl, by decide +kernel, rfl, by decide +kernel, by decide +kernel⟩
/-- the data of what may be posted -/
def thingD (c : Int) : PyData := [PyData.str "a", .str "b", .int 5, .tuple [.int 1, .str "a"], .tuple [.int 2, .str "b"], .str "", .int 0, .tuple [.str "a", .int 1]].getD (c % 8).toNat .none
def sp__law_thing (K : PySem.W.Frag) : Sp := fun vs H Q E => ∃ c : Int, vs = [.int c] ∧ ∀ v H', Same H H' → (∀ A, (∀ c ∈ A, H c ≠ none) → dat (RP.hm A H') 6 v = some (thingD c)) → Q v H'
theorem thing_shp (c : Int) : Shp 1 (thingD c) := by
  refine getD_all (p := Shp 1) ?_ (shp_s 1).1 _
  have o1 : PyData.strOk "a" = true := by decide +kernel
  have o2 : PyData.strOk "b" = true := by decide +kernel
  have o3 : PyData.strOk "" = true := by decide +kernel
  intro d hd
  simp only [List.mem_cons, List.not_mem_nil, or_false] at hd
  rcases hd with rfl | rfl | rfl | rfl | rfl | rfl | rfl | rfl
  · exact (shp_s 1).2.2.2 _ o1
  · exact (shp_s 1).2.2.2 _ o2
  · exact (shp_s 1).2.2.1 _
  · exact shp_tuple fun d h => by
      simp only [List.mem_cons, List.not_mem_nil, or_false] at h
      rcases h with rfl | rfl
      · exact (shp_s 0).2.2.1 _
      · exact (shp_s 0).2.2.2 _ o1
  · exact shp_tuple fun d h => by
      simp only [List.mem_cons, List.not_mem_nil, or_false] at h
      rcases h with rfl | rfl
      · exact (shp_s 0).2.2.1 _
      · exact (shp_s 0).2.2.2 _ o2
  · exact (shp_s 1).2.2.2 _ o3
  · exact (shp_s 1).2.2.1 _
  · exact shp_tuple fun d h => by
      simp only [List.mem_cons, List.not_mem_nil, or_false] at h
      rcases h with rfl | rfl
      · exact (shp_s 0).2.2.2 _ o1
      · exact (shp_s 0).2.2.1 _
theorem ok__law_thing {P : Program} {w : World} {K : PySem.W.Frag} {mg : Str → Option Value} {base : Heap} (F : FnP K ("_law_thing", none) "_law_thing" "_law_thing" s__law_thing) (hm : mg "_law_thing" = some (.ref (He.ga K "_law_thing"))) (bl : Blt mg) : Cal P w K mg base 1 "_law_thing" (sp__law_thing K) := by
  refine fn_cal F hm sc__law_thing (fun vs H Q E => by walk_at "len") (fun _ _ _ _ _ _ us hl => match us, hl with | [_], _ => rfl) (fun f cdv A outer s H vs Q E hr h => ?_)
  have hu := hu_of hr
  obtain ⟨c, rfl, q⟩ := h
  refine ⟨_, (pss_one (ps_ret (pe_pick (pa_cons pe_str (pa_cons pe_str (pa_cons pe_int (pa_cons (pe_tup (pa_cons pe_int (pa_cons pe_str pa_nil))) (pa_cons (pe_tup (pa_cons pe_int (pa_cons pe_str pa_nil))) (pa_cons pe_str (pa_cons pe_int (pa_cons (pe_tup (pa_cons pe_str (pa_cons pe_int pa_nil))) pa_nil)))))))) (pe_op op_mod (pv 0) pe_int) (fun _ _ => rfl)))), ?_⟩
  walk_at "st0"
  simp only [RDa, RDb, RDv, RDk, RDx, RDe, RDd, RDp, RDq, List.getElem?_cons_zero, List.getElem?_cons_succ, List.set_cons_zero, List.set_cons_succ, List.cons.injEq, List.cons_ne_nil, reduceCtorEq, exists_eq_left', exists_eq_left, exists_and_left, and_assoc, exists_const, true_and, and_true, if_true, if_false, false_and, and_false, exists_false, false_or, or_false, true_implies, false_implies, implies_true, forall_eq, forall_eq', Bool.false_eq_true, if_neg, decide_eq_true_eq, Bool.not_eq_true', decide_eq_false_iff_not, Bool.not_true, Bool.not_false, List.length_cons, List.length_nil, sizeLine_eq, Nat.reduceAdd, Nat.reduceLeDiff, Nat.reduceLT, Int.reduceLT, Int.reduceLE, Int.emod_nonneg, ne_eq, Int.reduceEq, not_false_eq_true, not_true_eq_false]
  intro t1 n_t1
  generalize e_H1 : upd H t1 (.tup [.int 1, .str "a"]) = H1
  have a_H1 : H1 t1 = some (.tup [.int 1, .str "a"]) := by rw [← e_H1]; exact upd_same
  have s_H1 : Same H H1 := by rw [← e_H1]; exact same_new n_t1
  intro t2 n_t2
  generalize e_H2 : upd H1 t2 (.tup [.int 2, .str "b"]) = H2
  have a_H2 : H2 t2 = some (.tup [.int 2, .str "b"]) := by rw [← e_H2]; exact upd_same
  have s_H2 : Same H1 H2 := by rw [← e_H2]; exact same_new n_t2
  intro t3 n_t3
  generalize e_H3 : upd H2 t3 (.tup [.str "a", .int 1]) = H3
  have a_H3 : H3 t3 = some (.tup [.str "a", .int 1]) := by rw [← e_H3]; exact upd_same
  have s_H3 : Same H2 H3 := by rw [← e_H3]; exact same_new n_t3
  have b1 := s_H3 _ _ (s_H2 _ _ a_H1)
  have b2 := s_H3 _ _ a_H2
  have s3 := (s_H1.trans s_H2).trans s_H3
  have hc := md_rng c (show (0 : Int) < 8 by decide)
  have mono : ∀ A : List Addr, (∀ c ∈ A, H c ≠ none) → ∀ t : Addr, H t = none → RP.hm A H3 t = H3 t := fun A hA t ht => hm_in fun m => hA t m ht
  have e1 := fun A hA => (mono A hA t1 n_t1).trans b1
  have e2 := fun A hA => (mono A hA t2 (s_H1.free n_t2)).trans b2
  have e3 := fun A hA => (mono A hA t3 (s_H1.free (s_H2.free n_t3))).trans a_H3
  unfold thingD at q
  generalize c % 8 = j at hc q
  rcases (show j = 0 ∨ j = 1 ∨ j = 2 ∨ j = 3 ∨ j = 4 ∨ j = 5 ∨ j = 6 ∨ j = 7 by omega) with rfl | rfl | rfl | rfl | rfl | rfl | rfl | rfl
  · exact ⟨_, rfl, q _ _ s3 fun A hA => rfl⟩
  · exact ⟨_, rfl, q _ _ s3 fun A hA => rfl⟩
  · exact ⟨_, rfl, q _ _ s3 fun A hA => rfl⟩
  · exact ⟨_, rfl, q _ _ s3 fun A hA => by rw [dat_tup (e1 A hA) 5]; rfl⟩
  · exact ⟨_, rfl, q _ _ s3 fun A hA => by rw [dat_tup (e2 A hA) 5]; rfl⟩
  · exact ⟨_, rfl, q _ _ s3 fun A hA => rfl⟩
  · exact ⟨_, rfl, q _ _ s3 fun A hA => rfl⟩
  · exact ⟨_, rfl, q _ _ s3 fun A hA => by rw [dat_tup (e3 A hA) 5]; rfl⟩
/-- the numbers that are there, by the law -/
def dueL (b : Int) (n : Nat) : List Nat := (List.range n).filter fun i => decide ((n : Int) - 1 ≤ (i : Int) + b)
abbrev s__law_due : Stmt := top 21
abbrev N__law_due : List Str := ["_law_bound", "_law_things", "_law_number"]
theorem sc__law_due : FnScope N__law_due ["_law_bound", "_law_things"] (defScope s__law_due) := ⟨rfl, rfl, rfl, by decide +kernel, rfl, by decide +kernel, by decide +kernel⟩
def sp__law_due (K : PySem.W.Frag) : Sp := fun vs H Q E => ∃ b tx ts, vs = [.int b, .ref tx] ∧ H tx = some (.lst ts) ∧ ts.length < 100000 ∧ ∀ l H', H l = none → Same H H' → H' l = some (.lst ((dueL b ts.length).map fun i => V.int (i : Nat))) → Q (.ref l) H'
theorem ok__law_due {P : Program} {w : World} {K : PySem.W.Frag} {mg : Str → Option Value} {base : Heap} (F : FnP K ("_law_due", none) "_law_due" "_law_due" s__law_due) (hm : mg "_law_due" = some (.ref (He.ga K "_law_due"))) (bl : Blt mg) : Cal P w K mg base 1 "_law_due" (sp__law_due K) := by
  refine fn_cal F hm sc__law_due (fun vs H Q E => by walk_at "len") (fun _ _ _ _ _ _ us hl => match us, hl with | [_, _], _ => rfl) (fun f cdv A outer s H vs Q E hr h => ?_)
  have hu := hu_of hr
  obtain ⟨b, tx, ts, rfl, ht, hl, q⟩ := h
  refine ⟨_, (pss_one (ps_ret (pe_lc (own := [("_law_number", 2)]) rfl sc__law_due.nd (pi_range1 rfl (bl.range) (pa_cons (pe_callB call_lenC (by rfl) (bl.len) (by decide +kernel) (pa_cons (pv 1) pa_nil)) pa_nil)) (blkOk_by (own := [("_law_number", 2)]) (N := N__law_due) (sc := defScope s__law_due) (by decide +kernel)) (fun _ _ _ _ _ =>  by exact (pg_name (i := 2) sc__law_due.nd rfl (Or.inl rfl))) (fun _ _ _ _ _ =>  by exact (pts_one (pt_cmpR op_ge (pe_op op_add (pv 2) (pv 0)) (pe_op op_sub (pe_callB call_lenC (by rfl) (bl.len) (by decide +kernel) (pa_cons (pv 1) pa_nil)) pe_int) (nomark _)))) (fun _ _ _ _ _ =>  by exact (pv 2))))), ?_⟩
  walk_at "st0"
  simp only [RDa, RDx]
  refine rcutF 0 ts.length (fun i => decide ((ts.length : Int) - 1 ≤ (i : Int) + b)) (fun H1 => H = H1) (fun _ i y => y = .int (i : Nat)) keeps_pure ?_ ?_ ?_ ?_
  · intro Z hZ
    simp only [RDa, RDb, RDv, RDk, RDx, RDe, RDd, RDp, RDq, List.getElem?_cons_zero, List.getElem?_cons_succ, List.set_cons_zero, List.set_cons_succ, List.cons.injEq, List.cons_ne_nil, reduceCtorEq, exists_eq_left', exists_eq_left, exists_and_left, and_assoc, exists_const, true_and, and_true, if_true, if_false, false_and, and_false, exists_false, false_or, or_false, true_implies, false_implies, implies_true, forall_eq, forall_eq', Bool.false_eq_true, if_neg, decide_eq_true_eq, Bool.not_eq_true', decide_eq_false_iff_not, Bool.not_true, Bool.not_false, List.length_cons, List.length_nil, sizeLine_eq, Nat.reduceAdd, Nat.reduceLeDiff, Nat.reduceLT, Int.reduceLT, Int.reduceLE, Int.emod_nonneg, ne_eq, Int.reduceEq, not_false_eq_true, not_true_eq_false, lenO_lst ht]
    exact ⟨by omega, by omega, hZ H rfl⟩
  · rw [sizeLine_eq]
    omega
  · rintro H1 H2 i Z W rfl hi s2 hZ hW
    simp only [RDa, RDb, RDv, RDk, RDx, RDe, RDd, RDp, RDq, List.getElem?_cons_zero, List.getElem?_cons_succ, List.set_cons_zero, List.set_cons_succ, List.cons.injEq, List.cons_ne_nil, reduceCtorEq, exists_eq_left', exists_eq_left, exists_and_left, and_assoc, exists_const, true_and, and_true, if_true, if_false, false_and, and_false, exists_false, false_or, or_false, true_implies, false_implies, implies_true, forall_eq, forall_eq', Bool.false_eq_true, if_neg, decide_eq_true_eq, Bool.not_eq_true', decide_eq_false_iff_not, Bool.not_true, Bool.not_false, List.length_cons, List.length_nil, sizeLine_eq, Nat.reduceAdd, Nat.reduceLeDiff, Nat.reduceLT, Int.reduceLT, Int.reduceLE, Int.emod_nonneg, ne_eq, Int.reduceEq, not_false_eq_true, not_true_eq_false, lenO_lst (s2 _ _ ht), Int.zero_add, ge_iff_le]
    split
    · rename_i h; exact hZ (decide_eq_true h) _ _ (Same.refl _) rfl
    · rename_i h; exact hW (decide_eq_false h) _ (Same.refl _)
  · rintro H1 H3 D rs rfl nD s3 hD ar
    refine q D H3 nD s3 ?_
    rw [hD, ar.map_eq]
    rfl
end RP

namespace RP
open PySem PySem.Spec PyProof.Rows L2
/-- what was told at some time: pairs of a list and its copy, off A -/
def OldOk (A : List Addr) (H : Hp) (os : List V) : Prop := ∀ o ∈ os, ∃ q a b d, o = V.ref q ∧ hm A H q = some (.tup [.ref a, .ref b]) ∧ dat (hm A H) 8 (.ref a) = some d ∧ dat (hm A H) 8 (.ref b) = some d ∧ Shp 8 d
theorem OldOk.fr {A : List Addr} {H H1 : Hp} {os : List V} (h : OldOk A H os) (f : Fr A H H1) : OldOk A H1 os := fun o ho => by
  obtain ⟨q, a, b, d, e, h1, h2, h3, h4⟩ := h o ho
  exact ⟨q, a, b, d, e, hm_fr f _ _ h1, dat_same (hm_fr f) _ _ _ h2, dat_same (hm_fr f) _ _ _ h3, h4⟩
theorem OldOk.snoc {A : List Addr} {H : Hp} {os : List V} (h : OldOk A H os) {q a b : Addr} {d : PyData} (h1 : hm A H q = some (.tup [.ref a, .ref b])) (h2 : dat (hm A H) 8 (.ref a) = some d) (h3 : dat (hm A H) 8 (.ref b) = some d) (h4 : Shp 8 d) : OldOk A H (os ++ [.ref q]) := fun o ho => by
  rcases List.mem_append.mp ho with z | z
  · exact h o z
  · have e : o = .ref q := by simpa using z
    exact ⟨q, a, b, d, e, h1, h2, h3, h4⟩
/-- A's members are there -/
def Liv (A : List Addr) (H : Hp) : Prop := ∀ c ∈ A, H c ≠ none
theorem Liv.not {A : List Addr} {H : Hp} (h : Liv A H) {c : Addr} (n : H c = none) : c ∉ A := fun m => h c m n
/-- the list l and its copy, put among the old ones -/
theorem old_add {A : List Addr} {H : Hp} {ol l : Addr} {os xs : List V} {ds : List PyData} (hA : Liv A H) (olA : ol ∈ A) (lA : l ∉ A) (ho : H ol = some (.lst os)) (old : OldOk A H os) (hl : H l = some (.lst xs)) (hd : mapO (dat (hm (l :: A) H) 7) xs = some ds) (sd : ∀ d ∈ ds, Shp 7 d) {b q : Addr} (nb : H b = none) (nq : upd H b (.lst xs) q = none) :
    upd (upd H b (.lst xs)) q (.tup [.ref l, .ref b]) ol = some (.lst os) ∧ Fr [ol] H (upd (upd (upd H b (.lst xs)) q (.tup [.ref l, .ref b])) ol (.lst (os ++ [V.ref q]))) ∧ OldOk A (upd (upd (upd H b (.lst xs)) q (.tup [.ref l, .ref b])) ol (.lst (os ++ [V.ref q]))) (os ++ [V.ref q]) := by
  have qb : q ≠ b := fun e => by rw [e, upd_same] at nq; cases nq
  rw [upd_ne qb] at nq
  have b_ol : ol ≠ b := fun e => by rw [e, nb] at ho; cases ho
  have q_ol : ol ≠ q := fun e => by rw [e, nq] at ho; cases ho
  have lol : l ≠ ol := fun e => lA (by rw [e]; exact olA)
  have bA := hA.not nb
  have qA := hA.not nq
  have f89 : Fr [ol] H (upd (upd (upd H b (.lst xs)) q (.tup [.ref l, .ref b])) ol (.lst (os ++ [V.ref q]))) := (((Fr.refl _ _).new nb).new (by rw [upd_ne qb]; exact nq)).upd (by simp)
  refine ⟨by rw [upd_ne q_ol, upd_ne b_ol]; exact ho, f89, ?_⟩
  have hb9 : hm A (upd (upd (upd H b (.lst xs)) q (.tup [.ref l, .ref b])) ol (.lst (os ++ [V.ref q]))) b = some (.lst xs) := by
    rw [hm_in bA, upd_ne (Ne.symm b_ol), upd_ne (Ne.symm qb), upd_same]
  have hq9 : hm A (upd (upd (upd H b (.lst xs)) q (.tup [.ref l, .ref b])) ol (.lst (os ++ [V.ref q]))) q = some (.tup [.ref l, .ref b]) := by
    rw [hm_in qA, upd_ne (Ne.symm q_ol), upd_same]
  generalize upd (upd (upd H b (.lst xs)) q (.tup [.ref l, .ref b])) ol (.lst (os ++ [V.ref q])) = H9 at f89 hb9 hq9
  have hl9 : hm A H9 l = some (.lst xs) := by
    rw [hm_in lA]
    exact f89 _ _ (by simpa using lol) hl
  have sm : Same (hm (l :: A) H) (hm A H9) := fun c o e => by
    unfold hm at e
    split at e
    · cases e
    · rename_i n
      have n2 : c ∉ A := fun h => n (List.mem_cons_of_mem _ h)
      rw [hm_in n2]
      exact f89 _ _ (by
        have z : c ≠ ol := fun e2 => n2 (by rw [e2]; exact olA)
        simpa using z) e
  have d9 := mapO_same (dat_same sm 7) _ _ hd
  exact (old.fr (f89.mono (by simpa using olA))).snoc hq9 (by rw [dat_lst hl9, d9]; rfl) (by rw [dat_lst hb9, d9]; rfl) (shp_list sd)
theorem mapO_get {f : V → Option PyData} : ∀ {xs : List V} {ds : List PyData} {i : Nat} {x : V}, mapO f xs = some ds → xs[i]? = some x → ∃ d, ds[i]? = some d ∧ f x = some d
  | [], _, _, _, _, e => by simp at e
  | y :: r, ds, i, x, h, e => by
    unfold mapO at h
    split at h
    · rename_i d ds' h1 h2
      cases h
      cases i with
      | zero =>
        have e2 : y = x := by simpa using e
        subst e2
        exact ⟨d, rfl, h1⟩
      | succ i =>
        obtain ⟨d2, e3, e4⟩ := mapO_get (i := i) h2 (by simpa using e)
        exact ⟨d2, by simpa using e3, e4⟩
    · cases h
theorem mapO_len {f : V → Option PyData} : ∀ {xs : List V} {ds : List PyData}, mapO f xs = some ds → xs.length = ds.length
  | [], _, h => by cases h; rfl
  | y :: r, ds, h => by
    unfold mapO at h
    split at h
    · rename_i d ds' h1 h2
      cases h
      rw [List.length_cons, List.length_cons, mapO_len h2]
    · cases h
theorem dat_up {H : Hp} : ∀ (n : Nat) (v : V) (d : PyData), dat H n v = some d → dat H (n + 1) v = some d := by
  intro n
  induction n with
  | zero =>
    intro v d h
    cases v <;> first | exact h | (unfold dat at h; cases h)
  | succ n ih =>
    intro v d h
    cases v with
    | ref a =>
      unfold dat at h ⊢
      split at h
      · rename_i xs e1
        obtain ⟨ds, e2, rfl⟩ := Option.map_eq_some_iff.mp h
        rw [mapO_same ih _ _ e2]
        rfl
      · rename_i xs e1
        obtain ⟨ds, e2, rfl⟩ := Option.map_eq_some_iff.mp h
        rw [mapO_same ih _ _ e2]
        rfl
      · rename_i ob xs e1
        obtain ⟨ds, e2, rfl⟩ := Option.map_eq_some_iff.mp h
        rw [mapO_same ih _ _ e2]
        rfl
      · cases h
    | _ => exact h
end RP

namespace RP
open PySem PySem.Spec PyProof.Rows L2
theorem filter_ge (lo : Nat) : ∀ n : Nat, (List.range n).filter (fun i => decide (lo ≤ i)) = (List.range (n - lo)).map fun i => lo + i
  | 0 => by simp
  | n + 1 => by
    rw [List.range_succ, List.filter_append, filter_ge lo n]
    by_cases h : lo ≤ n
    · rw [show n + 1 - lo = (n - lo) + 1 by omega, List.range_succ, List.map_append, List.filter_cons, if_pos (decide_eq_true h), List.filter_nil]
      congr 1
      simp only [List.map_cons, List.map_nil]
      rw [show lo + (n - lo) = n by omega]
    · rw [show n + 1 - lo = 0 by omega, show n - lo = 0 by omega, List.filter_cons, if_neg (by simpa using h), List.filter_nil]
      rfl
theorem due_eq {b : Int} (hb : 0 ≤ b) (n : Nat) : (dueL b n).map (fun i => V.int (i : Nat)) = rgV (mx2 0 ((n : Int) - 1 - b)) n := by
  unfold dueL rgV
  have e : (fun i : Nat => decide ((n : Int) - 1 ≤ (i : Int) + b)) = fun i => decide ((mx2 0 ((n : Int) - 1 - b)).toNat ≤ i) := by
    funext i
    unfold mx2
    rw [Bool.eq_iff_iff]
    simp only [decide_eq_true_eq]
    split <;> omega
  have h0 : 0 ≤ mx2 0 ((n : Int) - 1 - b) := by unfold mx2; split <;> omega
  rw [e]
  generalize mx2 0 ((n : Int) - 1 - b) = lo at h0
  rw [filter_ge, List.map_map, show ((n : Int) - lo).toNat = n - lo.toNat by omega]
  congr 1
  funext i
  show V.int ((lo.toNat + i : Nat) : Int) = V.int (lo + (i : Nat))
  rw [show ((lo.toNat + i : Nat) : Int) = lo + (i : Nat) by omega]
abbrev s__law_there : Stmt := top 22
abbrev N__law_there : List Str := ["_law_post", "_law_bound", "_law_things", "_law_olds", "_law_found", "_law_number"]
theorem sc__law_there : FnScope N__law_there ["_law_post", "_law_bound", "_law_things", "_law_olds"] (defScope s__law_there) := ⟨rfl, rfl, rfl, by decide +kernel, rfl, by decide +kernel, by decide +kernel⟩
def sp__law_there (K : PySem.W.Frag) : Sp := fun vs H Q E => ∃ AA : List Addr, ∃ p tx b r ol ts rs os, vs = [.ref p, .int b, .ref r, .ref ol] ∧ PostAt K H p tx b ts ∧ H r = some (.lst rs) ∧ rs.length = ts.length ∧ 0 ≤ b ∧ b < 100 ∧ ts.length < 1000 ∧ H ol = some (.lst os) ∧ OldOk AA H os ∧ os.length < 100000 ∧ Liv AA H ∧ ol ∈ AA ∧
  ∀ H' os', Fr [ol] H H' → H' ol = some (.lst os') → OldOk AA H' os' → os'.length ≤ os.length + 1 → Q (.bl true) H'
theorem ok__law_there {P : Program} {w : World} {K : PySem.W.Frag} {mg : Str → Option Value} {base : Heap} (F : FnP K ("_law_there", none) "_law_there" "_law_there" s__law_there) (hm : mg "_law_there" = some (.ref (He.ga K "_law_there"))) (bl : Blt mg) (hPost : PostF K) (m_Post_there : MCal P w K mg base 1 (He.ga K "Post") "there" (sp_Post_there K)) (c__law_due : Cal P w K mg base 1 "_law_due" (sp__law_due K)) (c__law_whole : Cal P w K mg base 1 "_law_whole" (sp__law_whole K)) : Cal P w K mg base 2 "_law_there" (sp__law_there K) := by
  refine fn_cal F hm sc__law_there (fun vs H Q E => by walk_at "len") (fun _ _ _ _ _ _ us hl => match us, hl with | [_, _, _, _], _ => rfl) (fun f cdv A outer s H vs Q E hr h => ?_)
  have hu := hu_of hr
  obtain ⟨AA, p, tx, b, r, ol, ts, rs, os, rfl, t, hr', lr, hb0, hb1, hl, ho, old, ol1, hA, olA, q⟩ := h
  obtain ⟨dx, hp⟩ := t.ins
  refine ⟨_, (pss_cons (ps_set (i := 4) sc__law_there.nd rfl (Or.inl rfl) (pe_mth0 (pv 0) m_Post_there (hr.mono (by decide)) (L2N.takes_of rfl rfl rfl rfl)))
  (pss_cons (ps_if (PW.pt (pw_or (pt_not (pt_val (pe_callB call_isC (by rfl) (bl.isi) (by decide +kernel) (pa_cons (pv 4) (pa_cons (pe_bltn (v := .ty "list") (u := .type "list") rfl (bl.list) (by decide +kernel) rfl) pa_nil))))) (pw_or1 (pt_cmpR (op_neC hr.units) (pv 4) (pe_fn c__law_due (hr.mono (by decide)) (L2N.takes_of rfl rfl rfl rfl) (pa_cons (pv 1) (pa_cons (pv 2) pa_nil))) (nomark _)))))
  (pss_one (ps_ret pe_bl))
  pss_nil)
  (pss_cons (ps_if (pt_not (pt_val (pe_callB (cr_all rfl) (by rfl) (bl.all) (by decide +kernel) (pa_cons (pe_lc (own := [("_law_number", 5)]) rfl sc__law_there.nd (pi_list (pv 4)) (blkOk_by (own := [("_law_number", 5)]) (N := N__law_there) (sc := defScope s__law_there) (by decide +kernel)) (fun _ _ _ _ _ =>  by exact (pg_name (i := 5) sc__law_there.nd rfl (Or.inl rfl))) (fun _ _ _ _ _ =>  by exact pts_nil) (fun _ _ _ _ _ =>  by exact (pe_fn c__law_whole (hr.mono (by decide)) tkB (pa_cons (pv 5) pa_nil)))) pa_nil))))
  (pss_one (ps_ret pe_bl))
  pss_nil)
  (pss_cons (ps_expr (pe_app (pv 4) pe_str))
  (pss_cons (ps_expr (pe_app (pv 3) (pe_tup (pa_cons (pv 4) (pa_cons (pe_callTy call_listC (by rfl) (bl.list) (by decide +kernel) (pa_cons (pv 4) pa_nil)) pa_nil)))))
  (pss_one (ps_ret pe_bl))))))), ?_⟩
  walk_at "st0"
  refine seq_gen fun N_a h_a => ?_
  simp only [RDa, RDb, RDv, RDk, RDx, RDe, RDd, RDp, RDq, List.getElem?_cons_zero, List.getElem?_cons_succ, List.set_cons_zero, List.set_cons_succ, List.cons.injEq, List.cons_ne_nil, reduceCtorEq, exists_eq_left', exists_eq_left, exists_and_left, and_assoc, exists_const, true_and, and_true, if_true, if_false, false_and, and_false, exists_false, false_or, or_false, true_implies, false_implies, implies_true, forall_eq, forall_eq', Bool.false_eq_true, if_neg, decide_eq_true_eq, Bool.not_eq_true', decide_eq_false_iff_not, Bool.not_true, Bool.not_false, List.length_cons, List.length_nil, sizeLine_eq, Nat.reduceAdd, Nat.reduceLeDiff, Nat.reduceLT, Int.reduceLT, Int.reduceLE, Int.emod_nonneg, ne_eq, Int.reduceEq, not_false_eq_true, not_true_eq_false, hPost, PostL, hp]
  refine ⟨p, tx, b, ts, rfl, t, hb0, by omega, by omega, fun l H1 nl s1 a1 => h_a _ _ ?_⟩
  clear h_a
  have lA : l ∉ AA := hA.not nl
  have dl := dat_ints H1 7 ((List.range ((ts.length : Int) - mx2 0 ((ts.length : Int) - 1 - b)).toNat).map fun i => mx2 0 ((ts.length : Int) - 1 - b) + (i : Nat))
  have erg : rgV (mx2 0 ((ts.length : Int) - 1 - b)) ts.length = ((List.range ((ts.length : Int) - mx2 0 ((ts.length : Int) - 1 - b)).toNat).map fun i => mx2 0 ((ts.length : Int) - 1 - b) + (i : Nat)).map V.int := by
    unfold rgV
    rw [List.map_map]
    rfl
  generalize eks : ((List.range ((ts.length : Int) - mx2 0 ((ts.length : Int) - 1 - b)).toNat).map fun i => mx2 0 ((ts.length : Int) - 1 - b) + (i : Nat)) = ks at dl erg
  have lks : ks.length ≤ 1000 := by
    rw [← eks, List.length_map, List.length_range]
    have h0 : 0 ≤ mx2 0 ((ts.length : Int) - 1 - b) := by unfold mx2; split <;> omega
    omega
  rw [erg] at a1
  refine seq_rel (fun σ1 H2 => σ1 = [some (.ref p), some (.int b), some (.ref r), some (.ref ol), some (.ref l), none] ∧ Same H1 H2) (fun N_b h_b => ?_) ?_
  · simp only [RDa, RDb, RDv, RDk, RDx, RDe, RDd, RDp, RDq, List.getElem?_cons_zero, List.getElem?_cons_succ, List.set_cons_zero, List.set_cons_succ, List.cons.injEq, List.cons_ne_nil, reduceCtorEq, exists_eq_left', exists_eq_left, exists_and_left, and_assoc, exists_const, true_and, and_true, if_true, if_false, false_and, and_false, exists_false, false_or, or_false, true_implies, false_implies, implies_true, forall_eq, forall_eq', Bool.false_eq_true, if_neg, decide_eq_true_eq, Bool.not_eq_true', decide_eq_false_iff_not, Bool.not_true, Bool.not_false, List.length_cons, List.length_nil, sizeLine_eq, Nat.reduceAdd, Nat.reduceLeDiff, Nat.reduceLT, Int.reduceLT, Int.reduceLE, Int.emod_nonneg, ne_eq, Int.reduceEq, not_false_eq_true, not_true_eq_false, tyN_lst a1]
    refine ⟨b, r, rs, rfl, s1 _ _ hr', by omega, fun D H2 nD s2 hD => ?_⟩
    rw [lr, due_eq hb0, erg] at hD
    have e1 : dat H2 8 (.ref l) = some (.list (ks.map PyData.int)) := by rw [dat_lst (s2 _ _ a1) 7, dat_ints]; rfl
    have e2 : dat H2 8 (.ref D) = some (.list (ks.map PyData.int)) := by rw [dat_lst hD 7, dat_ints]; rfl
    have sh : Shp 8 (.list (ks.map PyData.int)) := shp_list fun d hd => by
      obtain ⟨k, _, rfl⟩ := List.mem_map.mp hd
      exact (shp_s 7).2.2.1 k
    have sh2 := (sh.mono (show 8 ≤ 64 by decide)).ok
    simp only [RDa, RDb, RDv, RDk, RDx, RDe, RDd, RDp, RDq, List.getElem?_cons_zero, List.getElem?_cons_succ, List.set_cons_zero, List.set_cons_succ, List.cons.injEq, List.cons_ne_nil, reduceCtorEq, exists_eq_left', exists_eq_left, exists_and_left, and_assoc, exists_const, true_and, and_true, if_true, if_false, false_and, and_false, exists_false, false_or, or_false, true_implies, false_implies, implies_true, forall_eq, forall_eq', Bool.false_eq_true, if_neg, decide_eq_true_eq, Bool.not_eq_true', decide_eq_false_iff_not, Bool.not_true, Bool.not_false, List.length_cons, List.length_nil, sizeLine_eq, Nat.reduceAdd, Nat.reduceLeDiff, Nat.reduceLT, Int.reduceLT, Int.reduceLE, Int.emod_nonneg, ne_eq, Int.reduceEq, not_false_eq_true, not_true_eq_false, e1, e2, sh2, eqv_self sh.lay]
    exact h_b _ _ ⟨rfl, s2⟩
  rintro σ1 H2 ⟨rfl, s2⟩
  have a2 := s2 _ _ a1
  refine seq_rel (fun σ1 H3 => σ1 = [some (.ref p), some (.int b), some (.ref r), some (.ref ol), some (.ref l), none] ∧ Same H2 H3) (fun N_c h_c => ?_) ?_
  · simp only [RDa, RDb, RDv, RDq, RDx, exists_eq_left', List.getElem?_cons_zero, List.getElem?_cons_succ]
    refine lcut (fun a H3 => Same H2 H3 ∧ a = l) (fun _ _ y => y = .bl true) (ks.map V.int) keeps_pure ?_ ?_ ?_ ?_ ?_
    · intro Z hZ
      simp only [RDa, RDb, RDv, RDk, RDx, RDe, RDd, RDp, RDq, List.getElem?_cons_zero, List.getElem?_cons_succ, List.set_cons_zero, List.set_cons_succ, List.cons.injEq, List.cons_ne_nil, reduceCtorEq, exists_eq_left', exists_eq_left, exists_and_left, and_assoc, exists_const, true_and, and_true, if_true, if_false, false_and, and_false, exists_false, false_or, or_false, true_implies, false_implies, implies_true, forall_eq, forall_eq', Bool.false_eq_true, if_neg, decide_eq_true_eq, Bool.not_eq_true', decide_eq_false_iff_not, Bool.not_true, Bool.not_false, List.length_cons, List.length_nil, sizeLine_eq, Nat.reduceAdd, Nat.reduceLeDiff, Nat.reduceLT, Int.reduceLT, Int.reduceLE, Int.emod_nonneg, ne_eq, Int.reduceEq, not_false_eq_true, not_true_eq_false]
      exact hZ _ _ ⟨Same.refl _, rfl⟩
    · rintro a H3 ⟨s3, rfl⟩
      exact SqL.of (s3 _ _ a2)
    · rw [List.length_map]; exact Nat.le_trans lks (by decide)
    · rintro a H3 H4 i x Z ⟨s3, rfl⟩ hx s4 hZ
      obtain ⟨k, _, rfl⟩ := List.mem_map.mp (List.mem_of_getElem? hx)
      have kn : ∀ n, Kn H4 (.int n) := fun _ => rfl
      simp only [RDa, RDb, RDv, RDk, RDx, RDe, RDd, RDp, RDq, List.getElem?_cons_zero, List.getElem?_cons_succ, List.set_cons_zero, List.set_cons_succ, List.cons.injEq, List.cons_ne_nil, reduceCtorEq, exists_eq_left', exists_eq_left, exists_and_left, and_assoc, exists_const, true_and, and_true, if_true, if_false, false_and, and_false, exists_false, false_or, or_false, true_implies, false_implies, implies_true, forall_eq, forall_eq', Bool.false_eq_true, if_neg, decide_eq_true_eq, Bool.not_eq_true', decide_eq_false_iff_not, Bool.not_true, Bool.not_false, List.length_cons, List.length_nil, sizeLine_eq, Nat.reduceAdd, Nat.reduceLeDiff, Nat.reduceLT, Int.reduceLT, Int.reduceLE, Int.emod_nonneg, ne_eq, Int.reduceEq, not_false_eq_true, not_true_eq_false, sp__law_whole, kn, wholeV]
      exact hZ _ _ (Same.refl _) rfl
    · rintro a H3 H4 D' rs' ⟨s3, rfl⟩ nD s4 hD ar3
      have e := (ar3.mono (S := fun x y => y = (fun _ : V => V.bl true) x) fun _ _ e => e).map_eq
      have ea : ((ks.map V.int).map fun _ => true).all id = true := by simp
      refine ⟨D', (ks.map V.int).map fun _ => true, rfl, SqL.of (by rw [hD, e, List.map_map (g := V.bl)]; rfl), ?_⟩
      simp only [RDa, RDb, RDv, RDk, RDx, RDe, RDd, RDp, RDq, List.getElem?_cons_zero, List.getElem?_cons_succ, List.set_cons_zero, List.set_cons_succ, List.cons.injEq, List.cons_ne_nil, reduceCtorEq, exists_eq_left', exists_eq_left, exists_and_left, and_assoc, exists_const, true_and, and_true, if_true, if_false, false_and, and_false, exists_false, false_or, or_false, true_implies, false_implies, implies_true, forall_eq, forall_eq', Bool.false_eq_true, if_neg, decide_eq_true_eq, Bool.not_eq_true', decide_eq_false_iff_not, Bool.not_true, Bool.not_false, List.length_cons, List.length_nil, sizeLine_eq, Nat.reduceAdd, Nat.reduceLeDiff, Nat.reduceLT, Int.reduceLT, Int.reduceLE, Int.emod_nonneg, ne_eq, Int.reduceEq, not_false_eq_true, not_true_eq_false, ea]
      exact h_c _ _ ⟨rfl, s3.trans s4⟩
  rintro σ1 H3 ⟨rfl, s3⟩
  have a3 := s3 _ _ a2
  have s03 := (s1.trans s2).trans s3
  refine seq_gen fun N_d h_d => ?_
  simp only [RDa, RDb, RDv, RDk, RDx, RDe, RDd, RDp, RDq, List.getElem?_cons_zero, List.getElem?_cons_succ, List.set_cons_zero, List.set_cons_succ, List.cons.injEq, List.cons_ne_nil, reduceCtorEq, exists_eq_left', exists_eq_left, exists_and_left, and_assoc, exists_const, true_and, and_true, if_true, if_false, false_and, and_false, exists_false, false_or, or_false, true_implies, false_implies, implies_true, forall_eq, forall_eq', Bool.false_eq_true, if_neg, decide_eq_true_eq, Bool.not_eq_true', decide_eq_false_iff_not, Bool.not_true, Bool.not_false, List.length_cons, List.length_nil, sizeLine_eq, Nat.reduceAdd, Nat.reduceLeDiff, Nat.reduceLT, Int.reduceLT, Int.reduceLE, Int.emod_nonneg, ne_eq, Int.reduceEq, not_false_eq_true, not_true_eq_false, a3]
  rw [List.length_map]
  refine ⟨by omega, h_d _ _ ?_⟩
  clear h_d
  have ho3 := s03 _ _ ho
  have hol : ol ≠ l := fun e => lA (by rw [← e]; exact olA)
  generalize e4 : upd H3 l (.lst (ks.map V.int ++ [V.str "more"])) = H4
  have f4 : Fr [l] H3 H4 := by rw [← e4]; exact (Fr.refl _ _).upd (by simp)
  have a4 : H4 l = some (.lst (ks.map V.int ++ [V.str "more"])) := by rw [← e4]; exact upd_same
  have ho4 := f4 _ _ (by simpa using hol) ho3
  have d4 : mapO (dat (RP.hm (l :: AA) H4) 7) (ks.map V.int ++ [V.str "more"]) = some (ks.map PyData.int ++ [PyData.str "more"]) := mapO_append (dat_ints _ 7 ks) (dat_strs _ 7 ["more"])
  have f04 : ∀ A2 : List Addr, Fr A2 H H4 := fun A2 c o _ e => f4 _ _ (by
    have z : c ≠ l := ne_of_none e nl
    simpa using z) (s03 _ _ e)
  have hA4 : Liv AA H4 := fun c hc => by
    cases e : H c with
    | none => exact absurd e (hA c hc)
    | some o => rw [f04 [] _ _ (by simp) e]; simp
  have old4 := old.fr (f04 AA)
  simp only [RDa, RDb, RDv, RDk, RDx, RDe, RDd, RDp, RDq, List.getElem?_cons_zero, List.getElem?_cons_succ, List.set_cons_zero, List.set_cons_succ, List.cons.injEq, List.cons_ne_nil, reduceCtorEq, exists_eq_left', exists_eq_left, exists_and_left, and_assoc, exists_const, true_and, and_true, if_true, if_false, false_and, and_false, exists_false, false_or, or_false, true_implies, false_implies, implies_true, forall_eq, forall_eq', Bool.false_eq_true, if_neg, decide_eq_true_eq, Bool.not_eq_true', decide_eq_false_iff_not, Bool.not_true, Bool.not_false, List.length_cons, List.length_nil, sizeLine_eq, Nat.reduceAdd, Nat.reduceLeDiff, Nat.reduceLT, Int.reduceLT, Int.reduceLE, Int.emod_nonneg, ne_eq, Int.reduceEq, not_false_eq_true, not_true_eq_false, ho4]
  refine ⟨_, seqO_lst a4, fun b' nb q' nq => ?_⟩
  obtain ⟨z1, z2, z3⟩ := old_add hA4 olA lA ho4 old4 a4 d4 (by
    intro d hd
    rcases List.mem_append.mp hd with z | z
    · obtain ⟨k, _, rfl⟩ := List.mem_map.mp z
      exact (shp_s 7).2.2.1 k
    · have e : d = .str "more" := by simpa using z
      rw [e]
      exact (shp_s 7).2.2.2 _ (by decide +kernel)) nb nq
  exact ⟨os, z1, by omega, q _ _ ((f04 _).trans z2) upd_same z3 (by rw [List.length_append]; exact Nat.le_refl _)⟩
/-- a post, and the law's own row -/
structure PR (K : PySem.W.Frag) (AA : List Addr) (H : Hp) (p tx r ol : Addr) (b : Int) (ts rs : List V) (ds : List PyData) : Prop where
  t : PostAt K H p tx b ts
  hr : H r = some (.lst rs)
  dt : mapO (dat (hm AA H) 6) ts = some ds
  dr : mapO (dat (hm AA H) 6) rs = some ds
  sh : ∀ d ∈ ds, Shp 1 d
  n1 : tx ≠ ol
  n2 : r ≠ ol
  b0 : 0 ≤ b
  b1 : b < 100
  l : ts.length < 1000
theorem PR.len {K : PySem.W.Frag} {AA : List Addr} {H : Hp} {p tx r ol : Addr} {b : Int} {ts rs : List V} {ds : List PyData} (h : PR K AA H p tx r ol b ts rs ds) : rs.length = ts.length := by rw [mapO_len h.dr, mapO_len h.dt]
theorem PR.same {K : PySem.W.Frag} {AA : List Addr} {H H1 : Hp} {p tx r ol : Addr} {b : Int} {ts rs : List V} {ds : List PyData} (h : PR K AA H p tx r ol b ts rs ds) (s : Same H H1) : PR K AA H1 p tx r ol b ts rs ds :=
  ⟨h.t.same s, s _ _ h.hr, mapO_same (dat_same (hm_fr (.of s)) 6) _ _ h.dt, mapO_same (dat_same (hm_fr (.of s)) 6) _ _ h.dr, h.sh, h.n1, h.n2, h.b0, h.b1, h.l⟩
theorem PR.fr {K : PySem.W.Frag} {AA : List Addr} {H H1 : Hp} {p tx r ol : Addr} {b : Int} {ts rs os : List V} {ds : List PyData} (h : PR K AA H p tx r ol b ts rs ds) (ho : H ol = some (.lst os)) (s : Fr [ol] H H1) (olA : ol ∈ AA) : PR K AA H1 p tx r ol b ts rs ds := by
  obtain ⟨dx, e⟩ := h.t.ins
  have n0 : p ≠ ol := ne_of_obj e ho (by simp)
  have s2 : Fr AA H H1 := s.mono (by simpa using olA)
  exact ⟨h.t.fr s (by simpa using n0) (by simpa using h.n1), s _ _ (by simpa using h.n2) h.hr, mapO_same (dat_same (hm_fr s2) 6) _ _ h.dt, mapO_same (dat_same (hm_fr s2) 6) _ _ h.dr, h.sh, h.n1, h.n2, h.b0, h.b1, h.l⟩
abbrev s__law_stands : Stmt := top 23
abbrev N__law_stands : List Str := ["_law_post", "_law_bound", "_law_things", "_law_olds", "_law_way", "_law_number"]
theorem sc__law_stands : FnScope N__law_stands ["_law_post", "_law_bound", "_law_things", "_law_olds", "_law_way"] (defScope s__law_stands) := ⟨rfl, rfl, rfl, by decide +kernel, rfl, by decide +kernel, by decide +kernel⟩
def sp__law_stands (K : PySem.W.Frag) : Sp := fun vs H Q E => ∃ AA : List Addr, ∃ way : Int, ∃ p tx r ol b ts rs ds os, vs = [.ref p, .int b, .ref r, .ref ol, .int way] ∧ PR K AA H p tx r ol b ts rs ds ∧ H ol = some (.lst os) ∧ OldOk AA H os ∧ os.length < 10000 ∧ Liv AA H ∧ ol ∈ AA ∧
  ∀ H' os', Fr [ol] H H' → H' ol = some (.lst os') → OldOk AA H' os' → os'.length ≤ os.length + 2 → Q (.bl true) H'
theorem ok__law_stands {P : Program} {w : World} {K : PySem.W.Frag} {mg : Str → Option Value} {base : Heap} (F : FnP K ("_law_stands", none) "_law_stands" "_law_stands" s__law_stands) (hm : mg "_law_stands" = some (.ref (He.ga K "_law_stands"))) (bl : Blt mg) (c__law_due : Cal P w K mg base 1 "_law_due" (sp__law_due K)) (c__law_said : Cal P w K mg base 3 "_law_said" (sp__law_said K)) (c__law_there : Cal P w K mg base 2 "_law_there" (sp__law_there K)) : Cal P w K mg base 4 "_law_stands" (sp__law_stands K) := by
  refine fn_cal F hm sc__law_stands (fun vs H Q E => by walk_at "len") (fun _ _ _ _ _ _ us hl => match us, hl with | [_, _, _, _, _], _ => rfl) (fun f cdv A outer s H vs Q E hr h => ?_)
  have hu := hu_of hr
  obtain ⟨AA, way, p, tx, r, ol, b, ts, rs, ds, os, rfl, pr, ho, old, ol1, hA, olA, q⟩ := h
  refine ⟨_, (pss_cons (ps_if (pt_cmpR op_eq (pv 4) pe_int (nomark _))
  (pss_one (ps_ret pe_bl))
  pss_nil)
  (pss_cons (ps_if (PW.pt (pw_and (pt_cmpR op_eq (pv 4) pe_int (nomark _)) (pw_and1 (pt_not (pt_val (pe_fn c__law_there (hr.mono (by decide)) (L2N.takes_of rfl rfl rfl rfl) (pa_cons (pv 0) (pa_cons (pv 1) (pa_cons (pv 2) (pa_cons (pv 3) pa_nil))))))))))
  (pss_one (ps_ret pe_bl))
  pss_nil)
  (pss_cons (ps_for (passes_of rfl) rfl (pi_list (pe_fn c__law_due (hr.mono (by decide)) (L2N.takes_of rfl rfl rfl rfl) (pa_cons (pv 1) (pa_cons (pv 2) pa_nil)))) (pg_name (i := 5) sc__law_stands.nd rfl (Or.inl rfl))
  (pss_one (ps_if (pt_cmp (pc_neT hr.units (pe_fn c__law_said (hr.mono (by decide)) (L2N.takes_of rfl rfl rfl rfl) (pa_cons (pv 0) (pa_cons (pv 5) pa_nil))) (pa_cons pe_str (pa_cons (pe_ix ix_C (pv 2) (pv 5) (fun _ _ => rfl)) pa_nil))))
  (pss_one (ps_ret pe_bl))
  pss_nil)))
  (pss_cons (ps_if (pt_cmp (pc_neT hr.units (pe_fn c__law_said (hr.mono (by decide)) (L2N.takes_of rfl rfl rfl rfl) (pa_cons (pv 0) (pa_cons (pe_callB call_lenC (by rfl) (bl.len) (by decide +kernel) (pa_cons (pv 2) pa_nil)) pa_nil))) (pa_cons pe_str (pa_cons pe_str pa_nil))))
  (pss_one (ps_ret pe_bl))
  pss_nil)
  (pss_one (ps_ret (pe_or (pe_cmpR op_eq (pv 4) pe_int (nomark _)) (pe_one (pe_fn c__law_there (hr.mono (by decide)) (L2N.takes_of rfl rfl rfl rfl) (pa_cons (pv 0) (pa_cons (pv 1) (pa_cons (pv 2) (pa_cons (pv 3) pa_nil))))))))))))), ?_⟩
  walk_at "st0"
  refine seq_gen fun N_a h_a => ?_
  simp only [RDa, RDb, RDv, RDk, RDx, RDe, RDd, RDp, RDq, List.getElem?_cons_zero, List.getElem?_cons_succ, List.set_cons_zero, List.set_cons_succ, List.cons.injEq, List.cons_ne_nil, reduceCtorEq, exists_eq_left', exists_eq_left, exists_and_left, and_assoc, exists_const, true_and, and_true, if_true, if_false, false_and, and_false, exists_false, false_or, or_false, true_implies, false_implies, implies_true, forall_eq, forall_eq', Bool.false_eq_true, if_neg, decide_eq_true_eq, Bool.not_eq_true', decide_eq_false_iff_not, Bool.not_true, Bool.not_false, List.length_cons, List.length_nil, sizeLine_eq, Nat.reduceAdd, Nat.reduceLeDiff, Nat.reduceLT, Int.reduceLT, Int.reduceLE, Int.emod_nonneg, ne_eq, Int.reduceEq, not_false_eq_true, not_true_eq_false]
  by_cases w2 : way = 2
  · rw [if_pos w2]
    exact q H os (Fr.refl _ _) ho old (by omega)
  rw [if_neg w2]
  refine h_a _ _ ?_
  clear h_a
  refine seq_rel (fun σ1 H1 => σ1 = [some (.ref p), some (.int b), some (.ref r), some (.ref ol), some (.int way), none] ∧ Fr [ol] H H1 ∧ ∃ os1, H1 ol = some (.lst os1) ∧ OldOk AA H1 os1 ∧ os1.length ≤ os.length + 1) (fun N_b h_b => ?_) ?_
  · simp only [RDa, RDb, RDv, RDk, RDx, RDe, RDd, RDp, RDq, List.getElem?_cons_zero, List.getElem?_cons_succ, List.set_cons_zero, List.set_cons_succ, List.cons.injEq, List.cons_ne_nil, reduceCtorEq, exists_eq_left', exists_eq_left, exists_and_left, and_assoc, exists_const, true_and, and_true, if_true, if_false, false_and, and_false, exists_false, false_or, or_false, true_implies, false_implies, implies_true, forall_eq, forall_eq', Bool.false_eq_true, if_neg, decide_eq_true_eq, Bool.not_eq_true', decide_eq_false_iff_not, Bool.not_true, Bool.not_false, List.length_cons, List.length_nil, sizeLine_eq, Nat.reduceAdd, Nat.reduceLeDiff, Nat.reduceLT, Int.reduceLT, Int.reduceLE, Int.emod_nonneg, ne_eq, Int.reduceEq, not_false_eq_true, not_true_eq_false]
    by_cases w0 : way = 0
    · rw [if_pos w0]
      refine ⟨AA, p, tx, b, r, ol, ts, rs, os, rfl, pr.t, pr.hr, pr.len, pr.b0, pr.b1, pr.l, ho, old, by omega, hA, olA, fun H' os' f ho' old' l' => ⟨_, rfl, ?_⟩⟩
      rw [if_neg (by decide)]
      exact h_b _ _ ⟨rfl, f, os', ho', old', l'⟩
    · rw [if_neg w0]
      exact h_b _ _ ⟨rfl, Fr.refl _ _, os, ho, old, by omega⟩
  rintro σ1 H1 ⟨rfl, f1, os1, ho1, old1, l1⟩
  have pr1 := pr.fr ho f1 olA
  have hA1 : Liv AA H1 := fun c hc => by
    by_cases e : c = ol
    · rw [e, ho1]; simp
    · cases e2 : H c with
      | none => exact absurd e2 (hA c hc)
      | some o => rw [f1 _ _ (by simpa using e) e2]; simp
  refine seq_gen fun N_c h_c => ?_
  have so : PyData.strOk "told" = true ∧ PyData.strOk "refused" = true ∧ PyData.strOk "letter" = true := by decide +kernel
  have le1 := pr1.len
  have b0 := pr1.b0
  have b1 := pr1.b1
  have hl := pr1.l
  refine for_lcut (fun la H4 => Same H1 H4 ∧ H4 la = some (.lst (rgV (mx2 0 ((ts.length : Int) - 1 - b)) ts.length))) (rgV (mx2 0 ((ts.length : Int) - 1 - b)) ts.length) (fun Z hZ => ?_)
    (fun la i σ H' => (∃ u5, σ = [some (.ref p), some (.int b), some (.ref r), some (.ref ol), some (.int way), u5]) ∧ Same H1 H' ∧ H' la = some (.lst (rgV (mx2 0 ((ts.length : Int) - 1 - b)) ts.length))) ?_ ?_ ?_ ?_
  · simp only [RDa, RDb, RDv, RDk, RDx, RDe, RDd, RDp, RDq, List.getElem?_cons_zero, List.getElem?_cons_succ, List.set_cons_zero, List.set_cons_succ, List.cons.injEq, List.cons_ne_nil, reduceCtorEq, exists_eq_left', exists_eq_left, exists_and_left, and_assoc, exists_const, true_and, and_true, if_true, if_false, false_and, and_false, exists_false, false_or, or_false, true_implies, false_implies, implies_true, forall_eq, forall_eq', Bool.false_eq_true, if_neg, decide_eq_true_eq, Bool.not_eq_true', decide_eq_false_iff_not, Bool.not_true, Bool.not_false, List.length_cons, List.length_nil, sizeLine_eq, Nat.reduceAdd, Nat.reduceLeDiff, Nat.reduceLT, Int.reduceLT, Int.reduceLE, Int.emod_nonneg, ne_eq, Int.reduceEq, not_false_eq_true, not_true_eq_false]
    refine ⟨b, r, rs, rfl, pr1.hr, by omega, fun D H2 nD s2 hD => hZ _ _ ⟨s2, ?_⟩⟩
    rw [← due_eq b0, ← le1]
    exact hD
  · rintro la H4 ⟨s4, h4⟩
    exact ⟨SqL.of h4, ⟨_, rfl⟩, s4, h4⟩
  · rintro la i σ H4 _ ⟨_, _, h4⟩
    exact SqL.of h4
  · rintro la i x σ H4 hx ⟨⟨u5, rfl⟩, s4, h4⟩
    have pr4 := pr1.same s4
    obtain ⟨k, hk1, hk2, rfl⟩ : ∃ k : Int, mx2 0 ((ts.length : Int) - 1 - b) ≤ k ∧ k < (ts.length : Int) ∧ x = .int k := by
      unfold rgV at hx
      rw [List.getElem?_map] at hx
      obtain ⟨j, hj, rfl⟩ := Option.map_eq_some_iff.mp hx
      have hj2 : j < ((ts.length : Int) - mx2 0 ((ts.length : Int) - 1 - b)).toNat := by
        have := List.mem_of_getElem? hj
        simpa using this
      exact ⟨_, by omega, by omega, rfl⟩
    have k0 : 0 ≤ k := by
      have h0 : 0 ≤ mx2 0 ((ts.length : Int) - 1 - b) := by unfold mx2; split <;> omega
      omega
    obtain ⟨v', ev'⟩ : ∃ v', rs[k.toNat]? = some v' := ⟨_, List.getElem?_eq_getElem (by omega)⟩
    obtain ⟨v, ev⟩ : ∃ v, ts[k.toNat]? = some v := ⟨_, List.getElem?_eq_getElem (by omega)⟩
    have at1 := atI_nat ev
    have at2 := atI_nat ev'
    rw [show ((k.toNat : Nat) : Int) = k by omega] at at1 at2
    obtain ⟨d, hd1, hd2⟩ := mapO_get pr4.dt ev
    obtain ⟨d', hd1', hd2'⟩ := mapO_get pr4.dr ev'
    have edd : d' = d := by rw [hd1] at hd1'; exact (Option.some.inj hd1').symm
    subst edd
    have shd := pr4.sh d' (List.mem_of_getElem? hd1)
    simp only [RDa, RDb, RDv, RDk, RDx, RDe, RDd, RDp, RDq, List.getElem?_cons_zero, List.getElem?_cons_succ, List.set_cons_zero, List.set_cons_succ, List.cons.injEq, List.cons_ne_nil, reduceCtorEq, exists_eq_left', exists_eq_left, exists_and_left, and_assoc, exists_const, true_and, and_true, if_true, if_false, false_and, and_false, exists_false, false_or, or_false, true_implies, false_implies, implies_true, forall_eq, forall_eq', Bool.false_eq_true, if_neg, decide_eq_true_eq, Bool.not_eq_true', decide_eq_false_iff_not, Bool.not_true, Bool.not_false, List.length_cons, List.length_nil, sizeLine_eq, Nat.reduceAdd, Nat.reduceLeDiff, Nat.reduceLT, Int.reduceLT, Int.reduceLE, Int.emod_nonneg, ne_eq, Int.reduceEq, not_false_eq_true, not_true_eq_false]
    refine ⟨p, tx, b, ts, _, rfl, pr4.t, b0, by omega, by omega, rfl, ?_, ?_⟩
    · rintro k2 v2 q' H5 e h1 h2 h3 s5 nq hq
      cases e
      rw [at1] at h3
      cases h3
      have e6 : dat H5 7 v = some d' := dat_up _ _ _ (dat_same s5 _ _ _ (dat_same hm_same _ _ _ hd2))
      have e7 : dat H5 7 v' = some d' := dat_up _ _ _ (dat_same s5 _ _ _ (dat_same hm_same _ _ _ hd2'))
      have e8 : dat H5 8 (.ref q') = some (.tuple [.str "told", d']) := by
        rw [dat_tup hq 7]
        unfold mapO mapO mapO
        rw [(datE H5).2.2.2.1, e6]
        rfl
      have sh : Shp 2 (.tuple [.str "told", d']) := shp_tuple fun z hz => by
        rcases List.mem_cons.mp hz with h | h
        · rw [h]; exact (shp_s 1).2.2.2 _ so.1
        · rw [List.mem_singleton.mp h]; exact shd
      have sh2 := (sh.mono (show 2 ≤ 64 by decide)).ok
      simp only [RDa, RDb, RDv, RDk, RDx, RDe, RDd, RDp, RDq, List.getElem?_cons_zero, List.getElem?_cons_succ, List.set_cons_zero, List.set_cons_succ, List.cons.injEq, List.cons_ne_nil, reduceCtorEq, exists_eq_left', exists_eq_left, exists_and_left, and_assoc, exists_const, true_and, and_true, if_true, if_false, false_and, and_false, exists_false, false_or, or_false, true_implies, false_implies, implies_true, forall_eq, forall_eq', Bool.false_eq_true, if_neg, decide_eq_true_eq, Bool.not_eq_true', decide_eq_false_iff_not, Bool.not_true, Bool.not_false, List.length_cons, List.length_nil, sizeLine_eq, Nat.reduceAdd, Nat.reduceLeDiff, Nat.reduceLT, Int.reduceLT, Int.reduceLE, Int.emod_nonneg, ne_eq, Int.reduceEq, not_false_eq_true, not_true_eq_false, seqO_lst (s5 _ _ pr4.hr), at2, e7, e8, sh2, eqv_self sh.lay]
      exact ⟨⟨_, rfl⟩, s4.trans s5, s5 _ _ h4⟩
    · intro ha
      have z : amongV (V.int k) (mx2 0 ((ts.length : Int) - 1 - b)) ((ts.length : Int) - 1) = true := by
        simp only [amongV, Bool.and_eq_true, decide_eq_true_eq]
        omega
      rw [z] at ha
      cases ha
  rintro la σ H4 ⟨⟨u5, rfl⟩, s4, h4⟩
  refine h_c _ _ ?_
  clear h_c
  have pr4 := pr1.same s4
  refine seq_rel (fun σ1 H5 => σ1 = [some (.ref p), some (.int b), some (.ref r), some (.ref ol), some (.int way), u5] ∧ Same H4 H5) (fun N_d h_d => ?_) ?_
  · simp only [RDa, RDb, RDv, RDk, RDx, RDe, RDd, RDp, RDq, List.getElem?_cons_zero, List.getElem?_cons_succ, List.set_cons_zero, List.set_cons_succ, List.cons.injEq, List.cons_ne_nil, reduceCtorEq, exists_eq_left', exists_eq_left, exists_and_left, and_assoc, exists_const, true_and, and_true, if_true, if_false, false_and, and_false, exists_false, false_or, or_false, true_implies, false_implies, implies_true, forall_eq, forall_eq', Bool.false_eq_true, if_neg, decide_eq_true_eq, Bool.not_eq_true', decide_eq_false_iff_not, Bool.not_true, Bool.not_false, List.length_cons, List.length_nil, sizeLine_eq, Nat.reduceAdd, Nat.reduceLeDiff, Nat.reduceLT, Int.reduceLT, Int.reduceLE, Int.emod_nonneg, ne_eq, Int.reduceEq, not_false_eq_true, not_true_eq_false, lenO_lst pr4.hr]
    refine ⟨p, tx, b, ts, _, rfl, pr4.t, b0, by omega, by omega, rfl, ?_, ?_⟩
    · rintro k2 v2 q' H5 e h1 h2 h3 s5 nq hq
      cases e
      omega
    · intro ha q' H5 s5 nq hq
      have sh : SeqAt.shaped (.tuple [.str "refused", .str "letter"]) = true := by decide +kernel
      simp only [RDa, RDb, RDv, RDk, RDx, RDe, RDd, RDp, RDq, List.getElem?_cons_zero, List.getElem?_cons_succ, List.set_cons_zero, List.set_cons_succ, List.cons.injEq, List.cons_ne_nil, reduceCtorEq, exists_eq_left', exists_eq_left, exists_and_left, and_assoc, exists_const, true_and, and_true, if_true, if_false, false_and, and_false, exists_false, false_or, or_false, true_implies, false_implies, implies_true, forall_eq, forall_eq', Bool.false_eq_true, if_neg, decide_eq_true_eq, Bool.not_eq_true', decide_eq_false_iff_not, Bool.not_true, Bool.not_false, List.length_cons, List.length_nil, sizeLine_eq, Nat.reduceAdd, Nat.reduceLeDiff, Nat.reduceLT, Int.reduceLT, Int.reduceLE, Int.emod_nonneg, ne_eq, Int.reduceEq, not_false_eq_true, not_true_eq_false, dat_tup hq, sh, eqv_self, PyData.canLay0, PyData.canLayAll0, Bool.and_self, so]
      exact h_d _ _ ⟨rfl, s5⟩
  rintro σ1 H5 ⟨rfl, s5⟩
  have pr5 := pr4.same s5
  have s15 := s4.trans s5
  simp only [RDa, RDb, RDv, RDk, RDx, RDe, RDd, RDp, RDq, List.getElem?_cons_zero, List.getElem?_cons_succ, List.set_cons_zero, List.set_cons_succ, List.cons.injEq, List.cons_ne_nil, reduceCtorEq, exists_eq_left', exists_eq_left, exists_and_left, and_assoc, exists_const, true_and, and_true, if_true, if_false, false_and, and_false, exists_false, false_or, or_false, true_implies, false_implies, implies_true, forall_eq, forall_eq', Bool.false_eq_true, if_neg, decide_eq_true_eq, Bool.not_eq_true', decide_eq_false_iff_not, Bool.not_true, Bool.not_false, List.length_cons, List.length_nil, sizeLine_eq, Nat.reduceAdd, Nat.reduceLeDiff, Nat.reduceLT, Int.reduceLT, Int.reduceLE, Int.emod_nonneg, ne_eq, Int.reduceEq, not_false_eq_true, not_true_eq_false]
  by_cases w0 : way = 0
  · rw [if_pos (by simpa using w0)]
    exact q H5 os1 (f1.trans (.of s15)) (s15 _ _ ho1) (old1.fr (.of s15)) (by omega)
  · rw [if_neg (by simpa using w0)]
    refine ⟨AA, p, tx, b, r, ol, ts, rs, os1, rfl, pr5.t, pr5.hr, pr5.len, b0, b1, hl, s15 _ _ ho1, old1.fr (.of s15), by omega, fun c hc => ?_, olA, fun H' os' f ho' old' l' => q H' os' ((f1.trans (.of s15)).trans f) ho' old' (by omega)⟩
    cases e2 : H1 c with
    | none => exact absurd e2 (hA1 c hc)
    | some o => rw [s15 _ _ e2]; simp
end RP

namespace RP
open PySem PySem.Spec PyProof.Rows L2 L2H
abbrev s_law : Stmt := top 24
abbrev N_law : List Str := ["_law_script", "_law_bounds", "_law_posts", "_law_rows", "_law_olds", "_law_cell", "_law_which", "_law_found", "_law_bound", "_law_number", "_law_due_here", "_law_k", "_law_odd", "_law_old"]
theorem sc_law : FnScope N_law ["_law_script"] (defScope s_law) := ⟨rfl, rfl, rfl, by decide +kernel, rfl, by decide +kernel, by decide +kernel⟩
/-- both posts, both rows, what was told -/
structure K04 (K : PySem.W.Frag) (H : Hp) (p0 x0 p1 x1 r0 r1 ol : Addr) (b0 b1 : Int) (ts0 rs0 : List V) (ds0 : List PyData) (ts1 rs1 : List V) (ds1 : List PyData) (os : List V) : Prop where
  a : PR K [x0, x1, r0, r1, ol] H p0 x0 r0 ol b0 ts0 rs0 ds0
  b : PR K [x0, x1, r0, r1, ol] H p1 x1 r1 ol b1 ts1 rs1 ds1
  lo : H ol = some (.lst os)
  old : OldOk [x0, x1, r0, r1, ol] H os
  n1 : x0 ≠ x1
  n2 : x0 ≠ r0
  n3 : x0 ≠ r1
  n4 : x1 ≠ r0
  n5 : x1 ≠ r1
  n6 : r0 ≠ r1
theorem K04.liv {K : PySem.W.Frag} {H : Hp} {p0 x0 p1 x1 r0 r1 ol : Addr} {b0 b1 : Int} {ts0 rs0 : List V} {ds0 : List PyData} {ts1 rs1 : List V} {ds1 : List PyData} {os : List V} (k : K04 K H p0 x0 p1 x1 r0 r1 ol b0 b1 ts0 rs0 ds0 ts1 rs1 ds1 os) : Liv [x0, x1, r0, r1, ol] H := by
  intro c hc
  simp only [List.mem_cons, List.not_mem_nil, or_false] at hc
  rcases hc with rfl | rfl | rfl | rfl | rfl
  · rw [k.a.t.txt]; simp
  · rw [k.b.t.txt]; simp
  · rw [k.a.hr]; simp
  · rw [k.b.hr]; simp
  · rw [k.lo]; simp
theorem K04.same {K : PySem.W.Frag} {H H1 : Hp} {p0 x0 p1 x1 r0 r1 ol : Addr} {b0 b1 : Int} {ts0 rs0 : List V} {ds0 : List PyData} {ts1 rs1 : List V} {ds1 : List PyData} {os : List V} (k : K04 K H p0 x0 p1 x1 r0 r1 ol b0 b1 ts0 rs0 ds0 ts1 rs1 ds1 os) (s : Same H H1) : K04 K H1 p0 x0 p1 x1 r0 r1 ol b0 b1 ts0 rs0 ds0 ts1 rs1 ds1 os :=
  ⟨k.a.same s, k.b.same s, s _ _ k.lo, k.old.fr (.of s), k.n1, k.n2, k.n3, k.n4, k.n5, k.n6⟩
/-- the olds alone -/
theorem K04.frO {K : PySem.W.Frag} {H H1 : Hp} {p0 x0 p1 x1 r0 r1 ol : Addr} {b0 b1 : Int} {ts0 rs0 : List V} {ds0 : List PyData} {ts1 rs1 : List V} {ds1 : List PyData} {os os1 : List V} (k : K04 K H p0 x0 p1 x1 r0 r1 ol b0 b1 ts0 rs0 ds0 ts1 rs1 ds1 os) (f : Fr [ol] H H1) (lo : H1 ol = some (.lst os1)) (old : OldOk [x0, x1, r0, r1, ol] H1 os1) : K04 K H1 p0 x0 p1 x1 r0 r1 ol b0 b1 ts0 rs0 ds0 ts1 rs1 ds1 os1 :=
  ⟨k.a.fr k.lo f (by simp), k.b.fr k.lo f (by simp), lo, old, k.n1, k.n2, k.n3, k.n4, k.n5, k.n6⟩
/-- a thing is put in one list of a post or a row -/
theorem PR.other {K : PySem.W.Frag} {AA : List Addr} {H H1 : Hp} {p tx r ol z : Addr} {b : Int} {ts rs zs : List V} {ds : List PyData} (h : PR K AA H p tx r ol b ts rs ds) (hz : H z = some (.lst zs)) (s : Fr [z] H H1) (zA : z ∈ AA) (n1 : tx ≠ z) (n2 : r ≠ z) : PR K AA H1 p tx r ol b ts rs ds := by
  obtain ⟨dx, e⟩ := h.t.ins
  have n0 : p ≠ z := ne_of_obj e hz (by simp)
  have s2 : Fr AA H H1 := s.mono (by simpa using zA)
  exact ⟨h.t.fr s (by simpa using n0) (by simpa using n1), s _ _ (by simpa using n2) h.hr, mapO_same (dat_same (hm_fr s2) 6) _ _ h.dt, mapO_same (dat_same (hm_fr s2) 6) _ _ h.dr, h.sh, h.n1, h.n2, h.b0, h.b1, h.l⟩
def K04E (K : PySem.W.Frag) (H : Hp) (p0 x0 p1 x1 r0 r1 ol : Addr) (b0 b1 : Int) (n : Nat) (os : List V) : Prop := ∃ ts0 rs0 ds0 ts1 rs1 ds1, K04 K H p0 x0 p1 x1 r0 r1 ol b0 b1 ts0 rs0 ds0 ts1 rs1 ds1 os ∧ ts0.length ≤ n ∧ ts1.length ≤ n
theorem K04E.same {K : PySem.W.Frag} {H H1 : Hp} {p0 x0 p1 x1 r0 r1 ol : Addr} {b0 b1 : Int} {n : Nat} {os : List V} (k : K04E K H p0 x0 p1 x1 r0 r1 ol b0 b1 n os) (s : Same H H1) : K04E K H1 p0 x0 p1 x1 r0 r1 ol b0 b1 n os := by
  obtain ⟨a, b, c, d, e, f, k, l⟩ := k
  exact ⟨a, b, c, d, e, f, k.same s, l⟩
theorem K04E.frO {K : PySem.W.Frag} {H H1 : Hp} {p0 x0 p1 x1 r0 r1 ol : Addr} {b0 b1 : Int} {n : Nat} {os os1 : List V} (k : K04E K H p0 x0 p1 x1 r0 r1 ol b0 b1 n os) (f : Fr [ol] H H1) (lo : H1 ol = some (.lst os1)) (old : OldOk [x0, x1, r0, r1, ol] H1 os1) : K04E K H1 p0 x0 p1 x1 r0 r1 ol b0 b1 n os1 := by
  obtain ⟨a, b, c, d, e, g, k, l⟩ := k
  exact ⟨a, b, c, d, e, g, k.frO f lo old, l⟩
theorem K04E.o {K : PySem.W.Frag} {H : Hp} {p0 x0 p1 x1 r0 r1 ol : Addr} {b0 b1 : Int} {n : Nat} {os : List V} (k : K04E K H p0 x0 p1 x1 r0 r1 ol b0 b1 n os) : H ol = some (.lst os) ∧ OldOk [x0, x1, r0, r1, ol] H os ∧ Liv [x0, x1, r0, r1, ol] H := by
  obtain ⟨a, b, c, d, e, f, k, l⟩ := k
  exact ⟨k.lo, k.old, k.liv⟩
theorem K04E.sel {K : PySem.W.Frag} {H : Hp} {p0 x0 p1 x1 r0 r1 ol : Addr} {b0 b1 : Int} {n : Nat} {os : List V} (k : K04E K H p0 x0 p1 x1 r0 r1 ol b0 b1 n os) {j : Int} (j0 : 0 ≤ j) (j1 : j < 2) :
    ∃ p x r b ts rs ds, atI [V.ref p0, .ref p1] j = some (.ref p) ∧ atI [V.ref r0, .ref r1] j = some (.ref r) ∧ atI [V.int b0, .int b1] j = some (.int b) ∧ PR K [x0, x1, r0, r1, ol] H p x r ol b ts rs ds ∧ ts.length ≤ n ∧ x ≠ r ∧ x ∈ [x0, x1, r0, r1, ol] ∧ r ∈ [x0, x1, r0, r1, ol] ∧
      ∀ H1 ts' rs' ds', PR K [x0, x1, r0, r1, ol] H1 p x r ol b ts' rs' ds' → ts'.length ≤ n + 1 → (∃ Hm xz, Fr [x] H Hm ∧ Fr [r] Hm H1 ∧ Hm x = some (.lst xz)) → K04E K H1 p0 x0 p1 x1 r0 r1 ol b0 b1 (n + 1) os := by
  obtain ⟨ts0, rs0, ds0, ts1, rs1, ds1, k, l0, l1⟩ := k
  rcases (show j = 0 ∨ j = 1 by omega) with rfl | rfl
  · refine ⟨p0, x0, r0, b0, ts0, rs0, ds0, rfl, rfl, rfl, k.a, l0, k.n2, by simp, by simp, fun H1 ts' rs' ds' pr l ⟨Hm, xz, f1, f2, hx⟩ => ?_⟩
    have hrm : Hm r0 = some (.lst rs0) := f1 _ _ (by simpa using Ne.symm k.n2) k.a.hr
    have b2 := (k.b.other k.a.t.txt f1 (by simp) (Ne.symm k.n1) (Ne.symm k.n3)).other hrm f2 (by simp) k.n4 (Ne.symm k.n6)
    have fa : Fr [x0, x1, r0, r1, ol] H H1 := (f1.mono (by simp)).trans (f2.mono (by simp))
    have lo1 := f2 _ _ (by simpa using Ne.symm k.a.n2) (f1 _ _ (by simpa using Ne.symm k.a.n1) k.lo)
    exact ⟨ts', rs', ds', ts1, rs1, ds1, ⟨pr, b2, lo1, k.old.fr fa, k.n1, k.n2, k.n3, k.n4, k.n5, k.n6⟩, l, by omega⟩
  · refine ⟨p1, x1, r1, b1, ts1, rs1, ds1, rfl, rfl, rfl, k.b, l1, k.n5, by simp, by simp, fun H1 ts' rs' ds' pr l ⟨Hm, xz, f1, f2, hx⟩ => ?_⟩
    have hrm : Hm r1 = some (.lst rs1) := f1 _ _ (by simpa using Ne.symm k.n5) k.b.hr
    have a2 := (k.a.other k.b.t.txt f1 (by simp) k.n1 (Ne.symm k.n4)).other hrm f2 (by simp) k.n3 k.n6
    have fa : Fr [x0, x1, r0, r1, ol] H H1 := (f1.mono (by simp)).trans (f2.mono (by simp))
    have lo1 := f2 _ _ (by simpa using Ne.symm k.b.n2) (f1 _ _ (by simpa using Ne.symm k.b.n1) k.lo)
    exact ⟨ts0, rs0, ds0, ts', rs', ds', ⟨a2, pr, lo1, k.old.fr fa, k.n1, k.n2, k.n3, k.n4, k.n5, k.n6⟩, by omega, l⟩
def sp_law (K : PySem.W.Frag) : Sp := fun vs H Q E => ∃ (a : Addr) (ns : List Int), vs = [.ref a] ∧ SqL K H a (ns.map V.int) ∧ ∀ H', Q (.bl true) H'
theorem ok_law {P : Program} {w : World} {K : PySem.W.Frag} {mg : Str → Option Value} {base : Heap} {f0 : Addr} {fd : FuncData} (F : FunD K "law" "law" (defArgs s_law) (defBody s_law) (defScope s_law) [] [] f0 fd) (bl : Blt mg) (hPost : PostF K) (c_Post : KCal P w K mg base 1 "Post" (He.ga K "Post") (sp_Post_init K)) (m_Post_posted : MCal P w K mg base 1 (He.ga K "Post") "posted" (sp_Post_posted K)) (c__law_at : ∀ (a : Addr) (ns : List Int), Cal P w K mg base 1 "_law_at" (sp__law_at K a ns)) (c__law_due : Cal P w K mg base 1 "_law_due" (sp__law_due K)) (c__law_mixed : Cal P w K mg base 1 "_law_mixed" (sp__law_mixed K)) (c__law_said : Cal P w K mg base 3 "_law_said" (sp__law_said K)) (c__law_stands : Cal P w K mg base 4 "_law_stands" (sp__law_stands K)) (c__law_thing : Cal P w K mg base 1 "_law_thing" (sp__law_thing K)) (c__law_whole : Cal P w K mg base 1 "_law_whole" (sp__law_whole K)) : FnOk P w K mg base (L2N.CX P w) 5 f0 fd ["_law_script"] (sp_law K) := by
  refine fn_law F sc_law (fun vs H Q E => by walk_at "len") (fun f cdv A outer s H vs Q E hr h => ?_)
  have hu := hu_of hr
  obtain ⟨a, ns, rfl, hS, q⟩ := h
  refine ⟨_, (pss_cons (ps_setLc (i := 1) (own := [("_law_k", 11)]) rfl sc_law.nd rfl rfl (sw_true rfl rfl rfl (by decide +kernel)) (pi_range1 rfl (bl.range) (pa_cons pe_int pa_nil)) (blkOk_by (own := [("_law_k", 11)]) (N := N_law) (sc := defScope s_law) (by decide +kernel)) (fun _ _ _ _ _ =>  by exact (pg_name (i := 11) sc_law.nd rfl (Or.inl rfl))) (fun _ _ _ _ _ =>  by exact pts_nil) (fun _ _ _ _ _ =>  by exact (pe_op op_mod (pe_fn c__law_mixed (hr.mono (by decide)) tkB (pa_cons (pe_fn (c__law_at a ns) (hr.mono (by decide)) tkB (pa_cons (pv 0) (pa_cons (pv 11) pa_nil))) (pa_cons (pv 11) pa_nil))) (pe_pick (pa_cons pe_int (pa_cons pe_int pa_nil)) (pe_op op_mod (pe_op op_fdiv (pe_fn (c__law_at a ns) (hr.mono (by decide)) tkB (pa_cons (pv 0) (pa_cons (pv 11) pa_nil))) pe_int) pe_int) (fun _ _ => rfl)))))
  (pss_cons (ps_set (i := 2) sc_law.nd rfl (Or.inl rfl) (pe_lst (pa_cons (pe_mk c_Post (hr.mono (by decide)) (L2N.takes_of rfl rfl rfl rfl) (pa_cons (pe_ix ix_C (pv 1) pe_int (fun _ _ => rfl)) pa_nil)) (pa_cons (pe_mk c_Post (hr.mono (by decide)) (L2N.takes_of rfl rfl rfl rfl) (pa_cons (pe_ix ix_C (pv 1) pe_int (fun _ _ => rfl)) pa_nil)) pa_nil))))
  (pss_cons (ps_set (i := 3) sc_law.nd rfl (Or.inl rfl) (pe_lst (pa_cons (pe_lst pa_nil) (pa_cons (pe_lst pa_nil) pa_nil))))
  (pss_cons (ps_set (i := 4) sc_law.nd rfl (Or.inl rfl) (pe_lst pa_nil))
  (pss_cons (ps_for (passes_of rfl) rfl (pi_list (pe_slice sl_list (pv 0) (po_some pe_int) (po_some pe_int))) (pg_name (i := 5) sc_law.nd rfl (Or.inl rfl))
  (pss_cons (ps_set (i := 6) sc_law.nd rfl (Or.inl rfl) (pe_op op_mod (pe_op op_fdiv (pv 5) pe_int) pe_int))
  (pss_cons (ps_if (pt_cmpR op_eq (pe_op op_mod (pv 5) pe_int) pe_int (nomark _))
  (pss_cons (ps_set (i := 7) sc_law.nd rfl (Or.inl rfl) (pe_mth (pe_ix ix_C (pv 2) (pv 6) (fun _ _ => rfl)) m_Post_posted (hr.mono (by decide)) (L2N.takes_of rfl rfl rfl rfl) (pa_cons (pe_fn c__law_thing (hr.mono (by decide)) (L2N.takes_of rfl rfl rfl rfl) (pa_cons (pe_op op_fdiv (pv 5) pe_int) pa_nil)) pa_nil)))
  (pss_cons (ps_if (PW.pt (pw_or (pt_not (pt_val (pe_fn c__law_whole (hr.mono (by decide)) (L2N.takes_of rfl rfl rfl rfl) (pa_cons (pv 7) pa_nil)))) (pw_or1 (pt_cmpR op_ne (pv 7) (pe_callB call_lenC (by rfl) (bl.len) (by decide +kernel) (pa_cons (pe_ix ix_C (pv 3) (pv 6) (fun _ _ => rfl)) pa_nil)) (nomark _)))))
  (pss_one (ps_ret pe_bl))
  pss_nil)
  (pss_one (ps_expr (pe_app (pe_ix ix_C (pv 3) (pv 6) (fun _ _ => rfl)) (pe_fn c__law_thing (hr.mono (by decide)) (L2N.takes_of rfl rfl rfl rfl) (pa_cons (pe_op op_fdiv (pv 5) pe_int) pa_nil)))))))
  (pss_cons (ps_set (i := 8) sc_law.nd rfl (Or.inl rfl) (pe_ix ix_C (pv 1) (pv 6) (fun _ _ => rfl)))
  (pss_cons (ps_set (i := 9) sc_law.nd rfl (Or.inl rfl) (pe_op op_add (pe_op op_sub (pe_op op_sub (pe_callB call_lenC (by rfl) (bl.len) (by decide +kernel) (pa_cons (pe_ix ix_C (pv 3) (pv 6) (fun _ _ => rfl)) pa_nil)) pe_int) (pv 8)) (pe_op op_mod (pe_op op_fdiv (pv 5) pe_int) (pe_op op_add (pv 8) pe_int))))
  (pss_cons (ps_set (i := 10) sc_law.nd rfl (Or.inl rfl) (pe_tup (pa_cons pe_str (pa_cons pe_str pa_nil))))
  (pss_cons (ps_if (pt_cmpR op_inC (pv 9) (pe_fn c__law_due (hr.mono (by decide)) (L2N.takes_of rfl rfl rfl rfl) (pa_cons (pv 8) (pa_cons (pe_ix ix_C (pv 3) (pv 6) (fun _ _ => rfl)) pa_nil))) (by rfl))
  (pss_one (ps_set (i := 10) sc_law.nd rfl (Or.inl rfl) (pe_tup (pa_cons pe_str (pa_cons (pe_ix ix_C (pe_ix ix_C (pv 3) (pv 6) (fun _ _ => rfl)) (pv 9) (fun _ _ => rfl)) pa_nil)))))
  pss_nil)
  (pss_one (ps_if (pt_cmpR (op_neC hr.units) (pe_fn c__law_said (hr.mono (by decide)) (L2N.takes_of rfl rfl rfl rfl) (pa_cons (pe_ix ix_C (pv 2) (pv 6) (fun _ _ => rfl)) (pa_cons (pv 9) pa_nil))) (pv 10) (nomark _))
  (pss_one (ps_ret pe_bl))
  pss_nil)))))))
  (pss_one (ps_for (passes_of rfl) rfl (pi_range1 rfl (bl.range) (pa_cons pe_int pa_nil)) (pg_name (i := 11) sc_law.nd rfl (Or.inl rfl))
  (pss_one (ps_if (pt_not (pt_val (pe_fn c__law_stands (hr.mono (by decide)) (L2N.takes_of rfl rfl rfl rfl) (pa_cons (pe_ix ix_C (pv 2) (pv 11) (fun _ _ => rfl)) (pa_cons (pe_ix ix_C (pv 1) (pv 11) (fun _ _ => rfl)) (pa_cons (pe_ix ix_C (pv 3) (pv 11) (fun _ _ => rfl)) (pa_cons (pv 4) (pa_cons (pe_op op_mod (pe_op op_fdiv (pv 5) pe_int) pe_int) pa_nil))))))))
  (pss_one (ps_ret pe_bl))
  pss_nil)))))))
  (pss_cons (ps_set (i := 12) sc_law.nd rfl (Or.inl rfl) (pe_pick (pa_cons pe_non (pa_cons pe_bl (pa_cons pe_bl (pa_cons pe_str (pa_cons (pe_lst (pa_cons pe_int pa_nil)) (pa_cons (pe_tup (pa_cons pe_int pa_nil)) (pa_cons (pe_un un_neg pe_int) pa_nil))))))) (pe_op op_mod (pe_op op_fdiv (pe_fn (c__law_at a ns) (hr.mono (by decide)) (L2N.takes_of rfl rfl rfl rfl) (pa_cons (pv 0) (pa_cons pe_int pa_nil))) pe_int) pe_int) (fun _ _ => rfl)))
  (pss_cons (ps_if (pt_cmp (pc_neT hr.units (pe_fn c__law_said (hr.mono (by decide)) (L2N.takes_of rfl rfl rfl rfl) (pa_cons (pe_ix ix_C (pv 2) pe_int (fun _ _ => rfl)) (pa_cons (pv 12) pa_nil))) (pa_cons pe_str (pa_cons pe_str pa_nil))))
  (pss_one (ps_ret pe_bl))
  pss_nil)
  (pss_one (ps_ret (pe_cmpR (op_eqC hr.units) (pe_lc (own := [("_law_old", 13)]) rfl sc_law.nd (pi_list (pv 4)) (blkOk_by (own := [("_law_old", 13)]) (N := N_law) (sc := defScope s_law) (by decide +kernel)) (fun _ _ _ _ _ =>  by exact (pg_name (i := 13) sc_law.nd rfl (Or.inl rfl))) (fun _ _ _ _ _ =>  by exact (pts_one (pt_cmpR (op_neC hr.units) (pe_ix ix_C (pv 13) pe_int (fun _ _ => rfl)) (pe_ix ix_C (pv 13) pe_int (fun _ _ => rfl)) (nomark _)))) (fun _ _ _ _ _ =>  by exact (pv 13))) (pe_lst pa_nil) (nomark _))))))))))), ?_⟩
  walk_at "st0"
  refine seq_rel (fun σ1 H1 => ∃ bl b0 b1, σ1 = (start N_law [.ref a]).set 1 (some (.ref bl)) ∧ Same H H1 ∧ H1 bl = some (.lst [.int b0, .int b1]) ∧ 0 ≤ b0 ∧ b0 < 21 ∧ 0 ≤ b1 ∧ b1 < 21) (fun N_a h_a => ?_) ?_
  · simp only [RDa, RDx]
    refine rcut 0 2 (fun H1 => H = H1) (fun _ _ y => ∃ b : Int, y = .int b ∧ 0 ≤ b ∧ b < 21) keeps_pure ?_ (by decide) ?_ ?_
    · intro Z hZ
      simp only [RDa, RDb, RDv, RDk, RDx, RDe, RDd, RDp, RDq, List.getElem?_cons_zero, List.getElem?_cons_succ, List.set_cons_zero, List.set_cons_succ, List.cons.injEq, List.cons_ne_nil, reduceCtorEq, exists_eq_left', exists_eq_left, exists_and_left, and_assoc, exists_const, true_and, and_true, if_true, if_false, false_and, and_false, exists_false, false_or, or_false, true_implies, false_implies, implies_true, forall_eq, forall_eq', Bool.false_eq_true, if_neg, decide_eq_true_eq, Bool.not_eq_true', decide_eq_false_iff_not, Bool.not_true, Bool.not_false, List.length_cons, List.length_nil, sizeLine_eq, Nat.reduceAdd, Nat.reduceLeDiff, Nat.reduceLT, Int.reduceLT, Int.reduceLE, Int.emod_nonneg, ne_eq, Int.reduceEq, not_false_eq_true, not_true_eq_false]
      exact ⟨by decide, by decide, hZ H rfl⟩
    · rintro H1 H2 j Z rfl hj s2 hZ
      simp only [RDa, RDb, RDv, RDk, RDx, RDe, RDd, RDp, RDq, List.getElem?_cons_zero, List.getElem?_cons_succ, List.set_cons_zero, List.set_cons_succ, List.cons.injEq, List.cons_ne_nil, reduceCtorEq, exists_eq_left', exists_eq_left, exists_and_left, and_assoc, exists_const, true_and, and_true, if_true, if_false, false_and, and_false, exists_false, false_or, or_false, true_implies, false_implies, implies_true, forall_eq, forall_eq', Bool.false_eq_true, if_neg, decide_eq_true_eq, Bool.not_eq_true', decide_eq_false_iff_not, Bool.not_true, Bool.not_false, List.length_cons, List.length_nil, sizeLine_eq, Nat.reduceAdd, Nat.reduceLeDiff, Nat.reduceLT, Int.reduceLT, Int.reduceLE, Int.emod_nonneg, ne_eq, Int.reduceEq, not_false_eq_true, not_true_eq_false, sp__law_at, sp__law_mixed, s2.seq hS]
      have hj2 : 0 ≤ cell ns (0 + (j : Int)) / 64 % 2 ∧ cell ns (0 + (j : Int)) / 64 % 2 < 2 := by omega
      have hm0 := mixed_pos (cell ns (0 + (j : Int))) (0 + (j : Int))
      refine ⟨by omega, by omega, by omega, by omega, _, pickI2 hj2.1 hj2.2, _, rfl, by split <;> omega, hZ _ _ (Same.refl _) ⟨_, rfl, ?_⟩⟩
      split <;> omega
    · rintro H1 H3 D rs rfl nD s3 hD ar
      have e2 : List.range 2 = [0, 1] := rfl
      rw [e2] at ar
      cases ar with
      | cons h1 t =>
        cases t with
        | cons h2 t2 =>
          cases t2
          obtain ⟨b0, rfl, z1, z2⟩ := h1
          obtain ⟨b1, rfl, z3, z4⟩ := h2
          exact h_a _ _ ⟨D, b0, b1, rfl, s3, hD, z1, z2, z3, z4⟩
  rintro σ1 H1 ⟨bl', b0, b1, rfl, s1, hbl, hb0, hb0', hb1, hb1'⟩
  walk_at "st0"
  refine seq_gen fun N_b h_b => ?_
  simp only [RDa, RDb, RDv, RDk, RDx, RDe, RDd, RDp, RDq, List.getElem?_cons_zero, List.getElem?_cons_succ, List.set_cons_zero, List.set_cons_succ, List.cons.injEq, List.cons_ne_nil, reduceCtorEq, exists_eq_left', exists_eq_left, exists_and_left, and_assoc, exists_const, true_and, and_true, if_true, if_false, false_and, and_false, exists_false, false_or, or_false, true_implies, false_implies, implies_true, forall_eq, forall_eq', Bool.false_eq_true, if_neg, decide_eq_true_eq, Bool.not_eq_true', decide_eq_false_iff_not, Bool.not_true, Bool.not_false, List.length_cons, List.length_nil, sizeLine_eq, Nat.reduceAdd, Nat.reduceLeDiff, Nat.reduceLT, Int.reduceLT, Int.reduceLE, Int.emod_nonneg, ne_eq, Int.reduceEq, not_false_eq_true, not_true_eq_false, seqO_lst hbl]
  intro p0 dx0 np0 ndx0 nd0
  refine ⟨p0, dx0, b0, rfl, upd_same, fun x0 H2 nx0 f2 q0 => ⟨rfl, ?_⟩⟩
  have s2 := made_same np0 ndx0 f2
  have nx0 := made_free nx0
  simp only [RDa, RDb, RDv, RDk, RDx, RDe, RDd, RDp, RDq, List.getElem?_cons_zero, List.getElem?_cons_succ, List.set_cons_zero, List.set_cons_succ, List.cons.injEq, List.cons_ne_nil, reduceCtorEq, exists_eq_left', exists_eq_left, exists_and_left, and_assoc, exists_const, true_and, and_true, if_true, if_false, false_and, and_false, exists_false, false_or, or_false, true_implies, false_implies, implies_true, forall_eq, forall_eq', Bool.false_eq_true, if_neg, decide_eq_true_eq, Bool.not_eq_true', decide_eq_false_iff_not, Bool.not_true, Bool.not_false, List.length_cons, List.length_nil, sizeLine_eq, Nat.reduceAdd, Nat.reduceLeDiff, Nat.reduceLT, Int.reduceLT, Int.reduceLE, Int.emod_nonneg, ne_eq, Int.reduceEq, not_false_eq_true, not_true_eq_false, seqO_lst (s2 _ _ hbl)]
  intro p1 dx1 np1 ndx1 nd1
  refine ⟨p1, dx1, b1, rfl, upd_same, fun x1 H3 nx1 f3 q1 => ⟨rfl, ?_⟩⟩
  have s3 := made_same np1 ndx1 f3
  have nx1 := made_free nx1
  intro pl n_pl
  generalize e_H4 : upd H3 pl (.lst [.ref p0, .ref p1]) = H4
  have a_H4 : H4 pl = some (.lst [.ref p0, .ref p1]) := by rw [← e_H4]; exact upd_same
  have s_H4 : Same H3 H4 := by rw [← e_H4]; exact same_new n_pl
  refine h_b _ _ ?_
  clear h_b f2 f3
  refine seq_gen fun N_c h_c => ?_
  simp only [RDa, RDb, RDv, RDk, RDx, RDe, RDd, RDp, RDq, List.getElem?_cons_zero, List.getElem?_cons_succ, List.set_cons_zero, List.set_cons_succ, List.cons.injEq, List.cons_ne_nil, reduceCtorEq, exists_eq_left', exists_eq_left, exists_and_left, and_assoc, exists_const, true_and, and_true, if_true, if_false, false_and, and_false, exists_false, false_or, or_false, true_implies, false_implies, implies_true, forall_eq, forall_eq', Bool.false_eq_true, if_neg, decide_eq_true_eq, Bool.not_eq_true', decide_eq_false_iff_not, Bool.not_true, Bool.not_false, List.length_cons, List.length_nil, sizeLine_eq, Nat.reduceAdd, Nat.reduceLeDiff, Nat.reduceLT, Int.reduceLT, Int.reduceLE, Int.emod_nonneg, ne_eq, Int.reduceEq, not_false_eq_true, not_true_eq_false]
  intro r0 n_r0
  generalize e_H5 : upd H4 r0 (.lst []) = H5
  have a_H5 : H5 r0 = some (.lst []) := by rw [← e_H5]; exact upd_same
  have s_H5 : Same H4 H5 := by rw [← e_H5]; exact same_new n_r0
  intro r1 n_r1
  generalize e_H6 : upd H5 r1 (.lst []) = H6
  have a_H6 : H6 r1 = some (.lst []) := by rw [← e_H6]; exact upd_same
  have s_H6 : Same H5 H6 := by rw [← e_H6]; exact same_new n_r1
  intro rl n_rl
  generalize e_H7 : upd H6 rl (.lst [.ref r0, .ref r1]) = H7
  have a_H7 : H7 rl = some (.lst [.ref r0, .ref r1]) := by rw [← e_H7]; exact upd_same
  have s_H7 : Same H6 H7 := by rw [← e_H7]; exact same_new n_rl
  refine h_c _ _ ?_
  clear h_c
  refine seq_gen fun N_d h_d => ?_
  simp only [RDa, RDb, RDv, RDk, RDx, RDe, RDd, RDp, RDq, List.getElem?_cons_zero, List.getElem?_cons_succ, List.set_cons_zero, List.set_cons_succ, List.cons.injEq, List.cons_ne_nil, reduceCtorEq, exists_eq_left', exists_eq_left, exists_and_left, and_assoc, exists_const, true_and, and_true, if_true, if_false, false_and, and_false, exists_false, false_or, or_false, true_implies, false_implies, implies_true, forall_eq, forall_eq', Bool.false_eq_true, if_neg, decide_eq_true_eq, Bool.not_eq_true', decide_eq_false_iff_not, Bool.not_true, Bool.not_false, List.length_cons, List.length_nil, sizeLine_eq, Nat.reduceAdd, Nat.reduceLeDiff, Nat.reduceLT, Int.reduceLT, Int.reduceLE, Int.emod_nonneg, ne_eq, Int.reduceEq, not_false_eq_true, not_true_eq_false]
  intro ol n_ol
  generalize e_H8 : upd H7 ol (.lst []) = H8
  have a_H8 : H8 ol = some (.lst []) := by rw [← e_H8]; exact upd_same
  have s_H8 : Same H7 H8 := by rw [← e_H8]; exact same_new n_ol
  refine h_d _ _ ?_
  clear h_d
  have z3 : Same H3 H8 := ((s_H4.trans s_H5).trans s_H6).trans (s_H7.trans s_H8)
  have t0 := (q0.same s3).same z3
  have t1 := q1.same z3
  have hr0 := s_H8 _ _ (s_H7 _ _ (s_H6 _ _ a_H5))
  have hr1 := s_H8 _ _ (s_H7 _ _ a_H6)
  have hrl := s_H8 _ _ a_H7
  have hpl := s_H8 _ _ (s_H7 _ _ (s_H6 _ _ (s_H5 _ _ a_H4)))
  have hb8 : H8 bl' = some (.lst [.int b0, .int b1]) := z3 _ _ (s3 _ _ (s2 _ _ hbl))
  have hS8 : SqL K H8 a (ns.map V.int) := (((s1.trans s2).trans s3).trans z3).seq hS
  have k8 : K04E K H8 p0 x0 p1 x1 r0 r1 ol b0 b1 0 [] := by
    have e1 : x0 ≠ x1 := ne_of_none q0.txt nx1
    have e2 : x0 ≠ r0 := ne_of_none (s_H4 _ _ (s3 _ _ q0.txt)) n_r0
    have e3 : x0 ≠ r1 := ne_of_none (s_H5 _ _ (s_H4 _ _ (s3 _ _ q0.txt))) n_r1
    have e4 : x1 ≠ r0 := ne_of_none (s_H4 _ _ q1.txt) n_r0
    have e5 : x1 ≠ r1 := ne_of_none (s_H5 _ _ (s_H4 _ _ q1.txt)) n_r1
    have e6 : r0 ≠ r1 := ne_of_none a_H5 n_r1
    have e7 : x0 ≠ ol := ne_of_none (s_H7 _ _ (s_H6 _ _ (s_H5 _ _ (s_H4 _ _ (s3 _ _ q0.txt))))) n_ol
    have e8 : x1 ≠ ol := ne_of_none (s_H7 _ _ (s_H6 _ _ (s_H5 _ _ (s_H4 _ _ q1.txt)))) n_ol
    have e9 : r0 ≠ ol := ne_of_none (s_H7 _ _ (s_H6 _ _ a_H5)) n_ol
    have e10 : r1 ≠ ol := ne_of_none (s_H7 _ _ a_H6) n_ol
    exact ⟨[], [], [], [], [], [], ⟨⟨t0, hr0, rfl, rfl, by simp, e7, e9, hb0, by omega, by simp⟩, ⟨t1, hr1, rfl, rfl, by simp, e8, e10, hb1, by omega, by simp⟩, a_H8, fun _ h => (by cases h), e1, e2, e3, e4, e5, e6⟩, by simp, by simp⟩
  have nfr : ∀ c o, H4 c = some o → c ≠ x0 → c ≠ x1 → c ∉ [x0, x1, r0, r1, ol] := by
    intro c o e c0 c1 hc
    simp only [List.mem_cons, List.not_mem_nil, or_false] at hc
    rcases hc with h | h | h | h | h
    · exact c0 h
    · exact c1 h
    · exact ne_of_none e n_r0 h
    · exact ne_of_none (s_H5 _ _ e) n_r1 h
    · exact ne_of_none (s_H7 _ _ (s_H6 _ _ (s_H5 _ _ e))) n_ol h
  have plA : pl ∉ [x0, x1, r0, r1, ol] := nfr pl _ a_H4 (Ne.symm (ne_of_none (s3 _ _ q0.txt) n_pl)) (Ne.symm (ne_of_none q1.txt n_pl))
  have blA : bl' ∉ [x0, x1, r0, r1, ol] := nfr bl' _ (s_H4 _ _ (s3 _ _ (s2 _ _ hbl))) (ne_of_none hbl nx0) (ne_of_none (s2 _ _ hbl) nx1)
  have rlA : rl ∉ [x0, x1, r0, r1, ol] := by
    intro hc
    simp only [List.mem_cons, List.not_mem_nil, or_false] at hc
    rcases hc with h | h | h | h | h
    · exact ne_of_none (s_H6 _ _ (s_H5 _ _ (s_H4 _ _ (s3 _ _ q0.txt)))) n_rl h.symm
    · exact ne_of_none (s_H6 _ _ (s_H5 _ _ (s_H4 _ _ q1.txt))) n_rl h.symm
    · exact ne_of_none (s_H6 _ _ a_H5) n_rl h.symm
    · exact ne_of_none a_H6 n_rl h.symm
    · exact ne_of_none a_H7 n_ol h
  have nH : ∀ c o, H c = some o → c ∉ [x0, x1, r0, r1, ol] := fun c o e => nfr c o (s_H4 _ _ (s3 _ _ (s2 _ _ (s1 _ _ e)))) (ne_of_none (s1 _ _ e) nx0) (ne_of_none (s2 _ _ (s1 _ _ e)) nx1)
  have s08 : Same H H8 := ((s1.trans s2).trans s3).trans z3
  clear n_r0 n_r1 n_rl n_ol n_pl
  refine seq_gen fun N_e h_e => ?_
  have hlen : (cutV (ns.map V.int) (some 2) (some 42)).length ≤ 40 := by
    have z : ∀ {xs : List V}, (cutV xs (some 2) (some 42)).length ≤ 40 := fun {xs} => by
      have e2 : (2 : Int) = ((2 : Nat) : Int) := rfl
      have e42 : (42 : Int) = ((42 : Nat) : Int) := rfl
      unfold cutV
      rw [List.length_take, List.length_drop, e2, e42, HT.sIx_nat, HT.sIx_nat]
      omega
    exact z
  refine for_lcut (fun la H9 => Same H8 H9 ∧ H8 la = none ∧ H9 la = some (.lst (cutV (ns.map V.int) (some 2) (some 42)))) (cutV (ns.map V.int) (some 2) (some 42)) (fun Z hZ => ?_)
    (fun la i σ H' => (∃ u5 u6 u7 u8 u9 u10 u11 u12 u13, σ = [some (.ref a), some (.ref bl'), some (.ref pl), some (.ref rl), some (.ref ol), u5, u6, u7, u8, u9, u10, u11, u12, u13]) ∧ H8 la = none ∧ H' la = some (.lst (cutV (ns.map V.int) (some 2) (some 42))) ∧
      H' bl' = some (.lst [.int b0, .int b1]) ∧ H' pl = some (.lst [.ref p0, .ref p1]) ∧ H' rl = some (.lst [.ref r0, .ref r1]) ∧ Fr [x0, x1, r0, r1, ol] H8 H' ∧ ∃ os, K04E K H' p0 x0 p1 x1 r0 r1 ol b0 b1 i os ∧ os.length ≤ 4 * i) ?_ ?_ ?_ ?_
  · simp only [RDa, RDb, RDv, RDk, RDx, RDe, RDd, RDp, RDq, List.getElem?_cons_zero, List.getElem?_cons_succ, List.set_cons_zero, List.set_cons_succ, List.cons.injEq, List.cons_ne_nil, reduceCtorEq, exists_eq_left', exists_eq_left, exists_and_left, and_assoc, exists_const, true_and, and_true, if_true, if_false, false_and, and_false, exists_false, false_or, or_false, true_implies, false_implies, implies_true, forall_eq, forall_eq', Bool.false_eq_true, if_neg, decide_eq_true_eq, Bool.not_eq_true', decide_eq_false_iff_not, Bool.not_true, Bool.not_false, List.length_cons, List.length_nil, sizeLine_eq, Nat.reduceAdd, Nat.reduceLeDiff, Nat.reduceLT, Int.reduceLT, Int.reduceLE, Int.emod_nonneg, ne_eq, Int.reduceEq, not_false_eq_true, not_true_eq_false, hS8]
    exact ⟨_, hS8, fun l nl => hZ _ _ ⟨same_new nl, nl, upd_same⟩⟩
  · rintro la H9 ⟨s9, n9, h9⟩
    exact ⟨SqL.of h9, ⟨_, _, _, _, _, _, _, _, _, rfl⟩, n9, h9, s9 _ _ hb8, s9 _ _ hpl, s9 _ _ hrl, .of s9, [], k8.same s9, by simp⟩
  · rintro la i σ H9 _ ⟨_, _, h9, _⟩
    exact SqL.of h9
  · rintro la i x σ H9 hx ⟨⟨u5, u6, u7, u8, u9, u10, u11, u12, u13, rfl⟩, n9, h9, hb9, hp9, hr9, f9, os, k9, lo9⟩
    have hi : i < 40 := by
      have := (List.getElem?_eq_some_iff.mp hx).1
      omega
    have laA : la ∉ [x0, x1, r0, r1, ol] := fun m => k8.o.2.2 la m n9
    obtain ⟨c, rfl⟩ := cut_int hx
    refine seq_gen fun N_f h_f => ?_
    simp only [RDa, RDb, RDv, RDk, RDx, RDe, RDd, RDp, RDq, List.getElem?_cons_zero, List.getElem?_cons_succ, List.set_cons_zero, List.set_cons_succ, List.cons.injEq, List.cons_ne_nil, reduceCtorEq, exists_eq_left', exists_eq_left, exists_and_left, and_assoc, exists_const, true_and, and_true, if_true, if_false, false_and, and_false, exists_false, false_or, or_false, true_implies, false_implies, implies_true, forall_eq, forall_eq', Bool.false_eq_true, if_neg, decide_eq_true_eq, Bool.not_eq_true', decide_eq_false_iff_not, Bool.not_true, Bool.not_false, List.length_cons, List.length_nil, sizeLine_eq, Nat.reduceAdd, Nat.reduceLeDiff, Nat.reduceLT, Int.reduceLT, Int.reduceLE, Int.emod_nonneg, ne_eq, Int.reduceEq, not_false_eq_true, not_true_eq_false]
    refine h_f _ _ ?_
    clear h_f
    have hw := md_rng (c / 2) (show (0 : Int) < 2 by decide)
    generalize c / 2 % 2 = wh at hw
    obtain ⟨p, x, r, b, ts, rs, ds, ip, ir, ib, pr, lts, xr, xA, rA, upk⟩ := k9.sel hw.1 hw.2
    have kb0 := pr.b0
    have kb1 := pr.b1
    have kl := pr.len
    refine seq_rel (fun σ1 H1 => (∃ u7 u8 u9 u10, σ1 = [some (.ref a), some (.ref bl'), some (.ref pl), some (.ref rl), some (.ref ol), some (.int c), some (.int wh), u7, u8, u9, u10, u11, u12, u13]) ∧ Fr [x0, x1, r0, r1, ol] H9 H1 ∧ K04E K H1 p0 x0 p1 x1 r0 r1 ol b0 b1 (i + 1) os) (fun N_g h_g => ?_) ?_
    · have hA9 := k9.o.2.2
      have xr' : r ≠ x := Ne.symm xr
      have rlx : rl ≠ x := fun e => rlA (by rw [e]; exact xA)
      have rlr : rl ≠ r := fun e => rlA (by rw [e]; exact rA)
      obtain ⟨dx, ep⟩ := pr.t.ins
      have npx : p ≠ x := pr.t.ne
      have npr : p ≠ r := ne_of_obj ep pr.hr (by simp)
      simp only [RDa, RDb, RDv, RDk, RDx, RDe, RDd, RDp, RDq, List.getElem?_cons_zero, List.getElem?_cons_succ, List.set_cons_zero, List.set_cons_succ, List.cons.injEq, List.cons_ne_nil, reduceCtorEq, exists_eq_left', exists_eq_left, exists_and_left, and_assoc, exists_const, true_and, and_true, if_true, if_false, false_and, and_false, exists_false, false_or, or_false, true_implies, false_implies, implies_true, forall_eq, forall_eq', Bool.false_eq_true, if_neg, decide_eq_true_eq, Bool.not_eq_true', decide_eq_false_iff_not, Bool.not_true, Bool.not_false, List.length_cons, List.length_nil, sizeLine_eq, Nat.reduceAdd, Nat.reduceLeDiff, Nat.reduceLT, Int.reduceLT, Int.reduceLE, Int.emod_nonneg, ne_eq, Int.reduceEq, not_false_eq_true, not_true_eq_false, seqO_lst hp9, ip, seqO_lst hb9, ib]
      by_cases c0 : c % 2 = 0
      · rw [if_pos c0]
        refine ⟨_, _, ep, rfl, c / 4, rfl, fun v H11 s11 dv => ?_⟩
        refine ⟨p, x, b, ts, v, rfl, pr.t.same s11, by omega, fun H12 f12 t12 => ?_⟩
        have f912 : Fr [x] H9 H12 := (Fr.of s11).trans f12
        have hr12 := f912 _ _ (by simpa using rlx) hr9
        have r12 := f912 _ _ (by simpa using xr') pr.hr
        have wl : ∀ Hh, Kn Hh (.int (ts.length : Int)) := fun _ => rfl
        have sc : ∀ a b : Int, scal (.int a) (.int b) = true := fun _ _ => rfl
        simp only [RDa, RDb, RDv, RDk, RDx, RDe, RDd, RDp, RDq, List.getElem?_cons_zero, List.getElem?_cons_succ, List.set_cons_zero, List.set_cons_succ, List.cons.injEq, List.cons_ne_nil, reduceCtorEq, exists_eq_left', exists_eq_left, exists_and_left, and_assoc, exists_const, true_and, and_true, if_true, if_false, false_and, and_false, exists_false, false_or, or_false, true_implies, false_implies, implies_true, forall_eq, forall_eq', Bool.false_eq_true, if_neg, decide_eq_true_eq, Bool.not_eq_true', decide_eq_false_iff_not, Bool.not_true, Bool.not_false, List.length_cons, List.length_nil, sizeLine_eq, Nat.reduceAdd, Nat.reduceLeDiff, Nat.reduceLT, Int.reduceLT, Int.reduceLE, Int.emod_nonneg, ne_eq, Int.reduceEq, not_false_eq_true, not_true_eq_false, sp__law_whole, wl, wholeV, seqO_lst hr12, ir, lenO_lst r12, kl, sc, r12]
        refine ⟨c / 4, rfl, fun v2 H13 s13 dv2 => ?_⟩
        have r13 := s13 _ _ r12
        simp only [RDa, RDb, RDv, RDk, RDx, RDe, RDd, RDp, RDq, List.getElem?_cons_zero, List.getElem?_cons_succ, List.set_cons_zero, List.set_cons_succ, List.cons.injEq, List.cons_ne_nil, reduceCtorEq, exists_eq_left', exists_eq_left, exists_and_left, and_assoc, exists_const, true_and, and_true, if_true, if_false, false_and, and_false, exists_false, false_or, or_false, true_implies, false_implies, implies_true, forall_eq, forall_eq', Bool.false_eq_true, if_neg, decide_eq_true_eq, Bool.not_eq_true', decide_eq_false_iff_not, Bool.not_true, Bool.not_false, List.length_cons, List.length_nil, sizeLine_eq, Nat.reduceAdd, Nat.reduceLeDiff, Nat.reduceLT, Int.reduceLT, Int.reduceLE, Int.emod_nonneg, ne_eq, Int.reduceEq, not_false_eq_true, not_true_eq_false, r13]
        refine ⟨by omega, h_g _ _ ⟨⟨_, _, _, _, rfl⟩, ?_, ?_⟩⟩
        · exact ((f912.mono (by simpa using xA)).trans (.of s13)).upd rA
        · have f1214 : Fr [r] H12 (upd H13 r (.lst (rs ++ [v2]))) := (Fr.of s13).upd (by simp)
          generalize eH : upd H13 r (.lst (rs ++ [v2])) = H14 at f1214
          have fA : Fr [x0, x1, r0, r1, ol] H9 H14 := (f912.mono (by simpa using xA)).trans (f1214.mono (by simpa using rA))
          have fA2 : Fr [x0, x1, r0, r1, ol] H11 H14 := (f12.mono (by simpa using xA)).trans (f1214.mono (by simpa using rA))
          have fA3 : Fr [x0, x1, r0, r1, ol] H13 H14 := by rw [← eH]; exact (Fr.refl _ _).upd rA
          have hA12 : Liv [x0, x1, r0, r1, ol] H12 := fun c hc => by
            by_cases e : c = x
            · rw [e, t12.txt]; simp
            · cases e2 : H9 c with
              | none => exact absurd e2 (hA9 c hc)
              | some o => rw [f912 _ _ (by simpa using e) e2]; simp
          have one : ∀ {f : V → Option PyData} {v : V} {d : PyData}, f v = some d → mapO f [v] = some [d] := fun {f v d} e => by
            unfold mapO mapO
            rw [e]
          refine upk H14 (ts ++ [v]) (rs ++ [v2]) (ds ++ [thingD (c / 4)]) ⟨t12.fr f1214 (by simpa using npr) (by simpa using xr), by rw [← eH]; exact upd_same, ?_, ?_, ?_, pr.n1, pr.n2, kb0, kb1, ?_⟩ ?_ ⟨H12, ts ++ [v], f912, f1214, t12.txt⟩
          · exact mapO_append (mapO_same (dat_same (hm_fr fA) 6) _ _ pr.dt) (one (dat_same (hm_fr fA2) _ _ _ (dv _ hA9)))
          · exact mapO_append (mapO_same (dat_same (hm_fr fA) 6) _ _ pr.dr) (one (dat_same (hm_fr fA3) _ _ _ (dv2 _ hA12)))
          · intro d hd
            rcases List.mem_append.mp hd with h | h
            · exact pr.sh d h
            · rw [List.mem_singleton.mp h]; exact thing_shp _
          · rw [List.length_append, List.length_singleton]; omega
          · rw [List.length_append, List.length_singleton]; omega
      · rw [if_neg c0]
        have so : PyData.strOk "told" = true ∧ PyData.strOk "refused" = true ∧ PyData.strOk "letter" = true := by decide +kernel
        simp only [RDa, RDb, RDv, RDk, RDx, RDe, RDd, RDp, RDq, List.getElem?_cons_zero, List.getElem?_cons_succ, List.set_cons_zero, List.set_cons_succ, List.cons.injEq, List.cons_ne_nil, reduceCtorEq, exists_eq_left', exists_eq_left, exists_and_left, and_assoc, exists_const, true_and, and_true, if_true, if_false, false_and, and_false, exists_false, false_or, or_false, true_implies, false_implies, implies_true, forall_eq, forall_eq', Bool.false_eq_true, if_neg, decide_eq_true_eq, Bool.not_eq_true', decide_eq_false_iff_not, Bool.not_true, Bool.not_false, List.length_cons, List.length_nil, sizeLine_eq, Nat.reduceAdd, Nat.reduceLeDiff, Nat.reduceLT, Int.reduceLT, Int.reduceLE, Int.emod_nonneg, ne_eq, Int.reduceEq, not_false_eq_true, not_true_eq_false, seqO_lst hr9, ir, lenO_lst pr.hr]
        refine ⟨by omega, ?_⟩
        intro tu n_tu
        generalize e_HA : upd H9 tu (.tup [.str "refused", .str "letter"]) = HA
        have a_HA : HA tu = some (.tup [.str "refused", .str "letter"]) := by rw [← e_HA]; exact upd_same
        have s_HA : Same H9 HA := by rw [← e_HA]; exact same_new n_tu
        generalize enu : (rs.length : Int) - 2 - b + c / 4 % (b + 4) = nu
        simp only [RDa, RDb, RDv, RDk, RDx, RDe, RDd, RDp, RDq, List.getElem?_cons_zero, List.getElem?_cons_succ, List.set_cons_zero, List.set_cons_succ, List.cons.injEq, List.cons_ne_nil, reduceCtorEq, exists_eq_left', exists_eq_left, exists_and_left, and_assoc, exists_const, true_and, and_true, if_true, if_false, false_and, and_false, exists_false, false_or, or_false, true_implies, false_implies, implies_true, forall_eq, forall_eq', Bool.false_eq_true, if_neg, decide_eq_true_eq, Bool.not_eq_true', decide_eq_false_iff_not, Bool.not_true, Bool.not_false, List.length_cons, List.length_nil, sizeLine_eq, Nat.reduceAdd, Nat.reduceLeDiff, Nat.reduceLT, Int.reduceLT, Int.reduceLE, Int.emod_nonneg, ne_eq, Int.reduceEq, not_false_eq_true, not_true_eq_false, seqO_lst (s_HA _ _ hr9), ir]
        refine ⟨b, r, rs, rfl, s_HA _ _ pr.hr, by omega, fun D HB nD sB hD => ?_⟩
        have hlo : mx2 0 ((ts.length : Int) - 1 - b) ≤ (ts.length : Int) := by unfold mx2; split <;> omega
        have fl : ∀ n, flatV (.int n) = true := fun _ => rfl
        rw [due_eq kb0, kl] at hD
        have sAB := s_HA.trans sB
        have prB := pr.same sAB
        have fin : ∀ H1 u10, Same H9 H1 → N_g [some (.ref a), some (.ref bl'), some (.ref pl), some (.ref rl), some (.ref ol), some (.int c), some (.int wh), u7, some (.int b), some (.int nu), u10, u11, u12, u13] H1 := fun H1 u10 s => h_g _ _ ⟨⟨_, _, _, _, rfl⟩, .of s, by
          obtain ⟨w1, w2, w3, w4, w5, w6, w7, w8, w9⟩ := k9.same s
          exact ⟨w1, w2, w3, w4, w5, w6, w7, by omega, by omega⟩⟩
        simp only [RDa, RDb, RDv, RDk, RDx, RDe, RDd, RDp, RDq, List.getElem?_cons_zero, List.getElem?_cons_succ, List.set_cons_zero, List.set_cons_succ, List.cons.injEq, List.cons_ne_nil, reduceCtorEq, exists_eq_left', exists_eq_left, exists_and_left, and_assoc, exists_const, true_and, and_true, if_true, if_false, false_and, and_false, exists_false, false_or, or_false, true_implies, false_implies, implies_true, forall_eq, forall_eq', Bool.false_eq_true, if_neg, decide_eq_true_eq, Bool.not_eq_true', decide_eq_false_iff_not, Bool.not_true, Bool.not_false, List.length_cons, List.length_nil, sizeLine_eq, Nat.reduceAdd, Nat.reduceLeDiff, Nat.reduceLT, Int.reduceLT, Int.reduceLE, Int.emod_nonneg, ne_eq, Int.reduceEq, not_false_eq_true, not_true_eq_false, seqO_lst hD, fl, flat_rg, inV_rg nu _ _ hlo]
        by_cases hin : mx2 0 ((ts.length : Int) - 1 - b) ≤ nu ∧ nu < (ts.length : Int)
        · rw [if_pos hin]
          have k0 : 0 ≤ nu := by
            have h0 : 0 ≤ mx2 0 ((ts.length : Int) - 1 - b) := by unfold mx2; split <;> omega
            omega
          obtain ⟨v', ev'⟩ : ∃ v', rs[nu.toNat]? = some v' := ⟨_, List.getElem?_eq_getElem (by omega)⟩
          obtain ⟨v, ev⟩ : ∃ v, ts[nu.toNat]? = some v := ⟨_, List.getElem?_eq_getElem (by omega)⟩
          have at1 := atI_nat ev
          have at2 := atI_nat ev'
          rw [show ((nu.toNat : Nat) : Int) = nu by omega] at at1 at2
          obtain ⟨d, hd1, hd2⟩ := mapO_get prB.dt ev
          obtain ⟨d', hd1', hd2'⟩ := mapO_get prB.dr ev'
          have edd : d' = d := by rw [hd1] at hd1'; exact (Option.some.inj hd1').symm
          subst edd
          have shd := prB.sh d' (List.mem_of_getElem? hd1)
          simp only [RDa, RDb, RDv, RDk, RDx, RDe, RDd, RDp, RDq, List.getElem?_cons_zero, List.getElem?_cons_succ, List.set_cons_zero, List.set_cons_succ, List.cons.injEq, List.cons_ne_nil, reduceCtorEq, exists_eq_left', exists_eq_left, exists_and_left, and_assoc, exists_const, true_and, and_true, if_true, if_false, false_and, and_false, exists_false, false_or, or_false, true_implies, false_implies, implies_true, forall_eq, forall_eq', Bool.false_eq_true, if_neg, decide_eq_true_eq, Bool.not_eq_true', decide_eq_false_iff_not, Bool.not_true, Bool.not_false, List.length_cons, List.length_nil, sizeLine_eq, Nat.reduceAdd, Nat.reduceLeDiff, Nat.reduceLT, Int.reduceLT, Int.reduceLE, Int.emod_nonneg, ne_eq, Int.reduceEq, not_false_eq_true, not_true_eq_false, seqO_lst (sAB _ _ hr9), ir, seqO_lst prB.hr, at2]
          intro tv n_tv
          generalize e_HC : upd HB tv (.tup [.str "told", v']) = HC
          have a_HC : HC tv = some (.tup [.str "told", v']) := by rw [← e_HC]; exact upd_same
          have s_HC : Same HB HC := by rw [← e_HC]; exact same_new n_tv
          have sAC := sAB.trans s_HC
          simp only [RDa, RDb, RDv, RDk, RDx, RDe, RDd, RDp, RDq, List.getElem?_cons_zero, List.getElem?_cons_succ, List.set_cons_zero, List.set_cons_succ, List.cons.injEq, List.cons_ne_nil, reduceCtorEq, exists_eq_left', exists_eq_left, exists_and_left, and_assoc, exists_const, true_and, and_true, if_true, if_false, false_and, and_false, exists_false, false_or, or_false, true_implies, false_implies, implies_true, forall_eq, forall_eq', Bool.false_eq_true, if_neg, decide_eq_true_eq, Bool.not_eq_true', decide_eq_false_iff_not, Bool.not_true, Bool.not_false, List.length_cons, List.length_nil, sizeLine_eq, Nat.reduceAdd, Nat.reduceLeDiff, Nat.reduceLT, Int.reduceLT, Int.reduceLE, Int.emod_nonneg, ne_eq, Int.reduceEq, not_false_eq_true, not_true_eq_false, seqO_lst (sAC _ _ hp9), ip]
          refine ⟨p, x, b, ts, _, rfl, (pr.same sAC).t, kb0, by omega, by omega, rfl, ?_, ?_⟩
          · rintro k2 v2 q' H5 e h1 h2 h3 s5 nq hq
            cases e
            rw [at1] at h3
            cases h3
            have e6 : dat H5 7 v = some d' := dat_up _ _ _ (dat_same (s_HC.trans s5) _ _ _ (dat_same hm_same _ _ _ hd2))
            have e7 : dat H5 7 v' = some d' := dat_up _ _ _ (dat_same (s_HC.trans s5) _ _ _ (dat_same hm_same _ _ _ hd2'))
            have e8 : dat H5 8 (.ref q') = some (.tuple [.str "told", d']) := by
              rw [dat_tup hq 7]
              unfold mapO mapO mapO
              rw [(datE H5).2.2.2.1, e6]
              rfl
            have e9 : dat H5 8 (.ref tv) = some (.tuple [.str "told", d']) := by
              rw [dat_tup (s5 _ _ a_HC) 7]
              unfold mapO mapO mapO
              rw [(datE H5).2.2.2.1, e7]
              rfl
            have sh : Shp 2 (.tuple [.str "told", d']) := shp_tuple fun z hz => by
              rcases List.mem_cons.mp hz with h | h
              · rw [h]; exact (shp_s 1).2.2.2 _ so.1
              · rw [List.mem_singleton.mp h]; exact shd
            have sh2 := (sh.mono (show 2 ≤ 64 by decide)).ok
            simp only [RDa, RDb, RDv, RDk, RDx, RDe, RDd, RDp, RDq, List.getElem?_cons_zero, List.getElem?_cons_succ, List.set_cons_zero, List.set_cons_succ, List.cons.injEq, List.cons_ne_nil, reduceCtorEq, exists_eq_left', exists_eq_left, exists_and_left, and_assoc, exists_const, true_and, and_true, if_true, if_false, false_and, and_false, exists_false, false_or, or_false, true_implies, false_implies, implies_true, forall_eq, forall_eq', Bool.false_eq_true, if_neg, decide_eq_true_eq, Bool.not_eq_true', decide_eq_false_iff_not, Bool.not_true, Bool.not_false, List.length_cons, List.length_nil, sizeLine_eq, Nat.reduceAdd, Nat.reduceLeDiff, Nat.reduceLT, Int.reduceLT, Int.reduceLE, Int.emod_nonneg, ne_eq, Int.reduceEq, not_false_eq_true, not_true_eq_false, e8, e9, sh2, eqv_self sh.lay]
            exact fin _ _ (sAC.trans s5)
          · intro ha
            have z : amongV (V.int nu) (mx2 0 ((ts.length : Int) - 1 - b)) ((ts.length : Int) - 1) = true := by
              simp only [amongV, Bool.and_eq_true, decide_eq_true_eq]
              omega
            rw [z] at ha
            cases ha
        · rw [if_neg hin]
          simp only [RDa, RDb, RDv, RDk, RDx, RDe, RDd, RDp, RDq, List.getElem?_cons_zero, List.getElem?_cons_succ, List.set_cons_zero, List.set_cons_succ, List.cons.injEq, List.cons_ne_nil, reduceCtorEq, exists_eq_left', exists_eq_left, exists_and_left, and_assoc, exists_const, true_and, and_true, if_true, if_false, false_and, and_false, exists_false, false_or, or_false, true_implies, false_implies, implies_true, forall_eq, forall_eq', Bool.false_eq_true, if_neg, decide_eq_true_eq, Bool.not_eq_true', decide_eq_false_iff_not, Bool.not_true, Bool.not_false, List.length_cons, List.length_nil, sizeLine_eq, Nat.reduceAdd, Nat.reduceLeDiff, Nat.reduceLT, Int.reduceLT, Int.reduceLE, Int.emod_nonneg, ne_eq, Int.reduceEq, not_false_eq_true, not_true_eq_false, seqO_lst (sAB _ _ hp9), ip]
          refine ⟨p, x, b, ts, _, rfl, prB.t, kb0, by omega, by omega, rfl, ?_, ?_⟩
          · rintro k2 v2 q' H5 e h1 h2 h3 s5 nq hq
            cases e
            exact absurd ⟨h1, h2⟩ hin
          · intro ha q' H5 s5 nq hq
            have sh : SeqAt.shaped (.tuple [.str "refused", .str "letter"]) = true := by decide +kernel
            simp only [RDa, RDb, RDv, RDk, RDx, RDe, RDd, RDp, RDq, List.getElem?_cons_zero, List.getElem?_cons_succ, List.set_cons_zero, List.set_cons_succ, List.cons.injEq, List.cons_ne_nil, reduceCtorEq, exists_eq_left', exists_eq_left, exists_and_left, and_assoc, exists_const, true_and, and_true, if_true, if_false, false_and, and_false, exists_false, false_or, or_false, true_implies, false_implies, implies_true, forall_eq, forall_eq', Bool.false_eq_true, if_neg, decide_eq_true_eq, Bool.not_eq_true', decide_eq_false_iff_not, Bool.not_true, Bool.not_false, List.length_cons, List.length_nil, sizeLine_eq, Nat.reduceAdd, Nat.reduceLeDiff, Nat.reduceLT, Int.reduceLT, Int.reduceLE, Int.emod_nonneg, ne_eq, Int.reduceEq, not_false_eq_true, not_true_eq_false, dat_tup hq, dat_tup (s5 _ _ (sB _ _ a_HA)), sh, eqv_self, PyData.canLay0, PyData.canLayAll0, Bool.and_self, so]
            exact fin _ _ (sAB.trans s5)
    rintro σ1 H10 ⟨⟨u7, u8, u9, u10, rfl⟩, f10, k10⟩
    have k8p : ∀ c ∈ [bl', pl, rl], c ∉ [x0, x1, r0, r1, ol] := fun c hc => by
      simp only [List.mem_cons, List.not_mem_nil, or_false] at hc
      rcases hc with rfl | rfl | rfl
      · exact blA
      · exact plA
      · exact rlA
    refine for_rcut 0 2 (fun H1 => H10 = H1) ?_ (fun m σ H1 => (∃ u11, σ = [some (.ref a), some (.ref bl'), some (.ref pl), some (.ref rl), some (.ref ol), some (.int c), some (.int wh), u7, u8, u9, u10, u11, u12, u13]) ∧ Fr [x0, x1, r0, r1, ol] H9 H1 ∧ ∃ os', K04E K H1 p0 x0 p1 x1 r0 r1 ol b0 b1 (i + 1) os' ∧ os'.length ≤ 4 * i + 2 * m) ?_ ?_ ?_
    · intro Z hZ
      simp only [RDa, RDb, RDv, RDk, RDx, RDe, RDd, RDp, RDq, List.getElem?_cons_zero, List.getElem?_cons_succ, List.set_cons_zero, List.set_cons_succ, List.cons.injEq, List.cons_ne_nil, reduceCtorEq, exists_eq_left', exists_eq_left, exists_and_left, and_assoc, exists_const, true_and, and_true, if_true, if_false, false_and, and_false, exists_false, false_or, or_false, true_implies, false_implies, implies_true, forall_eq, forall_eq', Bool.false_eq_true, if_neg, decide_eq_true_eq, Bool.not_eq_true', decide_eq_false_iff_not, Bool.not_true, Bool.not_false, List.length_cons, List.length_nil, sizeLine_eq, Nat.reduceAdd, Nat.reduceLeDiff, Nat.reduceLT, Int.reduceLT, Int.reduceLE, Int.emod_nonneg, ne_eq, Int.reduceEq, not_false_eq_true, not_true_eq_false]
      exact ⟨by decide, by decide, hZ _ rfl⟩
    · rintro H1 rfl
      exact ⟨⟨_, rfl⟩, f10, os, k10, by omega⟩
    · rintro m σ H1 hm2 ⟨⟨u11', rfl⟩, f1, os', k1, lo1⟩
      obtain ⟨p, x, r, b, ts, rs, ds, ip, ir, ib, pr, lts, xr, xA, rA, -⟩ := k1.sel (j := (0 + (m : Int))) (by omega) (by omega)
      have hb1 := f1 _ _ blA hb9
      have hp1 := f1 _ _ plA hp9
      have hr1 := f1 _ _ rlA hr9
      simp only [RDa, RDb, RDv, RDk, RDx, RDe, RDd, RDp, RDq, List.getElem?_cons_zero, List.getElem?_cons_succ, List.set_cons_zero, List.set_cons_succ, List.cons.injEq, List.cons_ne_nil, reduceCtorEq, exists_eq_left', exists_eq_left, exists_and_left, and_assoc, exists_const, true_and, and_true, if_true, if_false, false_and, and_false, exists_false, false_or, or_false, true_implies, false_implies, implies_true, forall_eq, forall_eq', Bool.false_eq_true, if_neg, decide_eq_true_eq, Bool.not_eq_true', decide_eq_false_iff_not, Bool.not_true, Bool.not_false, List.length_cons, List.length_nil, sizeLine_eq, Nat.reduceAdd, Nat.reduceLeDiff, Nat.reduceLT, Int.reduceLT, Int.reduceLE, Int.emod_nonneg, ne_eq, Int.reduceEq, not_false_eq_true, not_true_eq_false, seqO_lst hb1, seqO_lst hp1, seqO_lst hr1, ip, ir, ib]
      refine ⟨[x0, x1, r0, r1, ol], _, p, x, r, ol, b, ts, rs, ds, os', rfl, pr, k1.o.1, k1.o.2.1, by omega, k1.o.2.2, by simp, fun H2 os2 f2 ho2 old2 l2 => ⟨_, rfl, ?_⟩⟩
      rw [if_neg (by decide)]
      exact ⟨by simp, f1.trans (f2.mono (by simp)), os2, k1.frO f2 ho2 old2, by omega⟩
    · rintro σ H1 ⟨⟨u11', rfl⟩, f1, os', k1, lo1⟩
      exact ⟨⟨_, _, _, _, _, _, _, _, _, rfl⟩, n9, f1 _ _ laA h9, f1 _ _ blA hb9, f1 _ _ plA hp9, f1 _ _ rlA hr9, f9.trans f1, os', k1, by omega⟩
  rintro la σ H9 ⟨⟨u5, u6, u7, u8, u9, u10, u11, u12, u13, rfl⟩, n9, h9, hb9, hp9, hr9, f9, os, k9, lo9⟩
  refine h_e _ _ ?_
  clear h_e
  have hS9 : SqL K H9 a (ns.map V.int) := Same.seq (fun c u e => f9 c u (nH c u e) (s08 _ _ e)) hS
  refine seq_gen fun N_o h_o => ?_
  simp only [RDa, RDb, RDv, RDk, RDx, RDe, RDd, RDp, RDq, List.getElem?_cons_zero, List.getElem?_cons_succ, List.set_cons_zero, List.set_cons_succ, List.cons.injEq, List.cons_ne_nil, reduceCtorEq, exists_eq_left', exists_eq_left, exists_and_left, and_assoc, exists_const, true_and, and_true, if_true, if_false, false_and, and_false, exists_false, false_or, or_false, true_implies, false_implies, implies_true, forall_eq, forall_eq', Bool.false_eq_true, if_neg, decide_eq_true_eq, Bool.not_eq_true', decide_eq_false_iff_not, Bool.not_true, Bool.not_false, List.length_cons, List.length_nil, sizeLine_eq, Nat.reduceAdd, Nat.reduceLeDiff, Nat.reduceLT, Int.reduceLT, Int.reduceLE, Int.emod_nonneg, ne_eq, Int.reduceEq, not_false_eq_true, not_true_eq_false]
  intro l1 n_l1
  generalize e_HA : upd H9 l1 (.lst [.int 0]) = HA
  have a_HA : HA l1 = some (.lst [.int 0]) := by rw [← e_HA]; exact upd_same
  have s_HA : Same H9 HA := by rw [← e_HA]; exact same_new n_l1
  intro l2 n_l2
  generalize e_HB : upd HA l2 (.tup [.int 0]) = HB
  have a_HB : HB l2 = some (.tup [.int 0]) := by rw [← e_HB]; exact upd_same
  have s_HB : Same HA HB := by rw [← e_HB]; exact same_new n_l2
  have sB : Same H9 HB := s_HA.trans s_HB
  refine ⟨1, rfl, sB.seq hS9, by decide, ?_⟩
  have t1 : tyN HB (.ref l1) = some "list" := tyN_lst (s_HB _ _ a_HA)
  have t2 : tyN HB (.ref l2) = some "tuple" := tyN_tup a_HB
  have kB := k9.same sB
  obtain ⟨p, x, r, b, ts, rs, ds, ip, ir, ib, pr, lts, xr, xA, rA, -⟩ := kB.sel (j := 0) (by decide) (by decide)
  have ep : V.ref p0 = V.ref p := by
    have : some (V.ref p0) = some (V.ref p) := ip
    exact Option.some.inj this
  cases ep
  have hlo : 0 ≤ mx2 0 ((ts.length : Int) - 1 - b) := by unfold mx2; split <;> omega
  obtain ⟨y, hy, ky, ay⟩ : ∃ y, atI [.non, .bl true, .bl false, .str "0", .ref l1, .ref l2, .int (-1)] (cell ns 1 / 3 % 7) = some y ∧ Kn HB y ∧ amongV y (mx2 0 ((ts.length : Int) - 1 - b)) ((ts.length : Int) - 1) = false := by
    have h7 := md_rng (cell ns 1 / 3) (show (0 : Int) < 7 by decide)
    generalize cell ns 1 / 3 % 7 = j at h7
    rcases (show j = 0 ∨ j = 1 ∨ j = 2 ∨ j = 3 ∨ j = 4 ∨ j = 5 ∨ j = 6 by omega) with rfl | rfl | rfl | rfl | rfl | rfl | rfl
    · exact ⟨_, rfl, rfl, rfl⟩
    · exact ⟨_, rfl, rfl, rfl⟩
    · exact ⟨_, rfl, rfl, rfl⟩
    · exact ⟨_, rfl, rfl, rfl⟩
    · exact ⟨_, rfl, by unfold Kn; rw [t1]; rfl, rfl⟩
    · exact ⟨_, rfl, by unfold Kn; rw [t2]; rfl, rfl⟩
    · refine ⟨_, rfl, rfl, ?_⟩
      simp only [amongV, Bool.and_eq_false_iff, decide_eq_false_iff_not]
      omega
  refine ⟨_, rfl, y, hy, h_o _ _ ?_⟩
  clear h_o
  refine seq_rel (fun σ1 H1 => σ1 = [some (.ref a), some (.ref bl'), some (.ref pl), some (.ref rl), some (.ref ol), u5, u6, u7, u8, u9, u10, u11, some y, u13] ∧ Same HB H1) (fun N_p h_p => ?_) ?_
  · have so : PyData.strOk "told" = true ∧ PyData.strOk "refused" = true ∧ PyData.strOk "letter" = true := by decide +kernel
    simp only [RDa, RDb, RDv, RDk, RDx, RDe, RDd, RDp, RDq, List.getElem?_cons_zero, List.getElem?_cons_succ, List.set_cons_zero, List.set_cons_succ, List.cons.injEq, List.cons_ne_nil, reduceCtorEq, exists_eq_left', exists_eq_left, exists_and_left, and_assoc, exists_const, true_and, and_true, if_true, if_false, false_and, and_false, exists_false, false_or, or_false, true_implies, false_implies, implies_true, forall_eq, forall_eq', Bool.false_eq_true, if_neg, decide_eq_true_eq, Bool.not_eq_true', decide_eq_false_iff_not, Bool.not_true, Bool.not_false, List.length_cons, List.length_nil, sizeLine_eq, Nat.reduceAdd, Nat.reduceLeDiff, Nat.reduceLT, Int.reduceLT, Int.reduceLE, Int.emod_nonneg, ne_eq, Int.reduceEq, not_false_eq_true, not_true_eq_false, seqO_lst (sB _ _ hp9)]
    refine ⟨p0, x, b, ts, y, rfl, pr.t, pr.b0, by have := pr.b1; omega, by have := pr.l; omega, ky, ?_, ?_⟩
    · rintro k2 v2 q' H5 rfl h1 h2 h3 s5 nq hq
      have z : amongV (V.int k2) (mx2 0 ((ts.length : Int) - 1 - b)) ((ts.length : Int) - 1) = true := by
        simp only [amongV, Bool.and_eq_true, decide_eq_true_eq]
        omega
      rw [z] at ay
      cases ay
    · intro ha q' H5 s5 nq hq
      have sh : SeqAt.shaped (.tuple [.str "refused", .str "letter"]) = true := by decide +kernel
      simp only [RDa, RDb, RDv, RDk, RDx, RDe, RDd, RDp, RDq, List.getElem?_cons_zero, List.getElem?_cons_succ, List.set_cons_zero, List.set_cons_succ, List.cons.injEq, List.cons_ne_nil, reduceCtorEq, exists_eq_left', exists_eq_left, exists_and_left, and_assoc, exists_const, true_and, and_true, if_true, if_false, false_and, and_false, exists_false, false_or, or_false, true_implies, false_implies, implies_true, forall_eq, forall_eq', Bool.false_eq_true, if_neg, decide_eq_true_eq, Bool.not_eq_true', decide_eq_false_iff_not, Bool.not_true, Bool.not_false, List.length_cons, List.length_nil, sizeLine_eq, Nat.reduceAdd, Nat.reduceLeDiff, Nat.reduceLT, Int.reduceLT, Int.reduceLE, Int.emod_nonneg, ne_eq, Int.reduceEq, not_false_eq_true, not_true_eq_false, dat_tup hq, sh, eqv_self, PyData.canLay0, PyData.canLayAll0, Bool.and_self, so]
      exact h_p _ _ ⟨rfl, s5⟩
  rintro σ1 HC ⟨rfl, sC⟩
  have kC := kB.same sC
  obtain ⟨hoC, oldC, -⟩ := kC.o
  simp only [RDa, RDx]
  refine lcut0 (fun a' H1 => a' = ol ∧ HC = H1) os (fun Z hZ => ?_) ?_ ?_ ?_
  · simp only [RDa, RDb, RDv, RDk, RDx, RDe, RDd, RDp, RDq, List.getElem?_cons_zero, List.getElem?_cons_succ, List.set_cons_zero, List.set_cons_succ, List.cons.injEq, List.cons_ne_nil, reduceCtorEq, exists_eq_left', exists_eq_left, exists_and_left, and_assoc, exists_const, true_and, and_true, if_true, if_false, false_and, and_false, exists_false, false_or, or_false, true_implies, false_implies, implies_true, forall_eq, forall_eq', Bool.false_eq_true, if_neg, decide_eq_true_eq, Bool.not_eq_true', decide_eq_false_iff_not, Bool.not_true, Bool.not_false, List.length_cons, List.length_nil, sizeLine_eq, Nat.reduceAdd, Nat.reduceLeDiff, Nat.reduceLT, Int.reduceLT, Int.reduceLE, Int.emod_nonneg, ne_eq, Int.reduceEq, not_false_eq_true, not_true_eq_false]
    exact hZ _ _ ⟨rfl, rfl⟩
  · rintro a' H1 ⟨rfl, rfl⟩
    exact SqL.of hoC
  · rintro a' H1 H2 j z Z W ⟨rfl, rfl⟩ hz s2 hW
    obtain ⟨q', la', lb', d', rfl, e1, e2, e3, e4⟩ := oldC _ (List.mem_of_getElem? hz)
    have e1 := s2 _ _ (hm_same _ _ e1)
    have e2 := dat_same s2 _ _ _ (dat_same hm_same _ _ _ e2)
    have e3 := dat_same s2 _ _ _ (dat_same hm_same _ _ _ e3)
    have sh := (e4.mono (show 8 ≤ 64 by decide)).ok
    simp only [RDa, RDb, RDv, RDk, RDx, RDe, RDd, RDp, RDq, List.getElem?_cons_zero, List.getElem?_cons_succ, List.set_cons_zero, List.set_cons_succ, List.cons.injEq, List.cons_ne_nil, reduceCtorEq, exists_eq_left', exists_eq_left, exists_and_left, and_assoc, exists_const, true_and, and_true, if_true, if_false, false_and, and_false, exists_false, false_or, or_false, true_implies, false_implies, implies_true, forall_eq, forall_eq', Bool.false_eq_true, if_neg, decide_eq_true_eq, Bool.not_eq_true', decide_eq_false_iff_not, Bool.not_true, Bool.not_false, List.length_cons, List.length_nil, sizeLine_eq, Nat.reduceAdd, Nat.reduceLeDiff, Nat.reduceLT, Int.reduceLT, Int.reduceLE, Int.emod_nonneg, ne_eq, Int.reduceEq, not_false_eq_true, not_true_eq_false, seqO_tup e1, e2, e3, sh, eqv_self e4.lay]
    exact hW _ (Same.refl _)
  · rintro a' H1 H3 D ⟨rfl, rfl⟩ nD s3 hD
    have shn : SeqAt.shaped (.list []) = true := by rfl
    have cln : PyData.canLay0 (.list []) = true := by simp [PyData.canLay0, PyData.canLayAll0]
    simp only [RDa, RDb, RDv, RDk, RDx, RDe, RDd, RDp, RDq, List.getElem?_cons_zero, List.getElem?_cons_succ, List.set_cons_zero, List.set_cons_succ, List.cons.injEq, List.cons_ne_nil, reduceCtorEq, exists_eq_left', exists_eq_left, exists_and_left, and_assoc, exists_const, true_and, and_true, if_true, if_false, false_and, and_false, exists_false, false_or, or_false, true_implies, false_implies, implies_true, forall_eq, forall_eq', Bool.false_eq_true, if_neg, decide_eq_true_eq, Bool.not_eq_true', decide_eq_false_iff_not, Bool.not_true, Bool.not_false, List.length_cons, List.length_nil, sizeLine_eq, Nat.reduceAdd, Nat.reduceLeDiff, Nat.reduceLT, Int.reduceLT, Int.reduceLE, Int.emod_nonneg, ne_eq, Int.reduceEq, not_false_eq_true, not_true_eq_false]
    intro l4 n_l4
    generalize e_HZ : upd H3 l4 (.lst []) = HZ
    have a_HZ : HZ l4 = some (.lst []) := by rw [← e_HZ]; exact upd_same
    have s_HZ : Same H3 HZ := by rw [← e_HZ]; exact same_new n_l4
    simp only [RDa, RDb, RDv, RDk, RDx, RDe, RDd, RDp, RDq, List.getElem?_cons_zero, List.getElem?_cons_succ, List.set_cons_zero, List.set_cons_succ, List.cons.injEq, List.cons_ne_nil, reduceCtorEq, exists_eq_left', exists_eq_left, exists_and_left, and_assoc, exists_const, true_and, and_true, if_true, if_false, false_and, and_false, exists_false, false_or, or_false, true_implies, false_implies, implies_true, forall_eq, forall_eq', Bool.false_eq_true, if_neg, decide_eq_true_eq, Bool.not_eq_true', decide_eq_false_iff_not, Bool.not_true, Bool.not_false, List.length_cons, List.length_nil, sizeLine_eq, Nat.reduceAdd, Nat.reduceLeDiff, Nat.reduceLT, Int.reduceLT, Int.reduceLE, Int.emod_nonneg, ne_eq, Int.reduceEq, not_false_eq_true, not_true_eq_false, dat_lst (s_HZ _ _ hD), dat_lst a_HZ, shn, eqv_self cln]
    exact q _
end RP

namespace RP
open PySem PySem.Spec PyProof.Rows L2 L2H

/-- tests -/
def excB (K : PySem.W.Frag) (D : Addr) : Bool := decide (PySem.W.findIn K (.ref D) "__getattribute__" = some (some (.builtin "BaseException.__getattribute__"))) && (decide (PySem.W.findIn K (.ref D) "__getattr__" = some none) && (decide (PySem.W.subIn K (.ref D) (.type "BaseException") = some true) && (decide (PySem.W.hasDictIn K D = true) &&
  (decide (PySem.W.findIn K (.ref D) "__class__" = some (some (.builtin "object.__class__"))) && (decide (PySem.W.specialIn K (.builtin "object.__class__") "__get__" = some (some (.builtin "getset_descriptor.__get__"))) && (decide (PySem.W.takesIn K (.builtin "object.__class__") = some true) && decide (PySem.W.mroIn K D (.type "object") = some true)))))))
theorem excB_ok {K : PySem.W.Frag} {D : Addr} (h : excB K D = true) : ExcC K D := by
  unfold excB at h
  simp only [Bool.and_eq_true, decide_eq_true_eq] at h
  obtain ⟨h1, h2, h3, h4, h5, h6, h7, h8⟩ := h
  exact ⟨h1, h2, h3, h4, h5, h6, h7, h8⟩
def kitFB (K : PySem.W.Frag) (D : Str) (l : List (Str × Bool)) : Bool := l.all fun q => decide (PySem.W.kitOne K (.ref (He.ga K D)) (.ref (He.ga K q.1)) = some q.2)
theorem kitFB_ok {K : PySem.W.Frag} {D : Str} {l : List (Str × Bool)} (h : kitFB K D l = true) : ∀ q ∈ l, PySem.W.kitOne K (.ref (He.ga K D)) (.ref (He.ga K q.1)) = some q.2 := fun q hq => of_decide_eq_true (List.all_eq_true.mp h q hq)
def d_is_among : He.DefD := ⟨("is_among", none), "is_among", "is_among", defArgs s_is_among, defBody s_is_among, defScope s_is_among, [], []⟩
def d_Post_init : He.DefD := ⟨("Post", some "__init__"), "__init__", "Post.__init__", defArgs s_Post_init, defBody s_Post_init, defScope s_Post_init, [], []⟩
def d_Post_posted : He.DefD := ⟨("Post", some "posted"), "posted", "Post.posted", defArgs s_Post_posted, defBody s_Post_posted, defScope s_Post_posted, [], []⟩
def d_Post_there : He.DefD := ⟨("Post", some "there"), "there", "Post.there", defArgs s_Post_there, defBody s_Post_there, defScope s_Post_there, [], []⟩
def d_Post_taken : He.DefD := ⟨("Post", some "taken"), "taken", "Post.taken", defArgs s_Post_taken, defBody s_Post_taken, defScope s_Post_taken, [], []⟩
def d__law_at : He.DefD := ⟨("_law_at", none), "_law_at", "_law_at", defArgs s__law_at, defBody s__law_at, defScope s__law_at, [], []⟩
def d__law_mixed : He.DefD := ⟨("_law_mixed", none), "_law_mixed", "_law_mixed", defArgs s__law_mixed, defBody s__law_mixed, defScope s__law_mixed, [], []⟩
def d__law_whole : He.DefD := ⟨("_law_whole", none), "_law_whole", "_law_whole", defArgs s__law_whole, defBody s__law_whole, defScope s__law_whole, [], []⟩
def d__law_word : He.DefD := ⟨("_law_word", none), "_law_word", "_law_word", defArgs s__law_word, defBody s__law_word, defScope s__law_word, [], []⟩
def d__law_said : He.DefD := ⟨("_law_said", none), "_law_said", "_law_said", defArgs s__law_said, defBody s__law_said, defScope s__law_said, [], []⟩
def d__law_thing : He.DefD := ⟨("_law_thing", none), "_law_thing", "_law_thing", defArgs s__law_thing, defBody s__law_thing, defScope s__law_thing, [], []⟩
def d__law_due : He.DefD := ⟨("_law_due", none), "_law_due", "_law_due", defArgs s__law_due, defBody s__law_due, defScope s__law_due, [], []⟩
def d__law_there : He.DefD := ⟨("_law_there", none), "_law_there", "_law_there", defArgs s__law_there, defBody s__law_there, defScope s__law_there, [], []⟩
def d__law_stands : He.DefD := ⟨("_law_stands", none), "_law_stands", "_law_stands", defArgs s__law_stands, defBody s__law_stands, defScope s__law_stands, [], []⟩
def d_law : He.DefD := ⟨("law", none), "law", "law", defArgs s_law, defBody s_law, defScope s_law, [], []⟩
def fn : List He.DefD := [d_is_among, d_Post_init, d_Post_posted, d_Post_there, d_Post_taken, d__law_at, d__law_mixed, d__law_whole, d__law_word, d__law_said, d__law_thing, d__law_due, d__law_there, d__law_stands, d_law]
def fa : List He.Fa := [.free "len", .free "range", .free "min", .free "max", .free "isinstance", .free "int", .free "bool", .free "str", .free "list", .free "tuple", .free "dict", .free "sorted", .free "enumerate", .free "zip", .free "all", .free "ValueError", .glo "is_among", .glo "Post", .mkr "Post", .cls "Post", .noat "Post" "bound", .noat "Post" "things", .meth "Post" "posted", .meth "Post" "there", .meth "Post" "taken", .exc "NoLetter", .glo "NoLetter", .glo "_law_at", .glo "_law_mixed", .glo "_law_whole", .glo "_law_word", .exc "BadBounds", .glo "BadBounds", .exc "BadRing", .glo "BadRing", .exc "BadStep", .glo "BadStep", .exc "BadTexts", .glo "BadTexts", .exc "NoLine", .glo "NoLine", .exc "NotNow", .glo "NotNow", .exc "Safe", .glo "Safe", .glo "_law_said", .exc "PostError", .glo "PostError", .exm "NoLetter" "PostError" true, .glo "_law_thing", .glo "_law_due", .glo "_law_there", .glo "_law_stands", .glo "law"]
def exB (K : PySem.W.Frag) : Bool := true && (excB K (He.ga K "NoLetter")) && (kitFB K "NoLetter" (errNames.map fun x => (x, decide (x = "NoLetter")))) && (decide (PySem.W.kitOne K (.ref (He.ga K "NoLetter")) (.type "ValueError") = some true))
def loose : List Str := ["PostError", "BadBounds", "BadRing", "BadTexts", "BadStep", "NotNow", "NoLetter", "Safe", "NoLine", "is_among", "Post", "_law_at", "_law_mixed", "_law_whole", "_law_word", "_law_said", "_law_thing", "_law_due", "_law_there", "_law_stands"]
abbrev PW : Program := (PySem.W.OpenLaw.row PySem.Challenge.rw_ringpost_k04_what_is_there).prog
abbrev R : PySem.W.OpenRow := PySem.W.OpenLaw.row PySem.Challenge.rw_ringpost_k04_what_is_there
abbrev hk : PySem.W.Hook := He.hookX 5 fa fn [] [] exB
def ob (s : PySem.W.SharedT) : He.AlX := He.obsX 5 fa fn [] [] exB (HandSHeadRun.getT s)
theorem ob_eq (s : PySem.W.SharedT) : ob s = hk.obs s.abs := He.obsX_eq (HandSHeadRun.getT_eq s)
theorem run (w : World) : HandSHeadRun.RunEq R (PySem.W.view R.prog [24]) hk ob 3000 loose w := by
  intro os
  kernel_rfl
theorem facts {w : World} {K : PySem.W.Frag} {h : Heap} {mg : Str → Option Value} {f : Addr} (X : K.In h) (G : h.Ns mainGlobals mg) (hfa : mg ("law" : Str) = some (.ref f)) (c : He.SaysX fa fn [] [] exB w h K) :
    ∃ fd : FuncData, (∀ (s : Shared) (v : Value), BindsTo s fd ⟨[v], []⟩ [("_law_script", v)]) ∧ ∀ base : Heap, K.In base → base.Ns mainGlobals mg → FnOk PW w K mg base (L2N.CX PW w) 5 f fd ["_law_script"] (sp_law K) := by
  have cf : ∀ (i : Nat) {f : He.Fa}, fa[i]? = some f → f.ok K = true := fun i f h => c.t.d.fact i h
  have cd : ∀ {d : He.DefD}, d ∈ fn → ∃ fd, FunD K d.name d.qual d.params d.body d.scope (d.dvs K) (d.kws K) (He.fAd K d.at_) fd := fun h => c.t.d.defs h
  have cx := c.more
  unfold exB at cx
  simp only [Bool.true_and, Bool.and_eq_true] at cx
  obtain ⟨⟨z0, z1⟩, z2⟩ := cx
  have ex0 : ExcC K (He.ga K "NoLetter") := excB_ok z0
  have ex1 : KitF K "NoLetter" (errNames.map fun x => (x, decide (x = "NoLetter"))) := kitFB_ok z1
  have ex2 : PySem.W.kitOne K (.ref (He.ga K "NoLetter")) (.type "ValueError") = some true := of_decide_eq_true z2
  have bl : Blt mg := ⟨He.free_ok X G (cf 0 (f := .free "len") rfl), He.free_ok X G (cf 1 (f := .free "range") rfl), He.free_ok X G (cf 2 (f := .free "min") rfl), He.free_ok X G (cf 3 (f := .free "max") rfl), He.free_ok X G (cf 4 (f := .free "isinstance") rfl), He.free_ok X G (cf 5 (f := .free "int") rfl), He.free_ok X G (cf 6 (f := .free "bool") rfl), He.free_ok X G (cf 7 (f := .free "str") rfl), He.free_ok X G (cf 8 (f := .free "list") rfl), He.free_ok X G (cf 9 (f := .free "tuple") rfl), He.free_ok X G (cf 10 (f := .free "dict") rfl), He.free_ok X G (cf 11 (f := .free "sorted") rfl), He.free_ok X G (cf 12 (f := .free "enumerate") rfl), He.free_ok X G (cf 13 (f := .free "zip") rfl), He.free_ok X G (cf 14 (f := .free "all") rfl), He.free_ok X G (cf 15 (f := .free "ValueError") rfl)⟩
  have c_is_among := fun (base : Heap) => ok_is_among (P := PW) (w := w) (base := base) (cd (d := d_is_among) (by simp [fn])) (He.glo_ok X G (cf 16 (f := .glo "is_among") rfl)) bl
  have hPost : PostF K := ⟨He.cls_ok (cf 19 (f := .cls "Post") rfl), He.noat_ok (cf 20 (f := .noat "Post" "bound") rfl), He.noat_ok (cf 21 (f := .noat "Post" "things") rfl)⟩
  have c_Post := fun (base : Heap) => ok_Post_init (P := PW) (w := w) (base := base) (cd (d := d_Post_init) (by simp [fn])) (He.glo_ok X G (cf 17 (f := .glo "Post") rfl)) (He.mkr_ok (cf 18 (f := .mkr "Post") rfl)) bl hPost
  have m_Post_posted := fun (base : Heap) => ok_Post_posted (P := PW) (w := w) (base := base) (cd (d := d_Post_posted) (by simp [fn])) (He.cls_ok (cf 19 (f := .cls "Post") rfl)) (He.meth_ok (cf 22 (f := .meth "Post" "posted") rfl)) bl hPost
  have m_Post_there := fun (base : Heap) => ok_Post_there (P := PW) (w := w) (base := base) (cd (d := d_Post_there) (by simp [fn])) (He.cls_ok (cf 19 (f := .cls "Post") rfl)) (He.meth_ok (cf 23 (f := .meth "Post" "there") rfl)) bl hPost
  have e_NoLetter : ErrC K mg "NoLetter" := by
    have z := He.exc_ok (cf 25 (f := .exc "NoLetter") rfl)
    exact ⟨He.glo_ok X G (cf 26 (f := .glo "NoLetter") rfl), z.1, z.2.1, z.2.2.1, z.2.2.2⟩
  have m_Post_taken := fun (base : Heap) => ok_Post_taken (P := PW) (w := w) (base := base) (cd (d := d_Post_taken) (by simp [fn])) (He.cls_ok (cf 19 (f := .cls "Post") rfl)) (He.meth_ok (cf 24 (f := .meth "Post" "taken") rfl)) bl hPost (m_Post_there base) (c_is_among base) e_NoLetter
  have c__law_at := fun (base : Heap) (a : Addr) (ns : List Int) => ok__law_at (P := PW) (w := w) (base := base) (cd (d := d__law_at) (by simp [fn])) (He.glo_ok X G (cf 27 (f := .glo "_law_at") rfl)) bl a ns
  have c__law_mixed := fun (base : Heap) => ok__law_mixed (P := PW) (w := w) (base := base) (cd (d := d__law_mixed) (by simp [fn])) (He.glo_ok X G (cf 28 (f := .glo "_law_mixed") rfl)) bl
  have c__law_whole := fun (base : Heap) => ok__law_whole (P := PW) (w := w) (base := base) (cd (d := d__law_whole) (by simp [fn])) (He.glo_ok X G (cf 29 (f := .glo "_law_whole") rfl)) bl
  have e_BadBounds : ErrC K mg "BadBounds" := by
    have z := He.exc_ok (cf 31 (f := .exc "BadBounds") rfl)
    exact ⟨He.glo_ok X G (cf 32 (f := .glo "BadBounds") rfl), z.1, z.2.1, z.2.2.1, z.2.2.2⟩
  have e_BadRing : ErrC K mg "BadRing" := by
    have z := He.exc_ok (cf 33 (f := .exc "BadRing") rfl)
    exact ⟨He.glo_ok X G (cf 34 (f := .glo "BadRing") rfl), z.1, z.2.1, z.2.2.1, z.2.2.2⟩
  have e_BadStep : ErrC K mg "BadStep" := by
    have z := He.exc_ok (cf 35 (f := .exc "BadStep") rfl)
    exact ⟨He.glo_ok X G (cf 36 (f := .glo "BadStep") rfl), z.1, z.2.1, z.2.2.1, z.2.2.2⟩
  have e_BadTexts : ErrC K mg "BadTexts" := by
    have z := He.exc_ok (cf 37 (f := .exc "BadTexts") rfl)
    exact ⟨He.glo_ok X G (cf 38 (f := .glo "BadTexts") rfl), z.1, z.2.1, z.2.2.1, z.2.2.2⟩
  have e_NoLine : ErrC K mg "NoLine" := by
    have z := He.exc_ok (cf 39 (f := .exc "NoLine") rfl)
    exact ⟨He.glo_ok X G (cf 40 (f := .glo "NoLine") rfl), z.1, z.2.1, z.2.2.1, z.2.2.2⟩
  have e_NotNow : ErrC K mg "NotNow" := by
    have z := He.exc_ok (cf 41 (f := .exc "NotNow") rfl)
    exact ⟨He.glo_ok X G (cf 42 (f := .glo "NotNow") rfl), z.1, z.2.1, z.2.2.1, z.2.2.2⟩
  have e_Safe : ErrC K mg "Safe" := by
    have z := He.exc_ok (cf 43 (f := .exc "Safe") rfl)
    exact ⟨He.glo_ok X G (cf 44 (f := .glo "Safe") rfl), z.1, z.2.1, z.2.2.1, z.2.2.2⟩
  have c__law_word := fun (base : Heap) => ok__law_word (P := PW) (w := w) (base := base) (cd (d := d__law_word) (by simp [fn])) (He.glo_ok X G (cf 30 (f := .glo "_law_word") rfl)) bl e_BadBounds e_BadRing e_BadStep e_BadTexts e_NoLetter e_NoLine e_NotNow e_Safe ex0 ex1 ex2
  have e_PostError : ErrC K mg "PostError" := by
    have z := He.exc_ok (cf 46 (f := .exc "PostError") rfl)
    exact ⟨He.glo_ok X G (cf 47 (f := .glo "PostError") rfl), z.1, z.2.1, z.2.2.1, z.2.2.2⟩
  have c__law_said := fun (base : Heap) => ok__law_said (P := PW) (w := w) (base := base) (cd (d := d__law_said) (by simp [fn])) (He.glo_ok X G (cf 45 (f := .glo "_law_said") rfl)) bl hPost (m_Post_taken base) (c__law_word base) e_PostError (He.exm_ok (cf 48 (f := .exm "NoLetter" "PostError" true) rfl))
  have c__law_thing := fun (base : Heap) => ok__law_thing (P := PW) (w := w) (base := base) (cd (d := d__law_thing) (by simp [fn])) (He.glo_ok X G (cf 49 (f := .glo "_law_thing") rfl)) bl
  have c__law_due := fun (base : Heap) => ok__law_due (P := PW) (w := w) (base := base) (cd (d := d__law_due) (by simp [fn])) (He.glo_ok X G (cf 50 (f := .glo "_law_due") rfl)) bl
  have c__law_there := fun (base : Heap) => ok__law_there (P := PW) (w := w) (base := base) (cd (d := d__law_there) (by simp [fn])) (He.glo_ok X G (cf 51 (f := .glo "_law_there") rfl)) bl hPost (m_Post_there base) (c__law_due base) (c__law_whole base)
  have c__law_stands := fun (base : Heap) => ok__law_stands (P := PW) (w := w) (base := base) (cd (d := d__law_stands) (by simp [fn])) (He.glo_ok X G (cf 52 (f := .glo "_law_stands") rfl)) bl (c__law_due base) (c__law_said base) (c__law_there base)
  obtain ⟨fd, FL⟩ := cd (d := d_law) (by simp [fn])
  have e := hfa.symm.trans (He.glo_ok X G (cf 53 (f := .glo "law") rfl))
  have e2 : f = He.fAd K ("law", none) := Value.ref.inj (Option.some.inj e)
  subst e2
  have b := FunD.bindsA (ps := ["_law_script"]) FL fun _ _ _ _ _ _ us hl => match us, hl with | [_], _ => rfl
  exact ⟨fd, fun s v => b s [v] rfl, fun base _ _ => ok_law FL bl hPost (c_Post base) (m_Post_posted base) (c__law_at base) (c__law_due base) (c__law_mixed base) (c__law_said base) (c__law_stands base) (c__law_thing base) (c__law_whole base)⟩
end RP
open PySem PySem.W PySem.Calls PyProof.Rows
theorem PySem.Challenge.cw_ringpost_k04_what_is_there_holds : PySem.Challenge.rw_ringpost_k04_what_is_there.Holds := by
  w_on; o_law
  refine HandSHeadRun.head_any (r := OpenLaw.row PySem.Challenge.rw_ringpost_k04_what_is_there) (q := view (OpenLaw.row PySem.Challenge.rw_ringpost_k04_what_is_there).prog [24]) (H := RP.hk) (ob := RP.ob) (M := 3000) (loose := RP.loose) (d := HandSHeadRun.topDef (OpenLaw.row PySem.Challenge.rw_ringpost_k04_what_is_there).prog 24) (kwd := []) RP.ob_eq
    (by kernel_rfl) (fun s => by kernel_rfl) RP.run (by kernel_rfl) (by kernel_rfl) (by kernel_rfl) (by rfl) (by first | assumption | decide +kernel) (by decide +kernel) ⟨rfl, rfl, rfl, rfl, rfl, by decide +kernel⟩ ?hw ?hc
  case hw => w_witness2
  case hc =>
    refine RP.walk_W (l := PySem.Challenge.rw_ringpost_k04_what_is_there) (n := 63) (k := 5) (x := "_law_script") (CX := fun w => L2N.CX RP.PW w) rfl (by decide) (by kernel_rfl) ⟨rfl, by decide, by decide⟩ ?F (fun _ _ _ _ _ z => by
      obtain ⟨_, _, _, _, _, _, _, _, _, _, _, _, q⟩ := z
      exact q)
    intro w mg fa h Y G hmg0
    obtain ⟨K, KX, c⟩ := Y
    have hmg : mg ("law" : PySem.Str) = some (.ref fa) := by
      have e : (HandSHeadRun.topDef (OpenLaw.row PySem.Challenge.rw_ringpost_k04_what_is_there).prog 24).name = ("law" : PySem.Str) := by kernel_rfl
      rw [← e]
      exact hmg0
    obtain ⟨fd, hb, hF⟩ := RP.facts (w := w) KX G hmg c
    exact ⟨K, fd, RP.sp_law K, KX, hb, fun H a ns hl hO hS => ⟨a, ns, rfl, hS, fun _ => rfl⟩, hF⟩

