import PyProof.Rows.All
import Wide.All
import OpenK.AllK
import Wide.FinOn
import HandS.ForMost
import HandS.ForExc
import HandS.TryMany
import HandS.IsInst
import HandS.ExcIs
import HandS.Conv
import HandS.More
import HandS.Zip
import HandS.TupAny
import HandS.TupLen
import HandS.HotCalls
import HandS.HeadHook4
import HandS.HeadEnd
import HandS.Head2
import PySem.Challenge.RW_ringpost_k03_who_takes
set_option Elab.async false
set_option linter.all false
set_option maxRecDepth 100000
set_option maxHeartbeats 4000000
open PySem PySem.Spec PyProof.Rows L2
local macro_rules | `(tactic| walk_at "st0") => `(tactic| simp only [L2.start, List.map_cons, List.map_nil, List.length_cons, List.length_nil, List.replicate, List.append_nil, List.cons_append, List.nil_append, Nat.zero_add, Nat.reduceAdd, Nat.reduceSub, Nat.sub_self])
local macro_rules | `(tactic| walk_at "len") => `(tactic| (intro h; first | (obtain ⟨e, _⟩ := h; rw [e]; rfl) | (obtain ⟨_, e, _⟩ := h; rw [e]; rfl) | (obtain ⟨_, _, e, _⟩ := h; rw [e]; rfl) | (obtain ⟨_, _, _, e, _⟩ := h; rw [e]; rfl) | (obtain ⟨_, _, _, _, e, _⟩ := h; rw [e]; rfl) | (obtain ⟨_, _, _, _, _, e, _⟩ := h; rw [e]; rfl) | (obtain ⟨_, _, _, _, _, _, e, _⟩ := h; rw [e]; rfl) | (obtain ⟨_, _, _, _, _, _, _, e, _⟩ := h; rw [e]; rfl) | (obtain ⟨_, _, _, _, _, _, _, _, e, _⟩ := h; rw [e]; rfl) | (obtain ⟨_, _, _, _, _, _, _, _, _, e, _⟩ := h; rw [e]; rfl) | (obtain ⟨_, _, _, _, _, _, _, _, _, _, e, _⟩ := h; rw [e]; rfl) | (obtain ⟨_, _, _, _, _, _, _, _, _, _, _, e, _⟩ := h; rw [e]; rfl) | (obtain ⟨_, _, _, _, _, _, _, _, _, _, _, _, e, _⟩ := h; rw [e]; rfl) | (obtain ⟨_, _, _, _, _, _, _, _, _, _, _, _, _, e, _⟩ := h; rw [e]; rfl) | (obtain ⟨_, _, _, _, _, _, _, _, _, _, _, _, _, _, e, _⟩ := h; rw [e]; rfl) | (obtain ⟨_, _, _, _, _, _, _, _, _, _, _, _, _, _, _, e, _⟩ := h; rw [e]; rfl) | (obtain ⟨_, _, _, _, _, _, _, _, _, _, _, _, _, _, _, _, e, _⟩ := h; rw [e]; rfl) | (obtain ⟨_, _, _, _, _, _, _, _, _, _, _, _, _, _, _, _, _, e, _⟩ := h; rw [e]; rfl) | (obtain ⟨_, _, _, _, _, _, _, _, _, _, _, _, _, _, _, _, _, _, e, _⟩ := h; rw [e]; rfl) | (obtain ⟨_, _, _, _, _, _, _, _, _, _, _, _, _, _, _, _, _, _, _, e, _⟩ := h; rw [e]; rfl) | (obtain ⟨_, _, _, _, _, _, _, _, _, _, _, _, _, _, _, _, _, _, _, _, e, _⟩ := h; rw [e]; rfl) | (obtain ⟨_, _, _, _, _, _, _, _, _, _, _, _, _, _, _, _, _, _, _, _, _, e, _⟩ := h; rw [e]; rfl) | (obtain ⟨_, _, _, _, _, _, _, _, _, _, _, _, _, _, _, _, _, _, _, _, _, _, e, _⟩ := h; rw [e]; rfl) | (obtain ⟨_, _, _, _, _, _, _, _, _, _, _, _, _, _, _, _, _, _, _, _, _, _, _, e, _⟩ := h; rw [e]; rfl) | (obtain ⟨_, _, _, _, _, _, _, _, _, _, _, _, _, _, _, _, _, _, _, _, _, _, _, _, e, _⟩ := h; rw [e]; rfl) | (obtain ⟨_, _, _, _, _, _, _, _, _, _, _, _, _, _, _, _, _, _, _, _, _, _, _, _, _, e, _⟩ := h; rw [e]; rfl)))

namespace RP
open PySem PySem.Spec PyProof.Rows L2

/-! ### a def, a method, a class as callers use them -/
section
variable (P : Program) (w : World) (K : PySem.W.Frag) (mg : Str → Option Value) (base : Heap)
def Cal (k : Nat) (x : Str) (sp : Sp) : Prop :=
  ∃ (f : Addr) (fd : FuncData) (ps : List Str), FnOk P w K mg base (L2N.CX P w) k f fd ps sp ∧ mg x = some (.ref f) ∧ PySem.W.keepIn K (.ref f) = true ∧ Binds K fd ps []
def MCal (k : Nat) (C : Addr) (m : Str) (sp : Sp) : Prop :=
  Cls K C ∧ ∃ (f : Addr) (fd : FuncData) (ps : List Str), FnOk P w K mg base (L2N.CX P w) k f fd ps sp ∧ Meth K C m f ∧ Binds K fd ps []
def KCal (k : Nat) (x : Str) (C : Addr) (sp : Sp) : Prop :=
  ∃ (f : Addr) (fd : FuncData) (ps : List Str), Mk K C f ∧ FnOk P w K mg base (L2N.CX P w) k f fd ps sp ∧ mg x = some (.ref C) ∧ Binds K fd ps []
end
section
variable {X : Cx} {k : Nat} {C : Addr} {sp : Sp} {W : WX} {x m : Str} {p pos apos : Pos} {e o : Expr} {es : List Expr} {ta : TE} {t : TA}
theorem pe_fn (c : Cal X.prog X.w X.K X.mg X.base k x sp) (hr : Room k X.A) (tk : L2N.Takes X W) (ha : PA X (e :: es) t) (hg : Gl X x := by rfl) (hdb : (x == ("__debug__" : Str)) = false := by decide)
    (he : starEach (e :: es) X.env = (false, eval e X.env) :: starEach es X.env := by rfl) (hpl : (backTo pos (starEach es X.env)).any (·.1) = false := by rfl) :
    PE X (.Call (.Name x p) (e :: es) [] pos) (tCallS sp (WE W) t) := by
  obtain ⟨f, fd, ps, F, hm, hk, hb⟩ := c
  exact pe_callS F hr hg hm hk hb (fun σ => L2N.passAt tk σ) ha hdb he hpl
def tMethS (C : Addr) (m : Str) (sp : Sp) (E : L2.St → XK) (ta : TE) (t : TA) : TE := fun σ H Q => ta σ H fun x H1 => ∃ a dx fs, x = .ref a ∧ H1 a = some (.ins C dx fs) ∧ fs.lookup m = none ∧ t σ H1 fun vs H2 => sp (x :: vs) H2 Q (E σ)
theorem pe_mth {pl : Sem Bool} (he : PE X o ta) (c : MCal X.prog X.w X.K X.mg X.base k C m sp) (hr : Room k X.A) (tk : L2N.Takes X W) (ha : PA X (e :: es) t)
    (hst : starEach (e :: es) X.env = (false, eval e X.env) :: starEach es X.env := by rfl) (hpl : (backTo pos (starEach es X.env)).any (·.1) = false := by rfl)
    (ht : eval (.Call (.Attribute o m apos) (e :: es) [] pos) X.env = (do
      let ov ← eval o X.env
      standAt apos.atName
      let (f, first) ← holding [ov] (getMethod ov m pl)
      callWith pos f first (backTo pos (starEach (e :: es) X.env)) (backToKw pos (keywordEach [] X.env))) := by rfl) :
    PE X (.Call (.Attribute o m apos) (e :: es) [] pos) (tMethS C m sp (WE W) ta t) := by
  obtain ⟨cl, f, fd, ps, F, hm, hb⟩ := c
  refine ⟨fun pins s σ H Q I h => ?_⟩
  refine PySem.W.methodCall_KW (pl := pl) (thn (he.run pins s σ H _ I h) fun u s1 ⟨x, H1, I1, rx, a, dx, fs, ex, ea, l, q⟩ => ?_) ht
  subst ex
  obtain rfl : u = Value.ref a := rx
  refine getmeth_ok I1 ea cl hm l ?_
  refine PySem.W.callWith_K (first := [.ref a]) (h₀ := X.base) I.ok.mod.kin hm.kp (thn (ha.run pos pins s1 σ H1 _ I1 q) fun us s2 ⟨vs, H2, I2, r, q2⟩ => ⟨I2.kIn, ?_⟩) hst hpl
  exact run_fnS (us := .ref a :: us) (vs := .ref a :: vs) F hr hb (L2N.passAt tk σ) I2 (.cons rfl r) q2
theorem pe_mth0 {pl : Sem Bool} (he : PE X o ta) (c : MCal X.prog X.w X.K X.mg X.base k C m sp) (hr : Room k X.A) (tk : L2N.Takes X W)
    (ht : eval (.Call (.Attribute o m apos) [] [] pos) X.env = (do
      let ov ← eval o X.env
      standAt apos.atName
      let (f, first) ← holding [ov] (getMethod ov m pl)
      callWith pos f first (backTo pos (starEach [] X.env)) (backToKw pos (keywordEach [] X.env))) := by rfl) :
    PE X (.Call (.Attribute o m apos) [] [] pos) (tMethS C m sp (WE W) ta tNil) := by
  obtain ⟨cl, f, fd, ps, F, hm, hb⟩ := c
  refine ⟨fun pins s σ H Q I h => ?_⟩
  refine PySem.W.methodCall_KW (pl := pl) (thn (he.run pins s σ H _ I h) fun u s1 ⟨x, H1, I1, rx, a, dx, fs, ex, ea, l, q⟩ => ?_) ht
  subst ex
  obtain rfl : u = Value.ref a := rx
  refine getmeth_ok I1 ea cl hm l ?_
  exact PySem.W.callWith_K0 (first := [.ref a]) I1.kIn hm.kp (run_fnS (us := [.ref a]) (vs := [.ref a]) F hr hb (L2N.passAt tk σ) I1 (.cons rfl .nil) q)
def tMakeS (C : Addr) (sp : Sp) (E : L2.St → XK) (t : TA) : TE := fun σ H Q => t σ H fun vs H1 => ∀ x dx, H1 x = none → H1 dx = none → dx ≠ x →
  sp (.ref x :: vs) (upd (upd H1 dx (.own x)) x (.ins C dx [])) (fun v H2 => v = .non ∧ Q (.ref x) H2) (E σ)
theorem run_mkS {pins : List (Addr × Obj)} {σ : L2.St} {H : Hp} {s : Shared} {Q : VK} {us : List Value} {vs : List V} {f : Addr} {fd : FuncData} {ps : List Str} (M : Mk X.K C f) (F : FnOk X.prog X.w X.K X.mg X.base (L2N.CX X.prog X.w) k f fd ps sp) (hr : Room (k + 1) X.A) (hb : Binds X.K fd ps [])
    (tk : L2N.Takes X W) (I : Inv X pins σ H s) (r : Vals vs us)
    (h : ∀ x dx, H x = none → H dx = none → dx ≠ x → sp (.ref x :: vs) (upd (upd H dx (.own x)) x (.ins C dx [])) (fun v H2 => v = .non ∧ Q (.ref x) H2) (WE W σ)) :
    wpAny (model X.prog X.w) X.A (call (.ref C) us) (EP X pins σ Q) X.xe s := by
  have hq := h (s.heap.objs.size + 1) s.heap.objs.size (I.hok.fresh (Nat.le_succ _)) (I.hok.fresh (Nat.le_refl _)) (Nat.ne_of_lt (Nat.lt_succ_self _))
  have I2 := Inv.made (C := C) I
  have r2 : Vals (V.ref (s.heap.objs.size + 1) :: vs) (Value.ref (s.heap.objs.size + 1) :: us) := .cons rfl r
  have hl : (Value.ref (s.heap.objs.size + 1) :: us ++ []).length = ps.length := by
    have e := r2.length
    rw [F.len _ _ _ _ hq] at e
    rw [List.append_nil]
    exact e.symm
  have bb := hb _ (Value.ref (s.heap.objs.size + 1) :: us) I2.kIn hl
  rw [List.append_nil] at bb
  refine wpAny_call (make_map (f := f) I.kIn M.makes M.init (beq_iff_eq.mp M.fn) (codeAny_mono (F.run _ X.stack _ _ ⟨Value.ref (s.heap.objs.size + 1) :: us, []⟩ (Value.ref (s.heap.objs.size + 1) :: us) _ _ (WE W σ) (hr.make C us [])
    (I2.env0.make C us []) bb r2 hq) fun r s' hq' => ?_))
  cases r with
  | error e => exact tk e s' (L2N.XE.of_call I2 (fun _ _ _ h => h) hq')
  | ok fl =>
    cases fl with
    | ret u =>
      obtain ⟨v, H', I3, rv, ev, q3⟩ := I2.after hq'
      subst ev
      exact ⟨rv, ⟨V.ref (s.heap.objs.size + 1), H', I3, rfl, q3⟩⟩
    | next => exact False.elim hq'
    | brk => exact False.elim hq'
    | cont => exact False.elim hq'
theorem pe_mk (c : KCal X.prog X.w X.K X.mg X.base k x C sp) (hr : Room (k + 1) X.A) (tk : L2N.Takes X W) (ha : PA X (e :: es) t) (hg : Gl X x := by rfl) (hdb : (x == ("__debug__" : Str)) = false := by decide)
    (he : starEach (e :: es) X.env = (false, eval e X.env) :: starEach es X.env := by rfl) (hpl : (backTo pos (starEach es X.env)).any (·.1) = false := by rfl) :
    PE X (.Call (.Name x p) (e :: es) [] pos) (tMakeS C sp (WE W) t) := by
  obtain ⟨f, fd, ps, M, F, hm, hb⟩ := c
  refine ⟨fun pins s σ H Q I h => ?_⟩
  refine wpAny_Call_Name_kw (ld_glob I hg hm ?_ hdb)
  refine PySem.W.callWith_K (h₀ := X.base) I.ok.mod.kin M.kp (thn (ha.run pos pins s σ H _ I h) fun us s1 ⟨vs, H1, I1, r, q⟩ => ⟨I1.kIn, ?_⟩) he hpl
  exact run_mkS M F hr hb tk I1 r q
theorem pe_mk0 (c : KCal X.prog X.w X.K X.mg X.base k x C sp) (hr : Room (k + 1) X.A) (tk : L2N.Takes X W) (hg : Gl X x := by rfl) (hdb : (x == ("__debug__" : Str)) = false := by decide) :
    PE X (.Call (.Name x p) [] [] pos) (tMakeS C sp (WE W) tNil) := by
  obtain ⟨f, fd, ps, M, F, hm, hb⟩ := c
  refine ⟨fun pins s σ H Q I h => ?_⟩
  refine wpAny_Call_Name_kw (ld_glob I hg hm ?_ hdb)
  exact PySem.W.callWith_K0 I.kIn M.kp (run_mkS (us := []) M F hr hb tk I .nil h)
end
/-! ### a def by its body -/
/-- the facts of a def of the module | of a method -/
abbrev FnP (K : PySem.W.Frag) (at_ : Str × Option Str) (x qual : Str) (st : Stmt) : Prop := ∃ fd, FunD K x qual (defArgs st) (defBody st) (defScope st) [] [] (He.fAd K at_) fd
section
variable {P : Program} {w : World} {K : PySem.W.Frag} {mg : Str → Option Value} {base : Heap}
theorem fn_cal {x : Str} {st : Stmt} {N ps : List Str} {k : Nat} {sp : Sp} (F : FnP K (x, none) x x st) (hm : mg x = some (.ref (He.ga K x))) (S : FnScope N ps (defScope st)) (len : ∀ vs H Q E, sp vs H Q E → vs.length = ps.length)
    (hbd : ∀ (kV doc pm : Value) (an : Option Addr) (cdv ct : Value) (us : List Value), us.length = ps.length → bindArgs (PySem.W.fnOf x x (defArgs st) (defBody st) (defScope st) .none kV doc pm an cdv ct) ⟨us, []⟩ = pure (ps.zip us))
    (hbody : ∀ (f : Addr) (cdv : Value) (A : Around) (outer : List Env) (s : Shared) (H : Hp) (vs : List V) (Q : VK) (E : XK), Room k (A.deeper (envOfC x (defScope st) s.heap.objs.size f cdv)) → sp vs H Q E →
      ∃ t, PSs (cxOf (L2N.CX P w) P w K mg base N x (defScope st) f cdv A outer s H E) (defBody st) t ∧ t { nx := fun _ H' => Q .non H', rt := Q } (start N vs) H) : Cal P w K mg base (k + 1) x sp := by
  obtain ⟨fd, F⟩ := F
  exact ⟨_, fd, ps, F.ok S len fun cdv A outer s H vs Q E hr h => hbody _ cdv A outer s H vs Q E hr h, hm, F.kp, F.bindsN hbd⟩
theorem fn_mcal {c m qual : Str} {st : Stmt} {N ps : List Str} {k : Nat} {sp : Sp} (F : FnP K (c, some m) m qual st) (hc : Cls K (He.ga K c)) (hm : Meth K (He.ga K c) m (He.ma K (He.ga K c) m)) (S : FnScope N ps (defScope st)) (len : ∀ vs H Q E, sp vs H Q E → vs.length = ps.length)
    (hbd : ∀ (kV doc pm : Value) (an : Option Addr) (cdv ct : Value) (us : List Value), us.length = ps.length → bindArgs (PySem.W.fnOf m qual (defArgs st) (defBody st) (defScope st) .none kV doc pm an cdv ct) ⟨us, []⟩ = pure (ps.zip us))
    (hbody : ∀ (f : Addr) (cdv : Value) (A : Around) (outer : List Env) (s : Shared) (H : Hp) (vs : List V) (Q : VK) (E : XK), Room k (A.deeper (envOfC qual (defScope st) s.heap.objs.size f cdv)) → sp vs H Q E →
      ∃ t, PSs (cxOf (L2N.CX P w) P w K mg base N qual (defScope st) f cdv A outer s H E) (defBody st) t ∧ t { nx := fun _ H' => Q .non H', rt := Q } (start N vs) H) : MCal P w K mg base (k + 1) (He.ga K c) m sp := by
  obtain ⟨fd, F⟩ := F
  exact ⟨hc, _, fd, ps, F.ok S len fun cdv A outer s H vs Q E hr h => hbody _ cdv A outer s H vs Q E hr h, hm, F.bindsN hbd⟩
theorem fn_kcal {c qual : Str} {st : Stmt} {N ps : List Str} {k : Nat} {sp : Sp} (F : FnP K (c, some "__init__") "__init__" qual st) (hm : mg c = some (.ref (He.ga K c))) (M : Mk K (He.ga K c) (He.ma K (He.ga K c) "__init__")) (S : FnScope N ps (defScope st)) (len : ∀ vs H Q E, sp vs H Q E → vs.length = ps.length)
    (hbd : ∀ (kV doc pm : Value) (an : Option Addr) (cdv ct : Value) (us : List Value), us.length = ps.length → bindArgs (PySem.W.fnOf "__init__" qual (defArgs st) (defBody st) (defScope st) .none kV doc pm an cdv ct) ⟨us, []⟩ = pure (ps.zip us))
    (hbody : ∀ (f : Addr) (cdv : Value) (A : Around) (outer : List Env) (s : Shared) (H : Hp) (vs : List V) (Q : VK) (E : XK), Room k (A.deeper (envOfC qual (defScope st) s.heap.objs.size f cdv)) → sp vs H Q E →
      ∃ t, PSs (cxOf (L2N.CX P w) P w K mg base N qual (defScope st) f cdv A outer s H E) (defBody st) t ∧ t { nx := fun _ H' => Q .non H', rt := Q } (start N vs) H) : KCal P w K mg base (k + 1) c (He.ga K c) sp := by
  obtain ⟨fd, F⟩ := F
  exact ⟨_, fd, ps, M, F.ok S len fun cdv A outer s H vs Q E hr h => hbody _ cdv A outer s H vs Q E hr h, hm, F.bindsN hbd⟩
end
/-! ### the built-in names -/
structure Blt (mg : Str → Option Value) : Prop where
  len : mg "len" = none
  range : mg "range" = none
  min : mg "min" = none
  max : mg "max" = none
  isi : mg "isinstance" = none
  int : mg "int" = none
  bool : mg "bool" = none
  str : mg "str" = none
  list : mg "list" = none
  tuple : mg "tuple" = none
  dict : mg "dict" = none
  sorted : mg "sorted" = none
  enumerate : mg "enumerate" = none
  zip : mg "zip" = none
  all : mg "all" = none
  ValueError : mg "ValueError" = none
end RP

/-! ### in an except suite: a def that is handed the caught error -/
namespace RP
open PySem PySem.Spec PyProof.Rows L2 L2H HotX
section
variable {prog : Program} {w : World} {A : Around} {E : Value → Shared → Prop} {s : Shared}
theorem list_end_hot {it l x1 : Addr} {i : Nat} {items} {Q : Option Value → Shared → Prop} (hot : HotAt A x1 s.heap)
    (hit : s.heap.IsListIter it l i) (hl : s.heap.IsList l items) (hx : items[i]? = none) (hne : x1 ≠ it)
    (hQ : ∀ h', (∀ b o, b ≠ it → s.heap.get? b = some o → h'.get? b = some o) → Q none { s with heap := h' }) : wpAny (model prog w) A (pyNext (.ref it)) Q E s := by
  obtain ⟨o, ho, hc, hd⟩ := id hit
  obtain ⟨ol, hol, _, nl, hdl⟩ := hl
  obtain ⟨hh, o1, vs1, h1, d1, c1⟩ := hot
  unfold pyNext
  refine wpAny_bind (wpAny_attempt (wpAny_callSpecial?_slot (name := Str.ofString "__next__") hit.typeIs slot_listiter_next
    (wpAny_call_entry slot_listiter_next hit.typeIs entry_listiter_next ?_ (args_listiter_next _))))
  show wpAny _ _ (field (.ref it) 0 >>= _) _ _ s
  refine wpAny_bind (wpAny_field ho hd (x := .ref l) rfl ?_)
  show wpAny _ _ (if (Value.ref l == Value.none) = true then _ else _) _ _ s
  rw [if_neg (show ¬ ((Value.ref l == Value.none) = true) from Bool.false_ne_true)]
  show wpAny _ _ (field (.ref it) 1 >>= _) _ _ s
  refine wpAny_bind (wpAny_field ho hd (x := .int i 0) rfl ?_)
  show wpAny _ _ (seqItems? (.ref l) >>= _) _ _ s
  refine wpAny_bind (wpAny_seqItems hol hdl ?_)
  simp only [Int.toNat_natCast, hx]
  refine wpAny_bind (wpAny_rule (wpAny_bind (wpAny_setField ho hd (by simp) ?_)))
  show wpAny _ _ (newExc (.type "StopIteration") [] >>= _) _ _ _
  refine wpAny_bind ?_
  simp only [newExc, newTuple]
  refine wpAny_bind (wpAny_newObj_type ?_ (by size_fits))
  refine wpAny_bind (m := firstArgMember _ _) (wpAny_of_eq (a := Value.none) (by first | rfl | (simp only [firstArgMember]; rfl)) ?_)
  refine wpAny_newObj_type ?_ (by size_fits)
  have h1' := (Heap.get?_update_other s.heap (Obj.mapFields (·.setIfInBounds 0 .none)) hne.symm).trans h1
  refine raiseNew_hot ⟨hh, o1, vs1, Heap.get?_push_of_some _ (Heap.get?_push_of_some _ h1'), d1, c1⟩ (Nat.ne_of_lt (Heap.lt_size (Heap.get?_push_of_some _ h1'))) (Heap.get?_push_size _ rfl) rfl (by first | (simp; done) | (simp; omega) | (simp only [Array.size_append]; simp; omega)) ?_
  refine wpAny_bind (wpAny_isInstance (T := "StopIteration") (b := true) ⟨_, Heap.get?_update_self _ (Heap.get?_push_size _ rfl) rfl, rfl⟩ isSubtype_stop ?_)
  refine wpAny_pure (hQ _ fun b o hb e => ?_)
  have e' := (Heap.get?_update_other s.heap (Obj.mapFields (·.setIfInBounds 0 .none)) (Ne.symm hb)).trans e
  rw [Heap.get?_update_other _ _ (Nat.ne_of_gt (Heap.lt_size (Heap.get?_push_of_some _ e')))]
  exact Heap.get?_push_of_some _ (Heap.get?_push_of_some _ e')
end

theorem turn_listH {P : Program} {w : World} {K : PySem.W.Frag} {tg : Expr} (a it : Addr) : TurnH P w K tg (Itl K a) [it] it (fun i h => h.IsListIter it a i) where
  mem := by simp
  obj := fun i h st b hb => by
    have e : b = it := by simpa using hb
    subst e
    obtain ⟨o, e, c, d⟩ := st
    exact ⟨o, e, fun v z => by rw [d] at z; cases z⟩
  keep := fun i h h' st k => st.at fun o e => k it (by simp) o e
  item := by
    intro X hP hw hK hc i pins s σ H E I hf st hg
    subst hP hw hK
    obtain ⟨xs, x, hq, hx⟩ := hg
    obtain ⟨its, rv, p, hz⟩ := I.list hq
    obtain ⟨u, hu, ru⟩ := rv.get hx
    obtain ⟨f0, f1, f2, f3, f4, f5⟩ := hf it (by simp)
    refine wpAny_pyNext_list_item st p.isList (x := u) (by simpa using hu) fun h' st' sb => ?_
    have I1 : Inv X pins σ H { s with heap := h' } := I.turned (t' := s.toks) (fun b o hb e => (sb.2 b hb).trans e) f0 f1 f3 f4 f5
    obtain ⟨o, e, c, d⟩ := id st'
    exact ⟨u, rfl, go_of (s := { s with heap := h' }) e c d (by decide) ⟨x, H, I1, ru, ⟨rfl, fun ys hy => by rw [I.list_inj hy hq]; exact hx⟩, st', fun b hb => (hf b hb).1⟩⟩
  done := by
    intro X hP hw hK hc i pins s σ H E I hf st hg
    subst hP hw hK
    obtain ⟨xs, hq, hx⟩ := hg
    obtain ⟨its, rv, p, hz⟩ := I.list hq
    obtain ⟨f0, f1, f2, f3, f4, f5⟩ := hf it (by simp)
    have hl := rv.length
    obtain ⟨q, ⟨hh, v1, e1, c1⟩, hq1⟩ := hc
    have P1 := I.pin q (List.mem_append_left _ hq1)
    have hne : q.1 ≠ it := f5 q (List.mem_append_left _ hq1)
    refine list_end_hot ⟨hh, q.2, v1, P1.1, e1, c1⟩ st p.isList (by simp; omega) hne fun h' eb => ⟨rfl, I.turned (t' := s.toks) eb f0 f1 f3 f4 f5⟩
  self := fun _ _ _ _ _ st h => wpAny_pyIter_listiter st h

section
variable {X : Cx} {tg : Expr}
theorem pi_listH {l : Expr} {tl : TE} (hl : PE X l tl) : PIH X tg l (iList X.K tl) := by
  refine ⟨fun pins s σ H R I h => thn (hl.run pins s σ H _ I h) fun v s1 ⟨x, H1, I1, r1, a, ex, ⟨xs, hq⟩, q⟩ => ?_⟩
  subst ex
  cases r1
  obtain ⟨its, rv, p, hz⟩ := I1.list hq
  refine wpAny_pyIter_list p.isList ?_
  refine ⟨s1.heap.objs.size, [s1.heap.objs.size], _, _, H1, rfl, I1.kept (t' := s1.toks) fun b o e => Heap.get?_push_of_some _ e, turn_listH a _, ⟨_, Heap.get?_push_size _ rfl, rfl, rfl⟩, fun b hb => ?_, q⟩
  have e : b = s1.heap.objs.size := by simpa using hb
  subst e
  exact I1.fpOk (Nat.le_refl _) (I1.hok.fresh (Nat.le_refl _))
end
/-- what a def promises that is called within a suite: p is the handled exception -/
structure FnE (P : Program) (w : World) (K : PySem.W.Frag) (mg : Str → Option Value) (base : Heap) (k : Nat) (f : Addr) (fd : FuncData) (ps : List Str) (sp : Addr → Value → Option Addr → Sp) : Prop where
  len : ∀ a c d vs H Q E, sp a c d vs H Q E → vs.length = ps.length
  run : ∀ (A : Around) (outer : List Env) (s : Shared) (H : Hp) (args : Args) (us : List Value) (vs : List V) (Q : VK) (E : XK) (p : Addr × Obj) (c : Value) (d : Option Addr), RoomH k A → Hot1 A p → L2N.Zn c d p.2 → PinOk outer H s p → Env0 P w K mg base A outer s H → BindsTo s fd args (ps.zip us) → Vals vs us → sp p.1 c d vs H Q E →
    codeAny (model P w) A (.call (.ref f) args) (CR (L2N.CX P w) outer P w H s Q E) s
theorem fn_ofE {P : Program} {w : World} {K : PySem.W.Frag} {mg : Str → Option Value} {base : Heap} {k : Nat} {f : Addr} {name qual : Str} {params : Arguments} {body : List Stmt} {scope : Scope} {dV kV doc pm cdv ct oc : Value} {an od : Option Addr}
    {osl : Array (Option Value)} {N ps : List Str} {sp : Addr → Value → Option Addr → Sp} (lk : K.lookup f = some ⟨oc, od, .func (PySem.W.fnOf name qual params body scope dV kV doc pm an cdv ct), osl⟩) (hcd : PySem.W.codeIn K cdv qual = true) (S : FnScope N ps scope)
    (len : ∀ a c d vs H Q E, sp a c d vs H Q E → vs.length = ps.length)
    (hbody : ∀ (A : Around) (outer : List Env) (s : Shared) (H : Hp) (vs : List V) (Q : VK) (E : XK) (p : Addr × Obj) (c : Value) (d : Option Addr), Hot1 A p → L2N.Zn c d p.2 → RoomH k (A.deeper (envOfC qual scope s.heap.objs.size f cdv)) → sp p.1 c d vs H Q E →
      ∃ t, PSs (cxH (L2N.CX P w) P w K mg base N qual scope f cdv A outer s H E p) body t ∧ t { nx := fun _ H' => Q .non H', rt := Q } (L2.start N vs) H) :
    FnE P w K mg base (k + 1) f (PySem.W.fnOf name qual params body scope dV kV doc pm an cdv ct) ps sp := by
  constructor
  · exact len
  intro A outer s H args us vs Q E p c d hr hot hz hpin e0 hb r hsp
  have hin : ∀ b o, base.get? b = some o → s.heap.get? b = some o := fun b o e => (e0.bs b o e).1
  have hK : K.In s.heap := PySem.W.Frag.In.keeps e0.mod.kin hin
  have hpar : ∀ y ∈ ps.zip us, scope.names.lookup y.1 = some .local ∨ (scope.names.lookup y.1 = some .cell ∧ ((cellsFrom (s.heap.objs.size + 1) scope.names []).lookup y.1).isSome = true) := by
    rintro ⟨n, v⟩ hy
    have q := S.par n (List.of_mem_zip hy).1
    cases q with
    | inl q => exact Or.inl q
    | inr q => exact Or.inr ⟨q, PySem.W.cellsFrom_some _ _ _ (Or.inl q)⟩
  refine codeAny_call_function hr.depth (hK _ _ lk) rfl S.co S.gen rfl (PySem.W.codeRec_of hK hcd) (hb _ _ _ _ (wpAny_newFunctionEnv_cells S.kind hpar ?_))
  intro env he s1 x
  subst he
  refine ⟨(e0.mod.nolimit.keeps hin).keeps x.toInCall.keep, codeAny_func ?_⟩
  obtain ⟨t, ht, hq⟩ := hbody A outer s H vs Q E p c d hot hz (hr.deeper _) hsp
  have I := inv_startH (CX := L2N.CX P w) (K := K) (mg := mg) (base := base) (N := N) (qual := qual) (f := f) (cd := cdv) (E := E) S hpin e0 (len _ _ _ _ _ _ _ hsp) r x
  refine wpAny_mono (ht.run [] s1 _ H _ I hq) ?_ fun _ _ z => z
  intro fl s' hs
  cases fl with
  | ret u => exact match hs with | ⟨v, _, H', J, rv, q⟩ => ⟨v, H', J.os, J.bare, J.base, J.hok, rv, q⟩
  | next => exact match hs with | ⟨_, H', J, q⟩ => ⟨V.non, H', J.os, J.bare, J.base, J.hok, rfl, q⟩
  | brk => exact match hs with | ⟨_, _, _, q⟩ => q.elim
  | cont => exact match hs with | ⟨_, _, _, q⟩ => q.elim
section
variable {X : Cx} {k : Nat} {sp : Addr → Value → Option Addr → Sp} {cls : Value} {dd : Option Addr} {W : WX} {x m : Str} {pos q : Pos} {e o : Expr} {es : List Expr} {ta : TE} {t : TA} {p : Addr × Obj}
/-- a def of the module, as a suite's call uses it -/
def CalE (P : Program) (w : World) (K : PySem.W.Frag) (mg : Str → Option Value) (base : Heap) (k : Nat) (x : Str) (sp : Addr → Value → Option Addr → Sp) : Prop :=
  ∃ (f : Addr) (fd : FuncData) (ps : List Str), FnE P w K mg base k f fd ps sp ∧ mg x = some (.ref f) ∧ PySem.W.keepIn K (.ref f) = true ∧ L2.Binds K fd ps []
theorem pe_fnE (c : CalE X.prog X.w X.K X.mg X.base k x sp) (hr : RoomH k X.A) {a : Addr} {oe : Obj} (hot : Hot1 X.A (a, oe)) (hz : L2N.Zn cls dd oe) (hp : (a, oe) ∈ X.pn) (tk : L2N.Takes X W) (ha : PA X (e :: es) t) (hg : Gl X x := by rfl) (hdb : (x == ("__debug__" : Str)) = false := by decide)
    (he : starEach (e :: es) X.env = (false, eval e X.env) :: starEach es X.env := by rfl) (hpl : (backTo pos (starEach es X.env)).any (·.1) = false := by rfl) :
    PE X (.Call (.Name x q) (e :: es) [] pos) (tCallS (sp a cls dd) (WE W) t) := by
  obtain ⟨f, fd, ps, F, hm, hk, hb⟩ := c
  constructor
  intro pins s σ H Q I h
  refine wpAny_Call_Name_kw (ld_glob I hg hm ?_ hdb)
  refine PySem.W.callWith_K (h₀ := X.base) I.ok.mod.kin hk (thn (ha.run pos pins s σ H _ I h) ?_) he hpl
  rintro us s1 ⟨vs, H1, I1, r, hsp⟩
  refine ⟨I1.kIn, ?_⟩
  have b := hb s1 us I1.kIn (by rw [List.append_nil, ← r.length]; exact F.len _ _ _ _ _ _ _ hsp)
  rw [List.append_nil] at b
  have P1 := I1.pin (a, oe) (List.mem_append_left _ hp)
  have hpin : PinOk X.stack H1 s1 (a, oe) := ⟨P1.1, P1.2.1, fun hm => (List.mem_cons.mp (I1.stkSub a hm)).elim P1.2.2.1 P1.2.2.2.1, P1.2.2.2.2⟩
  refine wpAny_call (codeAny_mono (F.run X.A X.stack s1 H1 ⟨us, []⟩ us vs Q (WE W σ) (a, oe) cls dd hr hot hz hpin I1.env0 b r hsp) fun rs s' hq => ?_)
  cases rs with
  | error e => exact L2N.passAt tk σ pins H1 s1 e s' I1 hq
  | ok fl => cases fl with
    | ret u => exact I1.after hq
    | next => exact hq.elim
    | brk => exact hq.elim
    | cont => exact hq.elim
def clsOf : V → Option Value
  | .ref a => some (.ref a)
  | .ty n => some (.type n)
  | _ => none
/-- isinstance(e, c), e the handled exception -/
def rIsEC (K : PySem.W.Frag) (a : Addr) (cls : Value) : List V → Hp → VK → Prop := fun xs H Q => ∃ (c : V) (cv : Value) (b : Bool), xs = [.ref a, c] ∧ clsOf c = some cv ∧ PySem.W.kitOne K cls cv = some b ∧ Q (.bl b) H
theorem isE {D a : Addr} {oe : Obj} (C : ExcC X.K D) (hp : (a, oe) ∈ X.pn) (hz : L2N.Zn cls dd oe) (hc : cls = .ref D) (hd : dd = none) (hf : ∃ vs, oe.data = .fields vs) : CallR X (.builtin "isinstance") (rIsEC X.K a cls) := by
  subst hc hd
  rintro pins s σ H xs us Q I r ⟨c, cv, b, rfl, hcv, e, q⟩
  obtain ⟨u1, u2, rfl, r1, r2⟩ := vals2 r
  cases r1
  have ec : u2 = cv := by
    cases c <;> simp only [clsOf, Option.some.injEq, reduceCtorEq] at hcv
    · rw [← hcv]; exact r2
    · rw [← hcv]; exact r2
  subst ec
  have hget := (I.pin (a, oe) (List.mem_append_left _ hp)).1
  have J : PySem.W.InstAt s.heap a oe D none := by
    obtain ⟨oc, od, oda, osl⟩ := oe
    obtain ⟨z1, z2, _⟩ := hz
    obtain ⟨vs, hv⟩ := hf
    dsimp only at z1 z2 hv
    subst z1 z2 hv
    exact ⟨hget, rfl, rfl, trivial⟩
  exact PySem.W.kia_one (PySem.W.handS_kitx_exc C.hg C.hk C.hs C.hd C.ha C.hn C.ht C.hm) I.kIn J e (fun z => nomatch z) fun tk => ⟨.bl b, H, I.kept (t' := tk) fun _ _ z => z, rfl, q⟩
theorem tkN {a' : Addr} {pn' : List (Addr × Obj)} : L2N.Takes (X.suite a' pn') (fun _ _ _ _ => False) := fun _ _ ⟨_, _, _, _, _, _, _, _, _, _, _, _, _, _, _, _, w⟩ => w.elim
theorem tkB {s : Shared} {H : Hp} {sc : Scope} {ce : Env} {fp : List Addr} : L2N.Takes (X.blk s H sc ce fp) (fun _ _ _ _ => False) := fun _ _ ⟨_, _, _, _, _, _, _, _, _, _, _, _, _, _, _, _, w⟩ => w.elim
end
/-- a def of the module for suites, by its body -/
theorem fn_calE {P : Program} {w : World} {K : PySem.W.Frag} {mg : Str → Option Value} {base : Heap} {x : Str} {st : Stmt} {N ps : List Str} {k : Nat} {sp : Addr → Value → Option Addr → Sp} (F : FnP K (x, none) x x st) (hm : mg x = some (.ref (He.ga K x))) (S : FnScope N ps (defScope st))
    (len : ∀ a c d vs H Q E, sp a c d vs H Q E → vs.length = ps.length)
    (hbd : ∀ (kV doc pm : Value) (an : Option Addr) (cdv ct : Value) (us : List Value), us.length = ps.length → bindArgs (PySem.W.fnOf x x (defArgs st) (defBody st) (defScope st) .none kV doc pm an cdv ct) ⟨us, []⟩ = pure (ps.zip us))
    (hbody : ∀ (f : Addr) (cdv : Value) (A : Around) (outer : List Env) (s : Shared) (H : Hp) (vs : List V) (Q : VK) (E : XK) (p : Addr × Obj) (c : Value) (d : Option Addr), Hot1 A p → L2N.Zn c d p.2 → RoomH k (A.deeper (envOfC x (defScope st) s.heap.objs.size f cdv)) → sp p.1 c d vs H Q E →
      ∃ t, PSs (cxH (L2N.CX P w) P w K mg base N x (defScope st) f cdv A outer s H E p) (defBody st) t ∧ t { nx := fun _ H' => Q .non H', rt := Q } (L2.start N vs) H) : CalE P w K mg base (k + 1) x sp := by
  obtain ⟨fd, F⟩ := F
  obtain ⟨oc, od, dV, kV, doc, pm, an, cdv, ct, osl, rfl, lk, hcd, _, _⟩ := F.ex
  exact ⟨_, _, ps, fn_ofE lk hcd S len fun A outer s H vs Q E p c d h1 h2 hr h => hbody _ cdv A outer s H vs Q E p c d h1 h2 hr h, hm, F.kp, F.bindsN hbd⟩
theorem roomS {j k : Nat} {A : Around} {x : Option Value} (hr : Room j A) (h : k ≤ j) : RoomH k (A.mark x) := ⟨(roomH_of (hr.mono h)).dp, (roomH_of (hr.mono h)).un⟩
end RP

/-! ### rules whose readings simp can reckon -/
namespace RP
open PySem PySem.Spec PyProof.Rows L2
section
variable {X : Cx} {e : Expr} {st : Stmt}
theorem pe_imp {t t' : TE} (h : PE X e t) (i : ∀ σ H Q, t' σ H Q → t σ H Q) : PE X e t' := ⟨fun pins s σ H Q I q => h.run pins s σ H Q I (i σ H Q q)⟩
theorem pt_imp {t t' : TT} (h : PT X e t) (i : ∀ σ H Q, t' σ H Q → t σ H Q) : PT X e t' := ⟨fun pins s σ H Q I q => h.run pins s σ H Q I (i σ H Q q)⟩
theorem ps_imp {t t' : TS} (h : PS X st t) (i : ∀ D σ H, t' D σ H → t D σ H) : PS X st t' := ⟨fun pins s σ H D I q => h.run pins s σ H D I (i D σ H q)⟩
theorem call_imp {f : Value} {r r' : List V → Hp → VK → Prop} (h : CallR X f r) (i : ∀ vs H Q, r' vs H Q → r vs H Q) : CallR X f r' := fun pins s σ H xs us Q I v q => h pins s σ H xs us Q I v (i xs H Q q)
theorem op_imp {f : Value → Value → Sem Value} {r r' : R2} (h : OpR X f r) (i : ∀ x y H Q, r' x y H Q → r x y H Q) : OpR X f r' := fun pins s σ H x y v u Q I rx ry q => h pins s σ H x y v u Q I rx ry (i x y H Q q)
theorem ix_imp {r r' : R2} (h : IxR X r) (i : ∀ x y H Q, r' x y H Q → r x y H Q) : IxR X r' := fun a b pins s σ H x y v u Q I rx ry q => h a b pins s σ H x y v u Q I rx ry (i x y H Q q)
end
/-! #### what stands at a value -/
def tyN (H : Hp) : V → Option String
  | .non => some "NoneType"
  | .bl _ => some "bool"
  | .int _ => some "int"
  | .str _ => some "str"
  | .ref a => match H a with
    | some (.lst _) => some "list"
    | some (.tup _) => some "tuple"
    | some (.dK _) => some "dict"
    | _ => none
  | _ => none
def seqO (H : Hp) (a : Addr) : Option (List V) := match H a with
  | some (.lst xs) => some xs
  | some (.tup xs) => some xs
  | some (.frz _ (.lst xs)) => some xs
  | _ => none
def keyV : V → Option Key
  | .int n => some (.inl n)
  | .str x => some (.inr x)
  | _ => none
theorem keyV_eq {v : V} {k : Key} (h : keyV v = some k) : v = kV k := by
  cases v <;> simp only [keyV, Option.some.injEq, reduceCtorEq] at h <;> subst h <;> rfl
theorem tyN_ok {K : PySem.W.Frag} {H : Hp} {x : V} {t : String} (h : tyN H x = some t) : TyX K H x (.type t) := by
  cases x with
  | non => cases h; exact .base .non
  | bl b => cases h; exact .base (.bl b)
  | int i => cases h; exact .base (.int i)
  | str s => cases h; exact .base (.str s)
  | byt b => cases h
  | flt b => cases h
  | ty n => cases h
  | ref a =>
    unfold tyN at h
    dsimp only at h
    split at h
    · cases h; exact .base (.lst (by assumption))
    · cases h; exact .base (.tup (by assumption))
    · cases h; exact .base (.dK (by assumption))
    · cases h
theorem seqO_ok {K : PySem.W.Frag} {H : Hp} {a : Addr} {xs : List V} (h : seqO H a = some xs) : SqL K H a xs ∨ SqT K H a xs := by
  unfold seqO at h
  split at h
  · cases h; exact .inl (SqL.of (by assumption))
  · cases h; exact .inr (SqT.of (by assumption))
  · cases h; exact .inl (.inl (.inr ⟨_, by assumption⟩))
  · cases h
section
variable {X : Cx}
def rIsC : List V → Hp → VK → Prop := fun vs H Q => ∃ x c t b, vs = [x, .ty c] ∧ tyN H x = some t ∧ kitB t c = some b ∧ Q (.bl b) H
theorem call_isC : CallR X (.builtin "isinstance") rIsC := call_imp call_isi fun vs H Q ⟨x, c, t, b, e, h1, h2, q⟩ => ⟨x, .ty c, .type t, .type c, b, e, .ty c, tyN_ok h1, kit_ty h2, q⟩
def lenO (H : Hp) (a : Addr) : Option Nat := match H a with
  | some (.dK kvs) => some kvs.length
  | _ => (seqO H a).map List.length
def rLenC : List V → Hp → VK → Prop := fun vs H Q => ∃ a n, vs = [.ref a] ∧ lenO H a = some n ∧ Q (.int (n : Int)) H
theorem call_lenC : CallR X (.builtin "len") rLenC := by
  intro pins s σ H xs us Q I r h
  obtain ⟨a, n, rfl, e, q⟩ := h
  unfold lenO at e
  split at e
  · cases e
    exact call_lenD pins s σ H _ us Q I r ⟨_, _, rfl, by assumption, q⟩
  · obtain ⟨ys, e1, rfl⟩ := Option.map_eq_some_iff.mp e
    exact call_len_seq pins s σ H _ us Q I r ⟨_, _, rfl, seqO_ok e1, q⟩
def rIxC : R2 := fun x y H Q => ∃ p xs i v, x = .ref p ∧ y = .int i ∧ seqO H p = some xs ∧ atI xs i = some v ∧ Q v H
theorem ix_C : IxR X rIxC := ix_imp (IxR.or ix_list ix_tup) fun x y H Q ⟨p, xs, i, v, e1, e2, h, a, q⟩ => (seqO_ok (K := X.K) h).elim (fun z => .inl ⟨p, xs, i, v, e1, e2, z, a, q⟩) fun z => .inr ⟨p, xs, i, v, e1, e2, z, a, q⟩
def rInC (neg : Bool) : R2 := fun x y H Q => ∃ p xs, y = .ref p ∧ seqO H p = some xs ∧ flatV x = true ∧ xs.all flatV = true ∧ Q (.bl (if neg then !inV x xs else inV x xs)) H
theorem op_inC : OpR X (compareOp .In) (rInC false) := op_imp op_in_seq fun x y H Q ⟨p, xs, e, h, f1, f2, q⟩ => ⟨p, xs, e, seqO_ok h, f1, f2, q⟩
theorem op_notInC : OpR X (compareOp .NotIn) (rInC true) := op_imp op_notIn_seq fun x y H Q ⟨p, xs, e, h, f1, f2, q⟩ => ⟨p, xs, e, seqO_ok h, f1, f2, q⟩
/-! #### dicts with keys that are ints or texts -/
variable {a b o i value : Expr} {pos pos' apos cpos : Pos} {td ty tv te : TE}
def tInD (neg : Bool) (ty td : TE) : TE := fun σ H Q => ty σ H fun y H1 => td σ H1 fun x H2 => ∃ a kvs k, x = .ref a ∧ H2 a = some (.dK kvs) ∧ keyV y = some k ∧ Q (.bl (if neg then !(valV kvs k).isSome else (valV kvs k).isSome)) H2
theorem pc_imp {op : CmpOp} {t t' : TE} (h : PC X op a b t) (i : ∀ σ H Q, t' σ H Q → t σ H Q) : PC X op a b t' := ⟨fun pins s σ H Q I q => h.run pins s σ H Q I (i σ H Q q)⟩
/-- what must hold, by a wish that is less -/
def tMn (t : TE) : TE := fun σ H Q => ∃ R : VK, t σ H R ∧ ∀ x H1, R x H1 → Q x H1
theorem pe_mn {t : TE} (h : PE X a t) : PE X a (tMn t) := ⟨fun pins s σ H Q I ⟨R, r, m⟩ => thn (h.run pins s σ H R I r) fun u s1 ⟨v, H1, I1, rv, q⟩ => ⟨v, H1, I1, rv, m _ _ q⟩⟩
def tMnA (t : TA) : TA := fun σ H Q => ∃ R : List V → Hp → Prop, t σ H R ∧ ∀ x H1, R x H1 → Q x H1
theorem getK {H : Hp} {a : Addr} {kvs : List (Key × V)} {k : Key} {y : V} (e : H a = some (.dK kvs)) (h : keyV y = some k) : DGet H a y (valV kvs k) := by
  rw [keyV_eq h]
  exact DGet.k e
theorem pc_inD (hu : X.A.units + 1 < cLine) (hi : PE X i ty) (ho : PE X o td) : PC X .In i o (tInD false ty td) :=
  pc_imp (pc_din hu (pe_mn hi) (pe_mn ho)) fun σ H Q h => ⟨_, h, fun y H1 q => ⟨_, q, fun x H2 ⟨a, kvs, k, e, ea, ek, q⟩ => ⟨a, _, e, getK ea ek, q⟩⟩⟩
theorem pc_notinD (hu : X.A.units + 1 < cLine) (hi : PE X i ty) (ho : PE X o td) : PC X .NotIn i o (tInD true ty td) :=
  pc_imp (pc_dnotin hu (pe_mn hi) (pe_mn ho)) fun σ H Q h => ⟨_, h, fun y H1 q => ⟨_, q, fun x H2 ⟨a, kvs, k, e, ea, ek, q⟩ => ⟨a, _, e, getK ea ek, q⟩⟩⟩
def tGetD (td ty : TE) : TE := fun σ H Q => td σ H fun x H1 => ty σ H1 fun y H2 => ∃ a kvs k v, x = .ref a ∧ H2 a = some (.dK kvs) ∧ keyV y = some k ∧ valV kvs k = some v ∧ Q v H2
theorem pe_getD (hu : X.A.units + 1 < cLine) (ho : PE X o td) (hi : PE X i ty) (hs : NoSl i) : PE X (.Subscript o i pos) (tGetD td ty) :=
  pe_imp (pe_dget hu (pe_mn ho) (pe_mn hi) hs) fun σ H Q h => ⟨_, h, fun y H1 q => ⟨_, q, fun x H2 ⟨a, kvs, k, v, e, ea, ek, ev, q⟩ => ⟨a, v, e, ev ▸ getK ea ek, q⟩⟩⟩
def sPutD (td ty tv : TE) : TS := fun D σ H => tv σ H fun v H1 => td σ H1 fun x H2 => ty σ H2 fun y H3 => ∃ a kvs k, x = .ref a ∧ H3 a = some (.dK kvs) ∧ keyV y = some k ∧ kvs.length < sizeLine ∧ D.nx σ (upd H3 a (.dK (putK kvs k v)))
theorem ps_putD (hu : X.A.units + 1 < cLine) (ho : PE X o td) (hi : PE X i ty) (hv : PE X value tv) (hs : swapsWith value (some (.Subscript o i pos')) pos.line X.env = pure false) :
    PS X (.Assign [.Subscript o i pos'] value pos) (sPutD td ty tv) :=
  ps_imp (ps_dput hu (pe_mn ho) (pe_mn hi) (pe_mn hv) hs) fun D σ H h => ⟨_, h, fun v H1 q => ⟨_, q, fun x H2 q => ⟨_, q, fun y H3 ⟨a, kvs, k, e, ea, ek, hl, q⟩ => ⟨a, _, e, by rw [keyV_eq ek]; exact DPut.k ea hl, q⟩⟩⟩⟩
def tPopD (td ty : TE) : TE := fun σ H Q => td σ H fun x H1 => ∃ a kvs, x = .ref a ∧ H1 a = some (.dK kvs) ∧ ty σ H1 fun y H2 => ∃ kvs k v, H2 a = some (.dK kvs) ∧ keyV y = some k ∧ valV kvs k = some v ∧ Q v (upd H2 a (.dK (dropK kvs k)))
theorem pe_popD (ho : PE X o td) (he : PE X e ty) (m : M1 X o "pop" apos e cpos) : PE X (.Call (.Attribute o "pop" apos) [e] [] cpos) (tPopD td ty) :=
  pe_imp (pe_dpop1 (pe_mn ho) (pe_mn he) m) fun σ H Q h => ⟨_, h, fun x H1 ⟨a, kvs, e, ea, q⟩ => ⟨a, e, (.inl ⟨kvs, .inl ea⟩), ⟨_, q, fun y H2 ⟨kvs, k, v, e2, ek, ev, q⟩ => ⟨kvs, k, v, e2, keyV_eq ek, ev, q⟩⟩⟩⟩
/-! #### lists -/
variable {tl : TE} {t : TA} {es : List Expr}
def tAppC (tl te : TE) : TE := fun σ H Q => tl σ H fun x H1 => ∃ l ys, x = .ref l ∧ H1 l = some (.lst ys) ∧ te σ H1 fun y H2 => ∃ xs, H2 l = some (.lst xs) ∧ xs.length < sizeLine ∧ Q .non (upd H2 l (.lst (xs ++ [y])))
theorem pe_app (hl : PE X o tl) (he : PE X e te) (hbase : attributeBase o "append" X.env (eval o X.env) = eval o X.env := by rfl)
    (hfew : ((backTo cpos (starEach [e] X.env)).all (fun x => !x.1) && (backToKw cpos (keywordEach [] X.env)).all (fun x => x.1.isSome) && decide (([e] : List Expr).length + ([] : List Keyword).length + (if ([] : List Keyword).isEmpty then 0 else 1) < 30)) = true := by rfl)
    (hline : (apos.endLine == cpos.line) = true := by rfl) (hs : starEach [e] X.env = (false, eval e X.env) :: starEach [] X.env := by rfl) (hplain : (backTo cpos (starEach [] X.env)).any (·.1) = false := by rfl) :
    PE X (.Call (.Attribute o "append" apos) [e] [] cpos) (tAppC tl te) :=
  pe_imp (pe_bm PySem.F.plainAttrs_list PySem.F.slot_list_append PySem.F.type_list_append mt_append (pe_mn hl) (pa_cons (pe_mn he) pa_nil hs) hbase hfew hline hs hplain)
    fun σ H Q h => ⟨_, h, fun x H1 ⟨l, ys, e1, e2, q⟩ => ⟨by rw [e1]; exact .inl ⟨rfl, _, SqL.of e2⟩, ⟨_, q, fun y H2 ⟨xs, e3, z, q⟩ => ⟨l, xs, y, e1, rfl, e3, z, q⟩⟩⟩⟩
/-! #### data, compared -/
def mapO (f : V → Option PyData) : List V → Option (List PyData)
  | [] => some []
  | v :: r => match f v, mapO f r with
    | some d, some ds => some (d :: ds)
    | _, _ => none
def dat (H : Hp) : Nat → V → Option PyData
  | _, .non => some .none
  | _, .bl b => some (.bool b)
  | _, .int i => some (.int i)
  | _, .str x => some (.str x)
  | n + 1, .ref a => match H a with
    | some (.lst xs) => (mapO (dat H n) xs).map PyData.list
    | some (.tup xs) => (mapO (dat H n) xs).map PyData.tuple
    | some (.frz _ (.lst xs)) => (mapO (dat H n) xs).map PyData.list
    | _ => none
  | _, _ => none
theorem mapO_ok {K : PySem.W.Frag} {H : Hp} {f : V → Option PyData} (hf : ∀ v d, f v = some d → Dp K H v d) : ∀ {xs : List V} {ds : List PyData}, mapO f xs = some ds → DpAll K H xs ds
  | [], ds, h => by cases h; exact .nil
  | v :: r, ds, h => by
    unfold mapO at h
    split at h
    · rename_i d ds' h1 h2
      cases h
      exact .cons (hf _ _ h1) (mapO_ok hf h2)
    · cases h
theorem dat_ok {K : PySem.W.Frag} {H : Hp} : ∀ (n : Nat) (v : V) (d : PyData), dat H n v = some d → Dp K H v d
  | _, .non, d, h => by
    unfold dat at h
    cases h
    exact .non
  | _, .bl b, d, h => by
    unfold dat at h
    cases h
    exact .bl b
  | _, .int i, d, h => by
    unfold dat at h
    cases h
    exact .int i
  | _, .str x, d, h => by
    unfold dat at h
    cases h
    exact .str x
  | 0, .ref a, d, h => by
    unfold dat at h
    cases h
  | n + 1, .ref a, d, h => by
    unfold dat at h
    split at h
    · obtain ⟨ds, e, rfl⟩ := Option.map_eq_some_iff.mp h
      exact .lst (SqL.of (by assumption)) (mapO_ok (dat_ok n) e)
    · obtain ⟨ds, e, rfl⟩ := Option.map_eq_some_iff.mp h
      exact .tup (SqT.of (by assumption)) (mapO_ok (dat_ok n) e)
    · obtain ⟨ds, e, rfl⟩ := Option.map_eq_some_iff.mp h
      exact .lst (.inl (.inr ⟨_, by assumption⟩)) (mapO_ok (dat_ok n) e)
    · cases h
  | 0, .byt b, d, h => by unfold dat at h; cases h
  | 0, .flt b, d, h => by unfold dat at h; cases h
  | 0, .ty n, d, h => by unfold dat at h; cases h
  | _ + 1, .byt b, d, h => by unfold dat at h; cases h
  | _ + 1, .flt b, d, h => by unfold dat at h; cases h
  | _ + 1, .ty n, d, h => by unfold dat at h; cases h
def rEqC (neg : Bool) : R2 := fun x y H Q => ∃ d e, dat H 8 x = some d ∧ dat H 8 y = some e ∧ SeqAt.shaped d = true ∧ SeqAt.shaped e = true ∧ Q (.bl (if neg then !PyData.eqv d e else PyData.eqv d e)) H
theorem op_eqC (hu : X.A.units + 64 < cLine) : OpR X (compareOp .Eq) (rEqC false) := op_imp (op_eqD hu) fun x y H Q ⟨d, e, h1, h2, s1, s2, q⟩ => ⟨d, e, dat_ok _ _ _ h1, dat_ok _ _ _ h2, s1, s2, q⟩
theorem op_neC (hu : X.A.units + 64 < cLine) : OpR X (compareOp .NotEq) (rEqC true) := op_imp (op_neD hu) fun x y H Q ⟨d, e, h1, h2, s1, s2, q⟩ => ⟨d, e, dat_ok _ _ _ h1, dat_ok _ _ _ h2, s1, s2, q⟩
/-! #### text * int -/
theorem op_mul_str : OpR X (binaryOp .Mult) (fun x y H Q => ∃ z n, x = .str z ∧ y = .int n ∧ MulOk z n ∧ Q (.str (Txt.mul z n)) H) := by
  rintro pins s σ H x y v u Q I rx ry ⟨z, n, rfl, rfl, hz, q⟩
  obtain ⟨t, rfl⟩ := rx
  obtain ⟨t', rfl⟩ := ry
  exact SB.mul hz fun t1 k => ⟨.str (Txt.mul z n), H, I.tok _, ⟨_, rfl⟩, q⟩
/-! #### is, is not of truth values -/
end
/-! #### min of three, of four -/
section
variable {prog : Program} {w : World} {A : Around} {E : Value → Shared → Prop} {s : Shared}
theorem call_min_of {us : List Value} (hsz : sizeOk (.seq us.toArray)) (ha : argsOk "min" ⟨us, []⟩) (hp : ∀ s : Shared, (Builtin.Builtins.bindParams "min" ["key", "default"] 0 ⟨[], []⟩) = pure [none, none]) {a b : Value} {r : List Value} (hus : us = a :: b :: r) {Q : Value → Shared → Prop}
    (h : wpAny (model prog w) A.in1 (pyIter (.ref s.heap.objs.size)) (fun it s₂ => ∃ I fp wr n P St bt, it = .ref I ∧ Walks prog w A.in1 I fp wr n P St ∧ St 0 s₂.heap ∧ (∀ b ∈ fp, b < s₂.heap.objs.size) ∧ 0 < n ∧ CmpOf prog w A.in1 .Lt P bt ∧
      ∀ v h' tk, P (argBest bt (n - 1)) v → (∀ b o, b ∉ wr → s₂.heap.get? b = some o → h'.get? b = some o) → Q v { s₂ with heap := h', toks := tk }) E
      { s with heap := s.heap.push { cls := .type "tuple", data := .seq us.toArray } }) :
    wpAny (model prog w) A (call (.builtin "min") us) Q E s := by
  subst hus
  have hname : (toString "min" ++ toString ".loop" : String) = "min.loop" := by decide
  refine call_function_tree F.kind_min F.plain_min F.entry_min ha ?_
  show wpAny _ A.in1 (Builtin.Builtins.bindParams "min" ["key", "default"] 0 ⟨[], []⟩ >>= _) _ _ s
  refine wpAny_bind (wpAny_of_eq (hp s) ?_)
  show wpAny _ A.in1 (newTuple (a :: b :: r) >>= _) _ _ s
  refine wpAny_bind (wpAny_newObj_type ?_ hsz)
  refine wpAny_bind (wpAny_mono h (fun it s₂ h₂ => ?_) fun _ _ e => e)
  obtain ⟨I, fp, wr, n, P, St, bt, rfl, W, hst, hfp, hn, hcmp, hQ⟩ := h₂
  refine wpAny_bind (wpAny_newObj_type ?_)
  have hSf : s₂.heap.objs.size ∉ fp := fun hm => Nat.lt_irrefl _ (hfp _ hm)
  rw [hname]
  refine wpAny_pure ⟨plainId_quiet F.plain_min_loop _, codeAny_min_loop_first W bt hcmp s₂.heap.objs.size hSf hn (W.frame _ _ _ hst fun b _ o e => Heap.get?_push_of_some _ e) (Heap.get?_push_size _ rfl) fun v h' tk hP hk => ?_⟩
  exact hQ v h' tk hP fun b o hbw e => hk b o hbw (Nat.ne_of_lt (Heap.lt_size e)) (Heap.get?_push_of_some _ e)
theorem min_walk {xs : Array (Int × Tok)} {us : List Value} (hxs : (intItems xs).toList = us) (hsz : sizeOk (.seq us.toArray)) (ha : argsOk "min" ⟨us, []⟩) {a b : Value} {r : List Value} (hus : us = a :: b :: r) (hh : A.handled = none) {Q : Value → Shared → Prop}
    (h : ∀ v h' tk, (intItems xs)[argBest (fun i j => decide (numAt xs i < numAt xs j)) (xs.size - 1)]? = some v → (∀ c o, s.heap.get? c = some o → h'.get? c = some o) → Q v { s with heap := h', toks := tk }) :
    wpAny (model prog w) A (call (.builtin "min") us) Q E s := by
  have hu : us.toArray = intItems xs := by rw [← hxs]
  have hT : (s.heap.push { cls := .type "tuple", data := .seq us.toArray }).IsTuple s.heap.objs.size (intItems xs) := ⟨_, Heap.get?_push_size _ rfl, rfl, 0, by rw [hu]⟩
  have hn : 0 < (intItems xs).size := by rw [← hu, hus]; simp
  refine call_min_of hsz ha (fun _ => rfl) hus (wpAny_pyIter_tuple hT ?_)
  have hs1 : (s.heap.push { cls := .type "tuple", data := .seq us.toArray }).objs.size = s.heap.objs.size + 1 := Heap.size_push ..
  refine ⟨_, [_, s.heap.objs.size], [_], _, _, _, _, rfl, Walks.tuple (A := A.in1) hh _ s.heap.objs.size (by rw [hs1]; exact Nat.ne_of_lt (Nat.lt_succ_self _)) (intItems xs),
    ⟨⟨_, Heap.get?_push_size _ rfl, rfl, rfl⟩, hT.push _⟩, fun c hc => ?_, hn, CmpOf.ints_lt (numAt xs) (fun _ _ => intItems_at), fun v h' tk hP hk => ?_⟩
  · show c < ((s.heap.push _).push _).objs.size
    rw [Heap.size_push, hs1]
    simp only [List.mem_cons, List.not_mem_nil, or_false, hs1] at hc
    rcases hc with rfl | rfl
    · exact Nat.lt_succ_self _
    · exact Nat.lt_succ_of_lt (Nat.lt_succ_self _)
  · refine h v h' tk (by simpa [intItems] using hP) fun c o e => hk c o (fun hm => ?_) (Heap.get?_push_of_some _ (Heap.get?_push_of_some _ e))
    have hlt := Heap.lt_size e
    simp only [List.mem_cons, List.not_mem_nil, or_false, hs1] at hm
    rw [hm] at hlt
    exact Nat.lt_irrefl _ (Nat.lt_of_succ_lt hlt)
def mn2 (a b : Int) : Int := if b < a then b else a
theorem args_min3 (a b c : Value) : argsOk "min" ⟨[a, b, c], []⟩ := by unfold argsOk; kernel_rfl
theorem args_min4 (a b c d : Value) : argsOk "min" ⟨[a, b, c, d], []⟩ := by unfold argsOk; kernel_rfl
theorem min_three {a b c : Int} {t u v : Tok} {Q : Value → Shared → Prop} (hh : A.handled = none)
    (h : ∀ h' tk z, (∀ c o, s.heap.get? c = some o → h'.get? c = some o) → Q (.int (mn2 (mn2 a b) c) z) { s with heap := h', toks := tk }) :
    wpAny (model prog w) A (call (.builtin "min") [.int a t, .int b u, .int c v]) Q E s := by
  refine min_walk (us := [.int a t, .int b u, .int c v]) (xs := #[(a, t), (b, u), (c, v)]) (by simp [intItems]) (by size_fits) (args_min3 _ _ _) rfl hh fun r h' tk hr hk => ?_
  have e : ∃ z, r = .int (mn2 (mn2 a b) c) z := by
    unfold mn2
    by_cases h1 : b < a <;> by_cases h2 : c < b <;> by_cases h3 : c < a <;> simp [intItems, argBest, numAt, h1, h2, h3] at hr ⊢ <;> subst hr <;> exact ⟨_, rfl⟩
  obtain ⟨z, rfl⟩ := e
  exact h h' tk z hk
theorem min_four {a b c d : Int} {t u v y : Tok} {Q : Value → Shared → Prop} (hh : A.handled = none)
    (h : ∀ h' tk z, (∀ c o, s.heap.get? c = some o → h'.get? c = some o) → Q (.int (mn2 (mn2 (mn2 a b) c) d) z) { s with heap := h', toks := tk }) :
    wpAny (model prog w) A (call (.builtin "min") [.int a t, .int b u, .int c v, .int d y]) Q E s := by
  refine min_walk (us := [.int a t, .int b u, .int c v, .int d y]) (xs := #[(a, t), (b, u), (c, v), (d, y)]) (by simp [intItems]) (by size_fits) (args_min4 _ _ _ _) rfl hh fun r h' tk hr hk => ?_
  have e : ∃ z, r = .int (mn2 (mn2 (mn2 a b) c) d) z := by
    unfold mn2
    by_cases h1 : b < a <;> by_cases h2 : c < b <;> by_cases h3 : c < a <;> by_cases h4 : d < a <;> by_cases h5 : d < b <;> by_cases h6 : d < c <;> simp [intItems, argBest, numAt, h1, h2, h3, h4, h5, h6] at hr ⊢ <;> subst hr <;> exact ⟨_, rfl⟩
  obtain ⟨z, rfl⟩ := e
  exact h h' tk z hk
end
section
variable {X : Cx}
theorem call_min3 (hc : X.calm = true) : CallR X (.builtin "min") (fun xs H Q => ∃ i j k, xs = [.int i, .int j, .int k] ∧ Q (.int (mn2 (mn2 i j) k)) H) := by
  rintro pins s σ H xs us Q I r ⟨i, j, k, rfl, q⟩
  cases r with
  | cons r1 r => cases r with
    | cons r2 r => cases r with
      | cons r3 r =>
        cases r
        obtain ⟨t1, rfl⟩ := r1
        obtain ⟨t2, rfl⟩ := r2
        obtain ⟨t3, rfl⟩ := r3
        exact min_three (I.ok.hd hc) fun h' tk z kp => ⟨.int _, H, I.kept kp, ⟨_, rfl⟩, q⟩
theorem call_min4 (hc : X.calm = true) : CallR X (.builtin "min") (fun xs H Q => ∃ i j k l, xs = [.int i, .int j, .int k, .int l] ∧ Q (.int (mn2 (mn2 (mn2 i j) k) l)) H) := by
  rintro pins s σ H xs us Q I r ⟨i, j, k, l, rfl, q⟩
  cases r with
  | cons r1 r => cases r with
    | cons r2 r => cases r with
      | cons r3 r => cases r with
        | cons r4 r =>
          cases r
          obtain ⟨t1, rfl⟩ := r1
          obtain ⟨t2, rfl⟩ := r2
          obtain ⟨t3, rfl⟩ := r3
          obtain ⟨t4, rfl⟩ := r4
          exact min_four (I.ok.hd hc) fun h' tk z kp => ⟨.int _, H, I.kept kp, ⟨_, rfl⟩, q⟩
end
end RP

/-! ### readings, reckoned by simp: one theorem of equations -/
namespace RP
open PySem PySem.Spec PyProof.Rows L2
theorem RDa :
    (∀ (i : Nat) (σ : L2.St) (H : Hp) (Q : VK), tVar i σ H Q = ∃ v, σ[i]? = some (some v) ∧ Q v H) ∧
    (∀ (v : V) (σ : L2.St) (H : Hp) (Q : VK), tC v σ H Q = Q v H) ∧
    (∀ (r : R2) (ta tb : TE) (σ : L2.St) (H : Hp) (Q : VK), tOp r ta tb σ H Q = ta σ H fun x H1 => tb σ H1 fun y H2 => r x y H2 Q) ∧
    (∀ (r : V → Hp → VK → Prop) (ta : TE) (σ : L2.St) (H : Hp) (Q : VK), tUn r ta σ H Q = ta σ H fun x H1 => r x H1 Q) ∧
    (∀ (C : Int → Int → Prop) (g : Int → Int → V) (x y : V) (H : Hp) (Q : VK), rI C g x y H Q = ∃ i j, x = .int i ∧ y = .int j ∧ C i j ∧ Q (g i j) H) ∧
    (∀ (g : Int → Int → V) (x y : V) (H : Hp) (Q : VK), rI0 g x y H Q = ∃ i j, x = .int i ∧ y = .int j ∧ Q (g i j) H) ∧
    (∀ (g : Int → V) (x : V) (H : Hp) (Q : VK), rU g x H Q = ∃ i, x = .int i ∧ Q (g i) H) ∧
    (∀ (t : TE) (σ : L2.St) (H : Hp) (Q : Bool → Hp → Prop), tB t σ H Q = t σ H fun x H1 => ∃ c, x = .bl c ∧ Q c H1) ∧
    (∀ (t : TE) (σ : L2.St) (H : Hp) (Q : Bool → Hp → Prop), tTest t σ H Q = t σ H fun x H1 => ∃ c, x = .bl c ∧ Q c H1) ∧
    (∀ (t u : TT) (σ : L2.St) (H : Hp) (Q : Bool → Hp → Prop), tAnd t u σ H Q = t σ H fun c H1 => if c = true then u σ H1 Q else Q false H1) ∧
    (∀ (t u : TT) (σ : L2.St) (H : Hp) (Q : Bool → Hp → Prop), tOr t u σ H Q = t σ H fun c H1 => if c = true then Q true H1 else u σ H1 Q) ∧
    (∀ (t : TT) (σ : L2.St) (H : Hp) (Q : Bool → Hp → Prop), tNot t σ H Q = t σ H fun c H1 => Q (!c) H1) ∧
    (∀ (ta tb : TE) (σ : L2.St) (H : Hp) (Q : VK), tAndV ta tb σ H Q = ta σ H fun x H1 => ∃ c, x = .bl c ∧ if c = true then tb σ H1 Q else Q (.bl false) H1) ∧
    (∀ (ta tb : TE) (σ : L2.St) (H : Hp) (Q : VK), tOrV ta tb σ H Q = ta σ H fun x H1 => ∃ c, x = .bl c ∧ if c = true then Q (.bl true) H1 else tb σ H1 Q) ∧
    (∀ (ta : TE) (σ : L2.St) (H : Hp) (Q : VK), tNotV ta σ H Q = ta σ H fun x H1 => ∃ c, x = .bl c ∧ Q (.bl (!c)) H1) ∧
    (∀ (t : TT) (ta tb : TE) (σ : L2.St) (H : Hp) (Q : VK), tIf t ta tb σ H Q = t σ H fun c H1 => if c = true then ta σ H1 Q else tb σ H1 Q) ∧
    (∀ (r r' : R2) (ta tb tc : TE) (σ : L2.St) (H : Hp) (Q : VK), tChain r r' ta tb tc σ H Q = ta σ H fun x H1 => tb σ H1 fun y H2 => r x y H2 fun z H3 => ∃ k, z = .bl k ∧ (if k = true then tc σ H3 fun w' H4 => r' y w' H4 Q else Q (.bl false) H3)) ∧
    (∀ (D : Ends) (σ : L2.St) (H : Hp), tNext D σ H = D.nx σ H) ∧
    (∀ (t u : TS) (D : Ends) (σ : L2.St) (H : Hp), tSeq t u D σ H = t { D with nx := u D } σ H) ∧
    (∀ (te : TE) (D : Ends) (σ : L2.St) (H : Hp), tDrop te D σ H = te σ H fun _ H1 => D.nx σ H1) ∧
    (∀ (te : TE) (D : Ends) (σ : L2.St) (H : Hp), tRet te D σ H = te σ H D.rt) ∧
    (∀ (D : Ends) (σ : L2.St) (H : Hp), tRetN D σ H = D.rt .non H) ∧
    (∀ (c : TT) (t u : TS) (D : Ends) (σ : L2.St) (H : Hp), tIfS c t u D σ H = c σ H fun b H1 => if b = true then t D σ H1 else u D σ H1) ∧
    (∀ (te : TE) (g : TG) (D : Ends) (σ : L2.St) (H : Hp), tAsg te g D σ H = te σ H fun x H1 => g x σ H1 D.nx) ∧
    (∀ (i : Nat) (v : V) (σ : L2.St) (H : Hp) (Q : L2.St → Hp → Prop), gName i v σ H Q = Q (σ.set i (some v)) H) ∧
    (∀ (vs : List V) (σ : L2.St) (H : Hp) (Q : L2.St → Hp → Prop), gNil vs σ H Q = (vs = [] ∧ Q σ H)) ∧
    (∀ (t : TG) (u : TGs) (vs : List V) (σ : L2.St) (H : Hp) (Q : L2.St → Hp → Prop), gCons t u vs σ H Q = ∃ v r, vs = v :: r ∧ t v σ H fun σ' H' => u r σ' H' Q) ∧
    (∀ (to ti : TE) (t : TSet) (v : V) (σ : L2.St) (H : Hp) (Q : L2.St → Hp → Prop), gSub to ti t v σ H Q = to σ H fun o H1 => ti σ H1 fun i H2 => t o i v H2 fun H3 => Q σ H3) :=
  ⟨fun _ _ _ _ => rfl, fun _ _ _ _ => rfl, fun _ _ _ _ _ _ => rfl, fun _ _ _ _ _ => rfl, fun _ _ _ _ _ _ => rfl, fun _ _ _ _ _ => rfl, fun _ _ _ _ => rfl, fun _ _ _ _ => rfl, fun _ _ _ _ => rfl, fun _ _ _ _ _ => rfl, fun _ _ _ _ _ => rfl, fun _ _ _ _ => rfl, fun _ _ _ _ _ => rfl,
   fun _ _ _ _ _ => rfl, fun _ _ _ _ => rfl, fun _ _ _ _ _ _ => rfl, fun _ _ _ _ _ _ _ _ => rfl, fun _ _ _ => rfl, fun _ _ _ _ _ => rfl, fun _ _ _ _ => rfl, fun _ _ _ _ => rfl, fun _ _ _ => rfl, fun _ _ _ _ _ _ => rfl, fun _ _ _ _ _ => rfl, fun _ _ _ _ _ => rfl, fun _ _ _ _ => rfl, fun _ _ _ _ _ _ => rfl, fun _ _ _ _ _ _ _ => rfl⟩
theorem RDb :
    (∀ (K : PySem.W.Frag) (ta : TE) (f : Str) (σ : L2.St) (H : Hp) (Q : VK), tFld K ta f σ H Q = ta σ H fun x H1 => ∃ a C dx fs v, x = .ref a ∧ H1 a = some (.ins C dx fs) ∧ Cls K C ∧ NoAttr K C f ∧ fs.lookup f = some v ∧ Q v H1) ∧
    (∀ (K : PySem.W.Frag) (ta tv : TE) (f : Str) (D : Ends) (σ : L2.St) (H : Hp), sFld K ta tv f D σ H = tv σ H fun y H1 => ta σ H1 fun x H2 => ∃ a C dx fs, x = .ref a ∧ H2 a = some (.ins C dx fs) ∧ Cls K C ∧ NoAttr K C f ∧ fs.length < 1000 ∧ D.nx σ (upd H2 a (.ins C dx (putF f y fs)))) ∧
    (∀ (σ : L2.St) (H : Hp) (Q : List V → Hp → Prop), tNil σ H Q = Q [] H) ∧
    (∀ (ta : TE) (tr : TA) (σ : L2.St) (H : Hp) (Q : List V → Hp → Prop), tCons ta tr σ H Q = ta σ H fun x H1 => tr σ H1 fun xs H2 => Q (x :: xs) H2) ∧
    (∀ (t : TA) (σ : L2.St) (H : Hp) (Q : VK), tTup t σ H Q = t σ H fun xs H1 => xs.length ≤ sizeLine ∧ ∀ p, H1 p = none → Q (.ref p) (upd H1 p (.tup xs))) ∧
    (∀ (t : TA) (σ : L2.St) (H : Hp) (Q : VK), tLst t σ H Q = t σ H fun xs H1 => xs.length ≤ sizeLine ∧ ∀ p, H1 p = none → Q (.ref p) (upd H1 p (.lst xs))) ∧
    (∀ (r : List V → Hp → VK → Prop) (t : TA) (σ : L2.St) (H : Hp) (Q : VK), tCB r t σ H Q = t σ H fun vs H1 => r vs H1 Q) ∧
    (∀ (sp : Sp) (E : L2.St → XK) (t : TA) (σ : L2.St) (H : Hp) (Q : VK), tCallS sp E t σ H Q = t σ H fun vs H1 => sp vs H1 Q (E σ)) ∧
    (∀ (C : Addr) (m : Str) (sp : Sp) (E : L2.St → XK) (ta : TE) (t : TA) (σ : L2.St) (H : Hp) (Q : VK), tMethS C m sp E ta t σ H Q = ta σ H fun x H1 => ∃ a dx fs, x = .ref a ∧ H1 a = some (.ins C dx fs) ∧ fs.lookup m = none ∧ t σ H1 fun vs H2 => sp (x :: vs) H2 Q (E σ)) ∧
    (∀ (C : Addr) (sp : Sp) (E : L2.St → XK) (t : TA) (σ : L2.St) (H : Hp) (Q : VK), tMakeS C sp E t σ H Q = t σ H fun vs H1 => ∀ x dx, H1 x = none → H1 dx = none → dx ≠ x → sp (.ref x :: vs) (upd (upd H1 dx (.own x)) x (.ins C dx [])) (fun v H2 => v = .non ∧ Q (.ref x) H2) (E σ)) ∧
    (∀ (x y : V) (H : Hp) (Q : VK), rEq x y H Q = (scal x y = true ∧ Q (.bl (decide (x = y))) H)) ∧
    (∀ (x y : V) (H : Hp) (Q : VK), rNe x y H Q = (scal x y = true ∧ Q (.bl (!decide (x = y))) H)) ∧
    (∀ (i j : Int), scal (.int i) (.int j) = true) ∧ (∀ (i j : Str), scal (.str i) (.str j) = true) ∧ (∀ (i j : Bool), scal (.bl i) (.bl j) = true) ∧
    (∀ (vs : List V) (H : Hp) (Q : VK), rIsC vs H Q = ∃ x c t b, vs = [x, .ty c] ∧ tyN H x = some t ∧ kitB t c = some b ∧ Q (.bl b) H) ∧
    (∀ (vs : List V) (H : Hp) (Q : VK), rLenC vs H Q = ∃ a n, vs = [.ref a] ∧ lenO H a = some n ∧ Q (.int (n : Int)) H) ∧
    (∀ (x y : V) (H : Hp) (Q : VK), rIxC x y H Q = ∃ p xs i v, x = .ref p ∧ y = .int i ∧ seqO H p = some xs ∧ atI xs i = some v ∧ Q v H) ∧
    (∀ (neg : Bool) (x y : V) (H : Hp) (Q : VK), rInC neg x y H Q = ∃ p xs, y = .ref p ∧ seqO H p = some xs ∧ flatV x = true ∧ xs.all flatV = true ∧ Q (.bl (if neg then !inV x xs else inV x xs)) H) ∧
    (∀ (neg : Bool) (x y : V) (H : Hp) (Q : VK), rEqC neg x y H Q = ∃ d e, dat H 8 x = some d ∧ dat H 8 y = some e ∧ SeqAt.shaped d = true ∧ SeqAt.shaped e = true ∧ Q (.bl (if neg then !PyData.eqv d e else PyData.eqv d e)) H) ∧
    (∀ (neg : Bool) (ty td : TE) (σ : L2.St) (H : Hp) (Q : VK), tInD neg ty td σ H Q = ty σ H fun y H1 => td σ H1 fun x H2 => ∃ a kvs k, x = .ref a ∧ H2 a = some (.dK kvs) ∧ keyV y = some k ∧ Q (.bl (if neg then !(valV kvs k).isSome else (valV kvs k).isSome)) H2) ∧
    (∀ (td ty : TE) (σ : L2.St) (H : Hp) (Q : VK), tGetD td ty σ H Q = td σ H fun x H1 => ty σ H1 fun y H2 => ∃ a kvs k v, x = .ref a ∧ H2 a = some (.dK kvs) ∧ keyV y = some k ∧ valV kvs k = some v ∧ Q v H2) ∧
    (∀ (td ty tv : TE) (D : Ends) (σ : L2.St) (H : Hp), sPutD td ty tv D σ H = tv σ H fun v H1 => td σ H1 fun x H2 => ty σ H2 fun y H3 => ∃ a kvs k, x = .ref a ∧ H3 a = some (.dK kvs) ∧ keyV y = some k ∧ kvs.length < sizeLine ∧ D.nx σ (upd H3 a (.dK (putK kvs k v)))) ∧
    (∀ (td ty : TE) (σ : L2.St) (H : Hp) (Q : VK), tPopD td ty σ H Q = td σ H fun x H1 => ∃ a kvs, x = .ref a ∧ H1 a = some (.dK kvs) ∧ ty σ H1 fun y H2 => ∃ kvs k v, H2 a = some (.dK kvs) ∧ keyV y = some k ∧ valV kvs k = some v ∧ Q v (upd H2 a (.dK (dropK kvs k)))) ∧
    (∀ (tl te : TE) (σ : L2.St) (H : Hp) (Q : VK), tAppC tl te σ H Q = tl σ H fun x H1 => ∃ l ys, x = .ref l ∧ H1 l = some (.lst ys) ∧ te σ H1 fun y H2 => ∃ xs, H2 l = some (.lst xs) ∧ xs.length < sizeLine ∧ Q .non (upd H2 l (.lst (xs ++ [y])))) ∧
    (∀ (σ : L2.St) (H : Hp) (Q : Option Int → Hp → Prop), tNoPart σ H Q = Q none H) ∧
    (∀ (t : TE) (σ : L2.St) (H : Hp) (Q : Option Int → Hp → Prop), tPart t σ H Q = t σ H fun x H1 => ∃ i, x = .int i ∧ Q (some i) H1) ∧
    (∀ (r : V → Option Int → Option Int → Hp → VK → Prop) (te : TE) (tl th : TO) (σ : L2.St) (H : Hp) (Q : VK), tSl r te tl th σ H Q = te σ H fun x H1 => tl σ H1 fun l H2 => th σ H2 fun u H3 => r x l u H3 Q) :=
  ⟨fun _ _ _ _ _ _ => rfl, fun _ _ _ _ _ _ _ => rfl, fun _ _ _ => rfl, fun _ _ _ _ _ => rfl, fun _ _ _ _ => rfl, fun _ _ _ _ => rfl, fun _ _ _ _ _ => rfl, fun _ _ _ _ _ _ => rfl, fun _ _ _ _ _ _ _ _ _ => rfl, fun _ _ _ _ _ _ _ => rfl, fun _ _ _ _ => rfl, fun _ _ _ _ => rfl,
   fun _ _ => rfl, fun _ _ => rfl, fun _ _ => rfl, fun _ _ _ => rfl, fun _ _ _ => rfl, fun _ _ _ _ => rfl, fun _ _ _ _ _ => rfl, fun _ _ _ _ _ => rfl, fun _ _ _ _ _ _ => rfl, fun _ _ _ _ _ => rfl, fun _ _ _ _ _ _ => rfl, fun _ _ _ _ _ => rfl, fun _ _ _ _ _ => rfl, fun _ _ _ => rfl, fun _ _ _ _ => rfl, fun _ _ _ _ _ _ _ => rfl⟩
theorem RDk :
    kitB "int" "int" = some true ∧ kitB "bool" "int" = some true ∧ kitB "str" "int" = some false ∧ kitB "NoneType" "int" = some false ∧ kitB "list" "int" = some false ∧ kitB "tuple" "int" = some false ∧ kitB "dict" "int" = some false ∧
    kitB "int" "bool" = some false ∧ kitB "bool" "bool" = some true ∧ kitB "str" "bool" = some false ∧ kitB "NoneType" "bool" = some false ∧ kitB "list" "bool" = some false ∧ kitB "tuple" "bool" = some false ∧ kitB "dict" "bool" = some false ∧
    kitB "int" "str" = some false ∧ kitB "bool" "str" = some false ∧ kitB "str" "str" = some true ∧ kitB "NoneType" "str" = some false ∧ kitB "list" "str" = some false ∧ kitB "tuple" "str" = some false ∧ kitB "dict" "str" = some false ∧
    kitB "int" "tuple" = some false ∧ kitB "bool" "tuple" = some false ∧ kitB "str" "tuple" = some false ∧ kitB "NoneType" "tuple" = some false ∧ kitB "list" "tuple" = some false ∧ kitB "tuple" "tuple" = some true ∧ kitB "dict" "tuple" = some false ∧
    kitB "int" "list" = some false ∧ kitB "bool" "list" = some false ∧ kitB "str" "list" = some false ∧ kitB "NoneType" "list" = some false ∧ kitB "list" "list" = some true ∧ kitB "tuple" "list" = some false ∧ kitB "dict" "list" = some false := by
  decide +kernel
theorem RDv :
    (∀ (i j : Int), (V.int i = V.int j) = (i = j)) ∧ (∀ (i j : Str), (V.str i = V.str j) = (i = j)) ∧ (∀ (i j : Bool), (V.bl i = V.bl j) = (i = j)) ∧ (∀ (i j : Addr), (V.ref i = V.ref j) = (i = j)) ∧ (∀ (i j : String), (V.ty i = V.ty j) = (i = j)) ∧
    (∀ (α : Type) (i j : α), (some i = some j) = (i = j)) ∧
    (∀ H, tyN H .non = some "NoneType") ∧ (∀ H b, tyN H (.bl b) = some "bool") ∧ (∀ H b, tyN H (.int b) = some "int") ∧ (∀ H b, tyN H (.str b) = some "str") ∧
    (∀ n, keyV (.int n) = some (.inl n)) ∧ (∀ n, keyV (.str n) = some (.inr n)) ∧
    (∀ (C dx : Addr) (fs : List (Str × V)) (C' dx' : Addr) (fs' : List (Str × V)), (HO.ins C dx fs = HO.ins C' dx' fs') = (C = C' ∧ dx = dx' ∧ fs = fs')) ∧
    (∀ xs ys, (HO.lst xs = HO.lst ys) = (xs = ys)) ∧ (∀ xs ys, (HO.tup xs = HO.tup ys) = (xs = ys)) ∧ (∀ xs ys, (HO.dK xs = HO.dK ys) = (xs = ys)) := by
  refine ⟨?_, ?_, ?_, ?_, ?_, ?_, fun _ => rfl, fun _ _ => rfl, fun _ _ => rfl, fun _ _ => rfl, fun _ => rfl, fun _ => rfl, ?_, ?_, ?_, ?_⟩ <;> intros <;> simp
theorem datE (H : Hp) :
    (∀ n, dat H n .non = some .none) ∧ (∀ n b, dat H n (.bl b) = some (.bool b)) ∧ (∀ n b, dat H n (.int b) = some (.int b)) ∧ (∀ n b, dat H n (.str b) = some (.str b)) ∧
    (∀ n a xs, H a = some (.lst xs) → dat H (n + 1) (.ref a) = (mapO (dat H n) xs).map PyData.list) ∧ (∀ n a xs, H a = some (.tup xs) → dat H (n + 1) (.ref a) = (mapO (dat H n) xs).map PyData.tuple) := by
  refine ⟨fun n => ?_, fun n b => ?_, fun n b => ?_, fun n b => ?_, fun n a xs h => ?_, fun n a xs h => ?_⟩
  · cases n <;> rfl
  · cases n <;> rfl
  · cases n <;> rfl
  · cases n <;> rfl
  · conv => lhs; unfold dat
    rw [h]
  · conv => lhs; unfold dat
    rw [h]
theorem RDx :
    (∀ (CX : CXT) (P : Program) (w : World) (K : PySem.W.Frag) (mg : Str → Option Value) (base : Heap) (N : List Str) (q : Str) (sc : Scope) (f : Addr) (cd : Value) (A : Around) (o : List Env) (s : Shared) (H : Hp) (E : XK), (cxOf CX P w K mg base N q sc f cd A o s H E).K = K) ∧
    (∀ (CX : CXT) (P : Program) (w : World) (K : PySem.W.Frag) (mg : Str → Option Value) (base : Heap) (N : List Str) (q : Str) (sc : Scope) (f : Addr) (cd : Value) (A : Around) (o : List Env) (s : Shared) (H : Hp) (E : XK) (p : Addr × Obj), (L2H.cxH CX P w K mg base N q sc f cd A o s H E p).K = K) ∧
    (∀ (X : Cx) (pn : List (Addr × Obj)) (xe : Value → Shared → Prop), (X.tr pn xe).K = X.K) ∧
    (∀ (X : Cx) (a : Addr) (pn : List (Addr × Obj)), (X.suite a pn).K = X.K) ∧
    (∀ (X : Cx) (s : Shared) (H : Hp) (sc : Scope) (ce : Env) (fp : List Addr), (X.blk s H sc ce fp).K = X.K) ∧
    (∀ (X : Cx), X.nox.K = X.K) := ⟨fun _ _ _ _ _ _ _ _ _ _ _ _ _ _ _ _ => rfl, fun _ _ _ _ _ _ _ _ _ _ _ _ _ _ _ _ _ => rfl, fun _ _ _ => rfl, fun _ _ _ => rfl, fun _ _ _ _ _ _ => rfl, fun _ => rfl⟩
theorem RDe :
    (∀ (K : PySem.W.Frag) (c : Value) (i : Nat) (ts : Addr → Value → Option Addr → TS) (Wout : WX) (D : Ends) (cls : Value) (d : Option Addr) (σ : L2.St) (H : Hp), wAs K c i ts Wout D cls d σ H =
      ∃ b, PySem.W.exmOne K cls c = some b ∧ (b = true → ∀ a, H a = none → ts a cls d { nx := fun σ' H' => D.nx (σ'.set i none) H', rt := D.rt, bk := fun σ' H' => D.bk (σ'.set i none) H', ct := fun σ' H' => D.ct (σ'.set i none) H' } (σ.set i (some (.ref a))) H) ∧ (b = false → Wout cls d σ H)) ∧
    (∀ (K : PySem.W.Frag) (Wout : WX) (D : Ends), L2.wMany K Wout D [] = Wout) ∧
    (∀ (K : PySem.W.Frag) (Wout : WX) (D : Ends) (c : Value) (ts : Addr → Value → Option Addr → TS) (r : List (Value × (Addr → Value → Option Addr → TS))) (cls : Value) (d : Option Addr) (σ : L2.St) (H : Hp), L2.wMany K Wout D ((c, ts) :: r) cls d σ H =
      ∃ b, PySem.W.exmOne K cls c = some b ∧ (b = true → ∀ a, H a = none → ts a cls d D σ H) ∧ (b = false → L2.wMany K Wout D r cls d σ H)) ∧
    (∀ (K : PySem.W.Frag) (a : Addr) (cls : Value) (xs : List V) (H : Hp) (Q : VK), rIsEC K a cls xs H Q = ∃ (c : V) (cv : Value) (b : Bool), xs = [.ref a, c] ∧ clsOf c = some cv ∧ PySem.W.kitOne K cls cv = some b ∧ Q (.bl b) H) ∧
    (∀ a, clsOf (.ref a) = some (.ref a)) ∧ (∀ n, clsOf (.ty n) = some (.type n)) :=
  ⟨fun _ _ _ _ _ _ _ _ _ _ => rfl, fun _ _ _ => rfl, fun _ _ _ _ _ _ _ _ _ _ => rfl, fun _ _ _ _ _ _ => rfl, fun _ => rfl, fun _ => rfl⟩
/-! #### texts -/
theorem mul_one (z : Str) : Txt.mul z 1 = z := by unfold Txt.mul; rw [if_neg (by decide), if_pos (by simp)]
theorem mul_zero (z : Str) : Txt.mul z 0 = Str.empty := by unfold Txt.mul; rw [if_pos (by decide)]
theorem mulOk_one (z : Str) : MulOk z 1 := ⟨by decide, fun _ h => by simp at h, fun _ h => by simp at h⟩
theorem mulOk_zero (z : Str) : MulOk z 0 := ⟨by decide, fun h => absurd (by decide) h, fun h => absurd (by decide) h⟩
theorem str_ext {x y : Str} (h : x.cps.toList = y.cps.toList) : x = y := by
  obtain ⟨a⟩ := x
  obtain ⟨b⟩ := y
  congr
  exact Array.toList_inj.mp h
theorem app_empty (z : Str) : z ++ Str.empty = z := by
  refine str_ext ?_
  show (z.cps ++ #[]).toList = _
  simp
/-! #### loops, by what their walked thing gives -/
section
variable {K : PySem.W.Frag} {tl : TE} {g : TG} {tb : TS} {D : Ends} {σ : L2.St} {H : Hp}
theorem for_lcut (G : Addr → Hp → Prop) (xs : List V) (h1 : ∀ Z : VK, (∀ a H1, G a H1 → Z (.ref a) H1) → tl σ H Z) (Pv : Addr → Nat → L2.St → Hp → Prop) (h0 : ∀ a H1, G a H1 → SqL K H1 a xs ∧ Pv a 0 σ H1) (hl : ∀ a i σ H, i ≤ xs.length → Pv a i σ H → SqL K H a xs)
    (hs : ∀ a i x σ H, xs[i]? = some x → Pv a i σ H → g x σ H fun σ2 H2 => tb { D with nx := Pv a (i + 1), ct := Pv a (i + 1), bk := D.nx } σ2 H2) (hd : ∀ a σ H, Pv a xs.length σ H → D.nx σ H) : tFor (iList K tl) g tb D σ H :=
  h1 _ fun a H1 q => ⟨a, rfl, ⟨xs, (h0 a H1 q).1⟩, for_list (Pv a) (h0 a H1 q).2 (hl a) (hs a) (hd a)⟩
end
theorem same_new {H : Hp} {p : Addr} {o : HO} (h : H p = none) : Same H (upd H p o) := fun b u e => by rw [upd_ne (ne_of_none e h)]; exact e
theorem same_sql {K : PySem.W.Frag} {H H' : Hp} {a : Addr} {xs : List V} (e : Same H H') (h : SqL K H a xs) : SqL K H' a xs := e.seq h
theorem bl3 {i : Nat} {x : V} (h : ([V.bl false, V.bl false, V.bl false] : List V)[i]? = some x) : x = .bl false := by
  match i, h with
  | 0, h => exact (Option.some.inj h).symm
  | 1, h => exact (Option.some.inj h).symm
  | 2, h => exact (Option.some.inj h).symm
  | n + 3, h => cases h
/-! #### data as it is compared -/
theorem seqO_tup {H : Hp} {a : Addr} {xs : List V} (h : H a = some (.tup xs)) : seqO H a = some xs := by unfold seqO; rw [h]
theorem seqO_lst {H : Hp} {a : Addr} {xs : List V} (h : H a = some (.lst xs)) : seqO H a = some xs := by unfold seqO; rw [h]
theorem tyN_tup {H : Hp} {a : Addr} {xs : List V} (h : H a = some (.tup xs)) : tyN H (.ref a) = some "tuple" := by unfold tyN; dsimp only; rw [h]
theorem tyN_lst {H : Hp} {a : Addr} {xs : List V} (h : H a = some (.lst xs)) : tyN H (.ref a) = some "list" := by unfold tyN; dsimp only; rw [h]
theorem tyN_dK {H : Hp} {a : Addr} {xs : List (Key × V)} (h : H a = some (.dK xs)) : tyN H (.ref a) = some "dict" := by unfold tyN; dsimp only; rw [h]
theorem lenO_tup {H : Hp} {a : Addr} {xs : List V} (h : H a = some (.tup xs)) : lenO H a = some xs.length := by unfold lenO seqO; rw [h]; rfl
theorem lenO_lst {H : Hp} {a : Addr} {xs : List V} (h : H a = some (.lst xs)) : lenO H a = some xs.length := by unfold lenO seqO; rw [h]; rfl
theorem lenO_dK {H : Hp} {a : Addr} {xs : List (Key × V)} (h : H a = some (.dK xs)) : lenO H a = some xs.length := by unfold lenO; rw [h]
theorem dat_tup {H : Hp} {a : Addr} {xs : List V} (h : H a = some (.tup xs)) (n : Nat) : dat H (n + 1) (.ref a) = (mapO (dat H n) xs).map PyData.tuple := (datE H).2.2.2.2.2 n a xs h
theorem dat_lst {H : Hp} {a : Addr} {xs : List V} (h : H a = some (.lst xs)) (n : Nat) : dat H (n + 1) (.ref a) = (mapO (dat H n) xs).map PyData.list := (datE H).2.2.2.2.1 n a xs h
theorem RDd :
    (∀ f, mapO f [] = some []) ∧ (∀ f v r, mapO f (v :: r) = match f v, mapO f r with | some d, some ds => some (d :: ds) | _, _ => none) ∧
    (∀ H n, dat H n .non = some .none) ∧ (∀ H n b, dat H n (.bl b) = some (.bool b)) ∧ (∀ H n b, dat H n (.int b) = some (.int b)) ∧ (∀ H n b, dat H n (.str b) = some (.str b)) ∧
    (∀ (α : Type) (x : α) xs, atI (x :: xs) 0 = some x) ∧ (∀ (α : Type) (x y : α) xs, atI (x :: y :: xs) 1 = some y) ∧ (∀ (α : Type) (x y z : α) xs, atI (x :: y :: z :: xs) 2 = some z) ∧ (∀ (α : Type) (x y z u : α) xs, atI (x :: y :: z :: u :: xs) 3 = some u) ∧
    (∀ H, Option.map PyData.list (some H) = some (PyData.list H)) ∧ (∀ H, Option.map PyData.tuple (some H) = some (PyData.tuple H)) := by
  have at_ : ∀ (α : Type) (xs : List α) (k : Nat) (x : α), xs[k]? = some x → atI xs (k : Int) = some x := fun α xs k x h => by
    unfold atI ixN
    obtain ⟨hk, _⟩ := List.getElem?_eq_some_iff.mp h
    rw [if_pos (by omega), if_pos (by omega), Option.bind_some, Int.toNat_natCast, h]
  refine ⟨fun _ => rfl, fun _ _ _ => rfl, fun H => (datE H).1, fun H => (datE H).2.1, fun H => (datE H).2.2.1, fun H => (datE H).2.2.2.1, fun α x xs => at_ α _ 0 x rfl, fun α x y xs => at_ α _ 1 y rfl, fun α x y z xs => at_ α _ 2 z rfl, fun α x y z u xs => at_ α _ 3 u rfl, fun _ => rfl, fun _ => rfl⟩
/-- data of at most n levels that can be compared -/
def Shp (n : Nat) (d : PyData) : Prop := d.canLay0 = true ∧ d.depth ≤ n
theorem Shp.ok {d : PyData} (h : Shp 64 d) : SeqAt.shaped d = true := by
  unfold SeqAt.shaped
  rw [h.1, Bool.true_and]
  exact decide_eq_true h.2
theorem Shp.mono {n m : Nat} {d : PyData} (h : Shp n d) (l : n ≤ m) : Shp m d := ⟨h.1, Nat.le_trans h.2 l⟩
theorem shp_all {n : Nat} : ∀ {ds : List PyData}, (∀ d ∈ ds, Shp n d) → PyData.canLayAll0 ds = true ∧ PyData.depthAll ds ≤ n
  | [], _ => ⟨by simp [PyData.canLayAll0], by simp [PyData.depthAll]⟩
  | d :: r, h => by
    have h1 := h d List.mem_cons_self
    have h2 := shp_all (ds := r) fun e he => h e (List.mem_cons_of_mem _ he)
    constructor
    · rw [PyData.canLayAll0, h1.1, h2.1]; rfl
    · rw [PyData.depthAll]; exact Nat.max_le.mpr ⟨h1.2, h2.2⟩
theorem shp_list {n : Nat} {ds : List PyData} (h : ∀ d ∈ ds, Shp n d) : Shp (n + 1) (.list ds) := by
  obtain ⟨a, b⟩ := shp_all h
  exact ⟨by rw [PyData.canLay0]; exact a, by rw [PyData.depth]; omega⟩
theorem shp_tuple {n : Nat} {ds : List PyData} (h : ∀ d ∈ ds, Shp n d) : Shp (n + 1) (.tuple ds) := by
  obtain ⟨a, b⟩ := shp_all h
  exact ⟨by rw [PyData.canLay0]; exact a, by rw [PyData.depth]; omega⟩
theorem shp_s (n : Nat) : Shp n .none ∧ (∀ b, Shp n (.bool b)) ∧ (∀ i, Shp n (.int i)) ∧ (∀ x, PyData.strOk x = true → Shp n (.str x)) :=
  ⟨⟨by simp [PyData.canLay0], by simp [PyData.depth]⟩, fun _ => ⟨by simp [PyData.canLay0], by simp [PyData.depth]⟩, fun _ => ⟨by simp [PyData.canLay0], by simp [PyData.depth]⟩, fun _ h => ⟨by simpa [PyData.canLay0] using h, by simp [PyData.depth]⟩⟩
theorem sh1 {d : PyData} (h : d.canLay0 = true) (h2 : d.depth = 0) : SeqAt.shaped (.tuple [d]) = true ∧ SeqAt.shaped (.tuple [d]) = true := ⟨Shp.ok ⟨by simp [PyData.canLay0, PyData.canLayAll0, h], by simp [PyData.depth, PyData.depthAll, h2]⟩, Shp.ok ⟨by simp [PyData.canLay0, PyData.canLayAll0, h], by simp [PyData.depth, PyData.depthAll, h2]⟩⟩
theorem eqv_self {d : PyData} (h : d.canLay0 = true) : PyData.eqv d d = true := SeqAt.eqv_refl d h
end RP

/-! ### things made for one use only: no trace in what is tracked -/
namespace RP
open PySem PySem.Spec PyProof.Rows L2
section
variable {X : Cx} {b l : Expr} {es : List Expr} {t : TA} {tb tl : TE} {pos pos1 : Pos}
/-- [e, ..][b] -/
def tPick (t : TA) (tb : TE) : TE := fun σ H Q => t σ H fun vs H1 => vs.length ≤ 1000 ∧ tb σ H1 fun y H2 => ∃ k v, y = .int k ∧ 0 ≤ k ∧ atI vs k = some v ∧ Q v H2
theorem pe_pick (he : PA X es t) (hi : PE X b tb) (hs : PlainIx b) : PE X (.Subscript (.List es pos1) b pos) (tPick t tb) := by
  constructor
  intro pins s σ H Q I h
  refine Subscript_ (wpAny_List_spliced (thn (he.run pos1 pins s σ H _ I h) ?_))
  rintro us s1 ⟨vs, H1, I1, r, z, q⟩
  have z1 : us.length ≤ 1000 := by rw [← r.length]; exact z
  refine ⟨Nat.le_trans z1 (by decide), ?_⟩
  have kp : ∀ (b : Addr) (o : Obj), s1.heap.get? b = some o → (s1.heap.push { cls := .type "list", data := .seq us.toArray }).get? b = some o := fun b o e => Heap.get?_push_of_some _ e
  have gL : (s1.heap.push { cls := .type "list", data := .seq us.toArray }).get? s1.heap.objs.size = some { cls := .type "list", data := .seq us.toArray } := Heap.get?_push_size _ rfl
  have I2 : Inv X pins σ H1 { s1 with heap := s1.heap.push { cls := .type "list", data := .seq us.toArray } } := I1.kept (t' := s1.toks) kp
  have I3 := I2.pinned (fp := [s1.heap.objs.size]) (fun b hb => by
    have e : b = s1.heap.objs.size := by simpa using hb
    rw [e]
    exact I1.fpOk (Nat.le_refl _) (I1.hok.fresh (Nat.le_refl _))) (fun b hb => by
    have e : b = s1.heap.objs.size := by simpa using hb
    rw [e]
    exact ⟨_, gL, fun v w => by cases w⟩)
  refine thn (hi.run _ _ σ H1 _ I3 q) ?_
  rintro u s2 ⟨y, H2, I4, ry, k, v, rfl, h0, ha, qv⟩
  have g2 := (I4.pin (s1.heap.objs.size, { cls := .type "list", data := .seq us.toArray }) (List.mem_append_right _ (List.mem_append_right _ (mem_pinsAt (by simp) gL)))).1
  obtain ⟨tk, rfl⟩ := ry
  obtain ⟨j, h1, h2, h3, h4, h5⟩ := atI_get ha
  obtain ⟨w, ew, rw'⟩ := r.get h2
  have hl := r.length
  have hj : k.toNat = j := by
    rw [seqIndex_of h0 h5] at h1
    exact Option.some.inj h1
  have pl : PlainL s2.heap s1.heap.objs.size us.toArray := ⟨_, _, g2, rfl, rfl, rfl⟩
  exact item_listR pl.isList h0 (by omega) (by rw [hj]; simpa using ew) ⟨v, H2, I4.unpinned, rw', qv⟩ (hs _ _)
/-- l == (e, ..), l != (e, ..) -/
def tEqT (neg : Bool) (tl : TE) (t : TA) : TE := fun σ H Q => tl σ H fun x H1 => t σ H1 fun vs H2 => vs.length ≤ 1000 ∧ ∃ d ds, dat H2 8 x = some d ∧ mapO (dat H2 7) vs = some ds ∧ SeqAt.shaped d = true ∧ SeqAt.shaped (.tuple ds) = true ∧ Q (.bl (if neg then !PyData.eqv d (.tuple ds) else PyData.eqv d (.tuple ds))) H2
theorem dat_new {H : Hp} {p : Addr} {o : HO} (hp : H p = none) : ∀ (n : Nat) (v : V) (d : PyData), dat H n v = some d → dat (upd H p o) n v = some d := by
  have key : ∀ (f f' : V → Option PyData), (∀ v d, f v = some d → f' v = some d) → ∀ (xs : List V) (ds : List PyData), mapO f xs = some ds → mapO f' xs = some ds := by
    intro f f' hf xs
    induction xs with
    | nil => intro ds h; exact h
    | cons v r ih =>
      intro ds h
      unfold mapO at h ⊢
      split at h
      · rename_i d ds' h1 h2
        cases h
        rw [hf _ _ h1, ih _ h2]
      · cases h
  intro n
  induction n with
  | zero =>
    intro v d h
    cases v <;> exact h
  | succ n ih =>
    intro v d h
    cases v with
    | ref a =>
      have e : ∀ u, H a = some u → upd H p o a = some u := fun u e => by rw [upd_ne (ne_of_none e hp)]; exact e
      unfold dat at h ⊢
      split at h
      · rename_i xs e1
        obtain ⟨ds, e2, rfl⟩ := Option.map_eq_some_iff.mp h
        rw [e _ e1]
        dsimp only
        rw [key _ _ ih _ _ e2]
        rfl
      · rename_i xs e1
        obtain ⟨ds, e2, rfl⟩ := Option.map_eq_some_iff.mp h
        rw [e _ e1]
        dsimp only
        rw [key _ _ ih _ _ e2]
        rfl
      · rename_i ob xs e1
        obtain ⟨ds, e2, rfl⟩ := Option.map_eq_some_iff.mp h
        rw [e _ e1]
        dsimp only
        rw [key _ _ ih _ _ e2]
        rfl
      · cases h
    | _ => exact h
theorem eqT_run {neg : Bool} {op : CmpOp} (hop : op = if neg then .NotEq else .Eq) (hu : X.A.units + 64 < cLine) (hl : PE X l tl) (he : PA X es t) {x1 : Nat} {pins : List (Addr × Obj)} {s : Shared} {σ : L2.St} {H : Hp} {Q : VK} (I : Inv X pins σ H s) (h : tEqT neg tl t σ H Q) :
    wpAny (model X.prog X.w) X.A (eval l X.env) (fun v s1 => wpAny (model X.prog X.w) X.A (eval (.Tuple es x1 pos1) X.env) (fun u s2 => wpAny (model X.prog X.w) X.A (compareOp op v u) (EP X pins σ Q) X.xe s2) X.xe s1) X.xe s := by
  refine thn (hl.run pins s σ H _ I h) ?_
  rintro v s1 ⟨x, H1, I1, rx, q1⟩
  refine wpAny_Tuple_spliced (thn (he.run pos1 pins s1 σ H1 _ I1 q1) ?_)
  rintro us s2 ⟨vs, H2, I2, r, z, d, ds, h1, h2, sd, se, q⟩
  have z1 : us.length ≤ sizeLine := by rw [← r.length]; exact Nat.le_trans z (by decide)
  refine ⟨z1, ?_⟩
  have hf : H2 s2.heap.objs.size = none := I2.hok.fresh (Nat.le_refl _)
  have kp : ∀ (b : Addr) (o : Obj), s2.heap.get? b = some o → (s2.heap.push { cls := .type "tuple", data := .seq us.toArray }).get? b = some o := fun b o e => Heap.get?_push_of_some _ e
  have IU : Inv X pins σ H2 { s2 with heap := s2.heap.push { cls := .type "tuple", data := .seq us.toArray } } := I2.kept (t' := s2.toks) kp
  have IT : Inv X pins σ (upd H2 s2.heap.objs.size (.tup vs)) { s2 with heap := s2.heap.push { cls := .type "tuple", data := .seq us.toArray } } :=
    I2.laid (t' := s2.toks) kp (Nat.le_refl _) ⟨Nat.le_trans z (by decide), us, r, ⟨_, Heap.get?_push_size _ rfl, rfl, _, rfl⟩⟩
  obtain ⟨as, r1⟩ := Dp.reads IT d x v (dat_ok _ _ _ (dat_new hf _ _ _ h1)) rx
  have h3 : dat (upd H2 s2.heap.objs.size (.tup vs)) 8 (.ref s2.heap.objs.size) = some (.tuple ds) := by
    rw [dat_tup upd_same]
    have key : ∀ (xs : List V) (ds : List PyData), mapO (dat H2 7) xs = some ds → mapO (dat (upd H2 s2.heap.objs.size (.tup vs)) 7) xs = some ds := by
      intro xs
      induction xs with
      | nil => intro ds h; exact h
      | cons v r ih =>
        intro ds h
        unfold mapO at h ⊢
        split at h
        · rename_i d ds' h1 h2
          cases h
          rw [dat_new hf _ _ _ h1, ih _ h2]
        · cases h
    rw [key _ _ h2]
    rfl
  obtain ⟨bs, r2⟩ := Dp.reads IT (.tuple ds) (.ref s2.heap.objs.size) (.ref s2.heap.objs.size) (dat_ok _ _ _ h3) rfl
  subst hop
  cases neg with
  | true => exact SeqAt.compareNe_shaped r1 r2 sd se hu ⟨.bl _, H2, IU, rfl, q⟩
  | false => exact SeqAt.compareEq_shaped r1 r2 sd se hu ⟨.bl _, H2, IU, rfl, q⟩
theorem pc_eqT {x1 : Nat} (hu : X.A.units + 64 < cLine) (hl : PE X l tl) (he : PA X es t) : PC X .Eq l (.Tuple es x1 pos1) (tEqT false tl t) := ⟨fun pins s σ H Q I h => eqT_run (neg := false) rfl hu hl he I h⟩
theorem pc_neT {x1 : Nat} (hu : X.A.units + 64 < cLine) (hl : PE X l tl) (he : PA X es t) : PC X .NotEq l (.Tuple es x1 pos1) (tEqT true tl t) := ⟨fun pins s σ H Q I h => eqT_run (neg := true) rfl hu hl he I h⟩
/-- l in (e, ..), l not in (e, ..): flat things -/
def tInT (neg : Bool) (tl : TE) (t : TA) : TE := fun σ H Q => tl σ H fun x H1 => t σ H1 fun vs H2 => vs.length ≤ 1000 ∧ flatV x = true ∧ vs.all flatV = true ∧ Q (.bl (if neg then !inV x vs else inV x vs)) H2
theorem inT_run {neg : Bool} {op : CmpOp} (hop : op = if neg then .NotIn else .In) (hl : PE X l tl) (he : PA X es t) {x1 : Nat} {pins : List (Addr × Obj)} {s : Shared} {σ : L2.St} {H : Hp} {Q : VK} (I : Inv X pins σ H s) (h : tInT neg tl t σ H Q) :
    wpAny (model X.prog X.w) X.A (eval l X.env) (fun v s1 => wpAny (model X.prog X.w) X.A (eval (.Tuple es x1 pos1) X.env) (fun u s2 => wpAny (model X.prog X.w) X.A (compareOp op v u) (EP X pins σ Q) X.xe s2) X.xe s1) X.xe s := by
  refine thn (hl.run pins s σ H _ I h) ?_
  rintro v s1 ⟨x, H1, I1, rx, q1⟩
  refine wpAny_Tuple_spliced (thn (he.run pos1 pins s1 σ H1 _ I1 q1) ?_)
  rintro us s2 ⟨vs, H2, I2, r, z, f1, f2, q⟩
  have z1 : us.length ≤ sizeLine := by rw [← r.length]; exact Nat.le_trans z (by decide)
  refine ⟨z1, ?_⟩
  have hf : H2 s2.heap.objs.size = none := I2.hok.fresh (Nat.le_refl _)
  have kp : ∀ (b : Addr) (o : Obj), s2.heap.get? b = some o → (s2.heap.push { cls := .type "tuple", data := .seq us.toArray }).get? b = some o := fun b o e => Heap.get?_push_of_some _ e
  have IU : Inv X pins σ H2 { s2 with heap := s2.heap.push { cls := .type "tuple", data := .seq us.toArray } } := I2.kept (t' := s2.toks) kp
  have IT : Inv X pins σ (upd H2 s2.heap.objs.size (.tup vs)) { s2 with heap := s2.heap.push { cls := .type "tuple", data := .seq us.toArray } } :=
    I2.laid (t' := s2.toks) kp (Nat.le_refl _) ⟨Nat.le_trans z (by decide), us, r, ⟨_, Heap.get?_push_size _ rfl, rfl, _, rfl⟩⟩
  obtain ⟨its, r', pl, hz⟩ := IT.tuple (SqT.of (K := X.K) (upd_same (a := s2.heap.objs.size) (o := .tup vs)))
  subst hop
  cases neg with
  | true =>
    refine SeqAt.notIn_tupleAt (eqU x) pl (fun w hw => mem_eqAt rx f1 r' f2 w (by simpa using hw)) ⟨.bl _, H2, IU, rfl, ?_⟩
    rw [show its.toArray.any (eqU x) = its.any (eqU x) by simp, any_eqU r' f2]
    exact q
  | false =>
    refine SeqAt.in_tupleAt (eqU x) pl (fun w hw => mem_eqAt rx f1 r' f2 w (by simpa using hw)) ⟨.bl _, H2, IU, rfl, ?_⟩
    rw [show its.toArray.any (eqU x) = its.any (eqU x) by simp, any_eqU r' f2]
    exact q
theorem pc_inT {x1 : Nat} (hl : PE X l tl) (he : PA X es t) : PC X .In l (.Tuple es x1 pos1) (tInT false tl t) := ⟨fun pins s σ H Q I h => inT_run (neg := false) rfl hl he I h⟩
theorem pc_notInT {x1 : Nat} (hl : PE X l tl) (he : PA X es t) : PC X .NotIn l (.Tuple es x1 pos1) (tInT true tl t) := ⟨fun pins s σ H Q I h => inT_run (neg := true) rfl hl he I h⟩
end
theorem RDp :
    (∀ (t : TA) (tb : TE) (σ : L2.St) (H : Hp) (Q : VK), tPick t tb σ H Q = t σ H fun vs H1 => vs.length ≤ 1000 ∧ tb σ H1 fun y H2 => ∃ k v, y = .int k ∧ 0 ≤ k ∧ atI vs k = some v ∧ Q v H2) ∧
    (∀ (neg : Bool) (tl : TE) (t : TA) (σ : L2.St) (H : Hp) (Q : VK), tEqT neg tl t σ H Q = tl σ H fun x H1 => t σ H1 fun vs H2 => vs.length ≤ 1000 ∧ ∃ d ds, dat H2 8 x = some d ∧ mapO (dat H2 7) vs = some ds ∧ SeqAt.shaped d = true ∧ SeqAt.shaped (.tuple ds) = true ∧ Q (.bl (if neg then !PyData.eqv d (.tuple ds) else PyData.eqv d (.tuple ds))) H2) ∧
    (∀ (neg : Bool) (tl : TE) (t : TA) (σ : L2.St) (H : Hp) (Q : VK), tInT neg tl t σ H Q = tl σ H fun x H1 => t σ H1 fun vs H2 => vs.length ≤ 1000 ∧ flatV x = true ∧ vs.all flatV = true ∧ Q (.bl (if neg then !inV x vs else inV x vs)) H2) ∧
    (∀ i j : Int, CDiv i j = (0 < j ∧ j < 1073741824)) ∧ (∀ i j : Int, CPow i j = (0 ≤ j ∧ j ≤ 1000000 ∧ i.natAbs < 2 ^ 64)) :=
  ⟨fun _ _ _ _ _ => rfl, fun _ _ _ _ _ _ => rfl, fun _ _ _ _ _ _ => rfl, fun _ _ => rfl, fun _ _ => rfl⟩
theorem seq_gen {t u : TS} {D : Ends} {σ : L2.St} {H : Hp} (h : ∀ N : L2.St → Hp → Prop, (∀ σ H, u D σ H → N σ H) → t { D with nx := N } σ H) : tSeq t u D σ H := h _ fun _ _ z => z
theorem cut_int {ns : List Int} {lo hi : Option Int} {i : Nat} {x : V} (h : (cutV (ns.map V.int) lo hi)[i]? = some x) : ∃ c, x = .int c := by
  have h1 : x ∈ cutV (ns.map V.int) lo hi := List.mem_of_getElem? h
  unfold cutV at h1
  have h2 := List.mem_of_mem_drop (List.mem_of_mem_take h1)
  obtain ⟨c, _, e⟩ := List.mem_map.mp h2
  exact ⟨c, e.symm⟩
theorem ite_merge {α : Sort _} {P R : Prop} [Decidable P] [Decidable R] {x y : α} : (if P then (if R then x else y) else y) = if P ∧ R then x else y := by
  by_cases p : P <;> by_cases r : R <;> simp [p, r]
theorem ite_or' {α : Sort _} {P R : Prop} [Decidable P] [Decidable R] {x y : α} : (if P then x else (if R then x else y)) = if P ∨ R then x else y := by
  by_cases p : P <;> by_cases r : R <;> simp [p, r]
theorem getD_all {α : Type} {p : α → Prop} {xs : List α} {d : α} (h : ∀ x ∈ xs, p x) (hd : p d) (i : Nat) : p (xs.getD i d) := by
  rw [List.getD_eq_getElem?_getD]
  cases e : xs[i]? with
  | none => exact hd
  | some x => exact h x (List.mem_of_getElem? e)
theorem md_rng {n : Int} (x : Int) (h : 0 < n) : 0 ≤ x % n ∧ x % n < n := ⟨Int.emod_nonneg _ (by omega), Int.emod_lt_of_pos _ h⟩
theorem pick2 {x y : V} {k : Int} (h0 : 0 ≤ k) (h1 : k < 2) : atI [x, y] k = some (if k = 0 then x else y) := by
  rcases (show k = 0 ∨ k = 1 by omega) with rfl | rfl
  · rfl
  · rfl
theorem pickI2 {x y k : Int} (h0 : 0 ≤ k) (h1 : k < 2) : atI [V.int x, V.int y] k = some (.int (if k = 0 then x else y)) := by
  rcases (show k = 0 ∨ k = 1 by omega) with rfl | rfl
  · rfl
  · rfl
/-- an item of a list of whole numbers -/
theorem atInt {xs : List Int} {k : Int} (h0 : 0 ≤ k) (h1 : k < (xs.length : Int)) : atI (xs.map V.int) k = some (.int (xs.getD k.toNat 0)) := by
  have e2 : k = ((k.toNat : Nat) : Int) := by omega
  have e3 : k.toNat < xs.length := by omega
  rw [e2]
  refine atI_nat ?_
  rw [List.getElem?_map, List.getElem?_eq_getElem e3, List.getD_eq_getElem?_getD, Int.toNat_natCast, List.getElem?_eq_getElem e3]
  rfl
/-- the law's own def -/
theorem fn_law {P : Program} {w : World} {K : PySem.W.Frag} {mg : Str → Option Value} {base : Heap} {x : Str} {st : Stmt} {N ps : List Str} {k : Nat} {sp : Sp} {f0 : Addr} {fd : FuncData} (F : FunD K x x (defArgs st) (defBody st) (defScope st) [] [] f0 fd) (S : FnScope N ps (defScope st)) (len : ∀ vs H Q E, sp vs H Q E → vs.length = ps.length)
    (hbody : ∀ (f : Addr) (cdv : Value) (A : Around) (outer : List Env) (s : Shared) (H : Hp) (vs : List V) (Q : VK) (E : XK), Room k (A.deeper (envOfC x (defScope st) s.heap.objs.size f cdv)) → sp vs H Q E →
      ∃ t, PSs (cxOf (L2N.CX P w) P w K mg base N x (defScope st) f cdv A outer s H E) (defBody st) t ∧ t { nx := fun _ H' => Q .non H', rt := Q } (start N vs) H) : FnOk P w K mg base (L2N.CX P w) (k + 1) f0 fd ps sp :=
  F.ok S len fun cdv A outer s H vs Q E hr h => hbody _ cdv A outer s H vs Q E hr h
/-- the end of a law, its air leaning on the world -/
theorem walk_W {l : PySem.W.OpenLaw} {n k : Nat} {q : Program} {loose : List Str} {XP : (Str → Option Value) → Heap → Prop} {YP : World → Heap → Prop} {d : DefRec} {CX : World → CXT} {x : Str}
    (hn : l.most = some n) (hn2 : n ≤ sizeLine) (hdf : d.params.defaults = []) (hr : Room k callerA)
    (F : ∀ (w : World) (mg : Str → Option Value) (fa : Addr) (h : Heap), YP w h → h.Ns mainGlobals mg → mg d.name = some (.ref fa) →
      ∃ (K : PySem.W.Frag) (fd : FuncData) (sp : Sp), K.In h ∧ (∀ (s : Shared) (u : Value), BindsTo s fd ⟨[u], []⟩ [(x, u)]) ∧
        (∀ (H : Hp) (a : Addr) (ns : List Int), ns.length ≤ n → Only H → SqL K H a (ns.map V.int) → sp [.ref a] H (fun v _ => v = .bl true) fun _ _ _ => False) ∧
        ∀ base : Heap, K.In base → base.Ns mainGlobals mg → FnOk l.prog w K mg base (CX w) k fa fd [x] sp)
    (hCX : ∀ (w : World) (H : Hp) (s : Shared) (e : Value) (s' : Shared), CX w [] H s (fun _ _ _ => False) e s' → False) :
    PySem.W.WalkO q loose XP YP l.row.toRowW d [] (fun f vs => PySem.call f vs) := by
  refine Att.attach_call hn hdf fun w s₀ s₁ mg mb fa o pm cd doc a vs ns G Y ho hd hcd hmg hobj hints hlen hg => ?_
  obtain ⟨K, fd, sp, KX, hb, hsp, hF⟩ := F w mg fa _ Y G.T.g hmg
  exact law_call KX G.T.g G.T.b G.T.builtins G.T.nolimit hg hobj hints (Nat.le_trans hlen hn2) hr hF hb (fun H hO hS => hsp H a ns hlen hO hS) fun H e s' => hCX w H s₁ e s'
/-- a whole number between two -/
def amongV (x : V) (lo hi : Int) : Bool := match x with
  | .int n => decide (lo ≤ n) && decide (n ≤ hi)
  | _ => false
/-- things that may be handed in anywhere -/
def Kn (H : Hp) (x : V) : Prop := (tyN H x).isSome = true
theorem Kn.cases {H : Hp} {x : V} (h : Kn H x) : x = .non ∨ (∃ b, x = .bl b) ∨ (∃ n, x = .int n) ∨ (∃ z, x = .str z) ∨ ∃ a t, x = .ref a ∧ tyN H (.ref a) = some t ∧ (t = "list" ∨ t = "tuple" ∨ t = "dict") := by
  unfold Kn at h
  cases x with
  | non => exact .inl rfl
  | bl b => exact .inr (.inl ⟨b, rfl⟩)
  | int n => exact .inr (.inr (.inl ⟨n, rfl⟩))
  | str z => exact .inr (.inr (.inr (.inl ⟨z, rfl⟩)))
  | byt b => cases h
  | flt b => cases h
  | ty n => cases h
  | ref a =>
    refine .inr (.inr (.inr (.inr ?_)))
    unfold tyN at h
    dsimp only at h
    split at h
    · rename_i xs e
      exact ⟨a, "list", rfl, by unfold tyN; dsimp only; rw [e], .inl rfl⟩
    · rename_i xs e
      exact ⟨a, "tuple", rfl, by unfold tyN; dsimp only; rw [e], .inr (.inl rfl)⟩
    · rename_i xs e
      exact ⟨a, "dict", rfl, by unfold tyN; dsimp only; rw [e], .inr (.inr rfl)⟩
    · cases h
end RP

/-! ### frames, comprehensions by what they give, texts -/
namespace RP
open PySem PySem.Spec PyProof.Rows L2
/-- what is outside A stays -/
def Fr (A : List Addr) (H H' : Hp) : Prop := ∀ b o, b ∉ A → H b = some o → H' b = some o
theorem Fr.refl (A : List Addr) (H : Hp) : Fr A H H := fun _ _ _ h => h
theorem Fr.trans {A : List Addr} {H H1 H2 : Hp} (a : Fr A H H1) (b : Fr A H1 H2) : Fr A H H2 := fun c o n h => b c o n (a c o n h)
theorem Fr.of {A : List Addr} {H H1 : Hp} (a : Same H H1) : Fr A H H1 := fun c o _ h => a c o h
theorem Fr.upd {A : List Addr} {H H1 : Hp} {p : Addr} {o : HO} (a : Fr A H H1) (m : p ∈ A) : Fr A H (L2.upd H1 p o) := fun c u n h => by
  rw [upd_ne (fun e => n (by rw [e]; exact m))]
  exact a c u n h
theorem Fr.new {A : List Addr} {H H1 : Hp} {p : Addr} {o : HO} (a : Fr A H H1) (m : H1 p = none) : Fr A H (L2.upd H1 p o) := a.trans (.of (same_new m))
theorem Fr.mono {A B : List Addr} {H H1 : Hp} (a : Fr A H H1) (s : ∀ x ∈ A, x ∈ B) : Fr B H H1 := fun c o n h => a c o (fun m => n (s c m)) h
theorem Same.fr {H H1 : Hp} (a : Fr [] H H1) : Same H H1 := fun c o h => a c o (by simp) h
theorem ne_of_obj {H : Hp} {a b : Addr} {o u : HO} (h : H a = some o) (h2 : H b = some u) (n : o ≠ u) : a ≠ b := fun e => by
  rw [e, h2] at h
  exact n (Option.some.inj h).symm
/-- two lists, item by item -/
inductive All2 {α β : Type} (R : α → β → Prop) : List α → List β → Prop
  | nil : All2 R [] []
  | cons {x y xs ys} : R x y → All2 R xs ys → All2 R (x :: xs) (y :: ys)
theorem All2.mono {α β : Type} {R S : α → β → Prop} (i : ∀ x y, R x y → S x y) : ∀ {xs : List α} {ys : List β}, All2 R xs ys → All2 S xs ys
  | _, _, .nil => .nil
  | _, _, .cons h t => .cons (i _ _ h) (t.mono i)
theorem All2.snoc {α β : Type} {R : α → β → Prop} {x : α} {y : β} (h : R x y) : ∀ {xs : List α} {ys : List β}, All2 R xs ys → All2 R (xs ++ [x]) (ys ++ [y])
  | _, _, .nil => .cons h .nil
  | _, _, .cons h1 t => .cons h1 (t.snoc h)
theorem All2.length {α β : Type} {R : α → β → Prop} : ∀ {xs : List α} {ys : List β}, All2 R xs ys → xs.length = ys.length
  | _, _, .nil => rfl
  | _, _, .cons _ t => by rw [List.length_cons, List.length_cons, t.length]
theorem All2.get {α β : Type} {R : α → β → Prop} : ∀ {xs : List α} {ys : List β} {i : Nat} {y : β}, All2 R xs ys → ys[i]? = some y → ∃ x, xs[i]? = some x ∧ R x y
  | _, _, 0, y, .cons h _, e => ⟨_, rfl, by cases e; exact h⟩
  | _, _, i + 1, y, .cons _ t, e => by
    obtain ⟨x, e1, r⟩ := t.get (i := i) (by simpa using e)
    exact ⟨x, by simpa using e1, r⟩
  | _, _, i, y, .nil, e => by simp at e
theorem All2.getL {α β : Type} {R : α → β → Prop} : ∀ {xs : List α} {ys : List β} {i : Nat} {x : α}, All2 R xs ys → xs[i]? = some x → ∃ y, ys[i]? = some y ∧ R x y
  | _, _, 0, y, .cons h _, e => ⟨_, rfl, by cases e; exact h⟩
  | _, _, i + 1, y, .cons _ t, e => by
    obtain ⟨x, e1, r⟩ := t.getL (i := i) (by simpa using e)
    exact ⟨x, by simpa using e1, r⟩
  | _, _, i, y, .nil, e => by simp at e
theorem All2.of_map {α β : Type} {R : α → β → Prop} {f : α → β} (h : ∀ x, R x (f x)) : ∀ (xs : List α), All2 R xs (xs.map f)
  | [] => .nil
  | x :: r => .cons (h x) (All2.of_map h r)
theorem All2.map_eq {α β : Type} {f : α → β} : ∀ {xs : List α} {ys : List β}, All2 (fun x y => y = f x) xs ys → ys = xs.map f
  | _, _, .nil => rfl
  | _, _, .cons h t => by rw [h, t.map_eq]; rfl
theorem All2.map_l {α β γ : Type} {f : γ → α} {R : α → β → Prop} : ∀ {xs : List γ} {ys : List β}, All2 R (xs.map f) ys → All2 (fun x y => R (f x) y) xs ys
  | [], _, .nil => .nil
  | _ :: _, _, .cons h t => .cons h t.map_l
theorem All2.mapO_eq {f : V → Option PyData} {g : α → PyData} : ∀ {xs : List α} {ys : List V}, All2 (fun x y => f y = some (g x)) xs ys → mapO f ys = some (xs.map g)
  | _, _, .nil => rfl
  | _, _, .cons h t => by
    unfold mapO
    rw [h, t.mapO_eq]
    rfl
/-- what stays told, whatever becomes of the new list -/
def Keeps (R : Hp → α → V → Prop) : Prop := ∀ H H' D xs x y, H D = some (.lst xs) → Fr [D] H H' → R H x y → R H' x y
theorem keeps_pure {R : α → V → Prop} : Keeps (fun _ => R) := fun _ _ _ _ _ _ _ _ r => r
theorem keeps_tup {f : α → List V} : Keeps (fun H x y => ∃ q, y = .ref q ∧ H q = some (.tup (f x))) := fun H H' D xs x y hD fr ⟨q, e, h⟩ =>
  ⟨q, e, fr q _ (fun m => by
    have e2 : q = D := by simpa using m
    rw [e2, hD] at h
    cases h) h⟩
section
variable {K : PySem.W.Frag} {tl te : TE} {ta : TA} {g : TG} {tb : TS} {D : Ends} {σ : L2.St} {H : Hp} {vs : List Nat} {Q : VK}
/-- [e for x in a list] -/
theorem lcut {tl : TE} (G : Addr → Hp → Prop) (R : Hp → V → V → Prop) (xs : List V) (hk : Keeps R) (h1 : ∀ Z : VK, (∀ a H1, G a H1 → Z (.ref a) H1) → tl σ H Z) (h0 : ∀ a H1, G a H1 → SqL K H1 a xs) (hlen : xs.length ≤ sizeLine)
    (hs : ∀ a H1 H2 (i : Nat) x (Z : VK), G a H1 → xs[i]? = some x → Same H1 H2 → (∀ y H3, Same H2 H3 → R H3 x y → Z y H3) → g x (wipe σ vs) H2 fun σ2 H3' => wipe σ2 vs = wipe σ vs ∧ te σ2 H3' Z)
    (hd : ∀ a H1 H3 D rs, G a H1 → H1 D = none → Same H1 H3 → H3 D = some (.lst rs) → All2 (R H3) xs rs → Q (.ref D) H3) : tLc (iList K tl) g tYes te vs σ H Q := by
  refine h1 _ fun a H1 hG => ⟨a, rfl, ⟨xs, h0 a H1 hG⟩, fun D nD => ?_⟩
  refine lc_list (xs := xs) (fun i H' => Same H1 H' ∧ ∃ rs, H' D = some (.lst rs) ∧ All2 (R H') (xs.take i) rs) ⟨same_new nD, [], upd_same, by rw [List.take_zero]; exact .nil⟩ (fun i H' _ h => h.1.seq (h0 a H1 hG)) ?_ ?_
  · rintro i x H' hx ⟨s1, rs, hD, ar⟩
    obtain ⟨hi, hx2⟩ := List.getElem?_eq_some_iff.mp hx
    simp only [tYes, if_true]
    refine hs a H1 H' i x _ hG hx s1 fun y H3 s3 r3 => ?_
    have hl : rs.length < sizeLine := by
      rw [← ar.length, List.length_take]
      omega
    refine ⟨rs, s3 _ _ hD, hl, fun c o ec => ?_, rs ++ [y], upd_same, ?_⟩
    · rw [upd_ne (ne_of_none ec nD)]
      exact s3 _ _ (s1 _ _ ec)
    · have f3 : Fr [D] H3 (upd H3 D (.lst (rs ++ [y]))) := (Fr.refl _ _).upd (by simp)
      have e : xs.take (i + 1) = xs.take i ++ [x] := by rw [List.take_succ, hx]; rfl
      rw [e]
      exact (ar.mono fun u v r => hk _ _ D _ u v (s3 _ _ hD) f3 (hk _ _ D _ u v hD (.of s3) r)).snoc (hk _ _ D _ x y (s3 _ _ hD) f3 r3)
  · rintro H' ⟨s1, rs, hD, ar⟩
    rw [List.take_length] at ar
    exact hd a H1 H' D rs hG nD s1 hD ar
/-- [e for x in range(n)] -/
theorem rcut {wi : TI} (lo : Int) (n : Nat) (G : Hp → Prop) (R : Hp → Nat → V → Prop) (hk : Keeps R) (h1 : ∀ Z : It → Hp → Prop, (∀ H1, G H1 → Z (Itr lo n) H1) → wi σ H Z) (hlen : n ≤ sizeLine)
    (hs : ∀ H1 H2 i (Z : VK), G H1 → i < n → Same H1 H2 → (∀ y H3, Same H2 H3 → R H3 i y → Z y H3) → g (.int (lo + i)) (wipe σ vs) H2 fun σ2 H3' => wipe σ2 vs = wipe σ vs ∧ te σ2 H3' Z)
    (hd : ∀ H1 H3 D rs, G H1 → H1 D = none → Same H1 H3 → H3 D = some (.lst rs) → All2 (R H3) (List.range n) rs → Q (.ref D) H3) : tLc wi g tYes te vs σ H Q := by
  refine h1 _ fun H1 hG => fun D nD => ?_
  refine lc_range (fun i H' => Same H1 H' ∧ ∃ rs, H' D = some (.lst rs) ∧ All2 (R H') (List.range i) rs) ⟨same_new nD, [], upd_same, .nil⟩ ?_ ?_
  · rintro i H' hi ⟨s1, rs, hD, ar⟩
    simp only [tYes, if_true]
    refine hs H1 H' i _ hG hi s1 fun y H3 s3 r3 => ?_
    have hl : rs.length < sizeLine := by
      rw [← ar.length, List.length_range]
      omega
    refine ⟨rs, s3 _ _ hD, hl, fun c o ec => ?_, rs ++ [y], upd_same, ?_⟩
    · rw [upd_ne (ne_of_none ec nD)]
      exact s3 _ _ (s1 _ _ ec)
    · have f3 : Fr [D] H3 (upd H3 D (.lst (rs ++ [y]))) := (Fr.refl _ _).upd (by simp)
      rw [List.range_succ]
      exact (ar.mono fun u v r => hk _ _ D _ u v (s3 _ _ hD) f3 (hk _ _ D _ u v hD (.of s3) r)).snoc (hk _ _ D _ i y (s3 _ _ hD) f3 r3)
  · rintro H' ⟨s1, rs, hD, ar⟩
    exact hd H1 H' D rs hG nD s1 hD ar
/-- [e for i, x in enumerate(a list)] -/
theorem ecut {ta : TA} (G : Addr → Hp → Prop) (R : Hp → Nat × V → V → Prop) (xs : List V) (hk : Keeps R) (h1 : ∀ Z : List V → Hp → Prop, (∀ a H1, G a H1 → Z [.ref a] H1) → ta σ H Z) (h0 : ∀ a H1, G a H1 → SqL K H1 a xs) (hlen : xs.length ≤ sizeLine)
    (hs : ∀ a H1 H2 (i : Nat) x T (Z : VK), G a H1 → xs[i]? = some x → Same H1 H2 → H2 T = some (.tup [.int (i : Nat), x]) → (∀ y H3, Same H2 H3 → R H3 (i, x) y → Z y H3) → g (.ref T) (wipe σ vs) H2 fun σ2 H3' => wipe σ2 vs = wipe σ vs ∧ te σ2 H3' Z)
    (hd : ∀ a H1 H3 D rs, G a H1 → H1 D = none → Same H1 H3 → H3 D = some (.lst rs) → All2 (R H3) ((List.range xs.length).zip xs) rs → Q (.ref D) H3) : tLc (iEnum K ta) g tYes te vs σ H Q := by
  refine h1 _ fun a H1 hG => ⟨a, xs, rfl, h0 a H1 hG, fun D nD => ?_⟩
  refine ⟨fun i m H' => m = xs.length - i ∧ i ≤ xs.length ∧ Same H1 H' ∧ ∃ rs, H' D = some (.lst rs) ∧ All2 (R H') ((List.range i).zip (xs.take i)) rs, ⟨xs.length, by simp, Nat.zero_le _, same_new nD, [], upd_same, .nil⟩, ?_⟩
  rintro i m H' ⟨rfl, hi, s1, rs, hD, ar⟩
  have q := s1.seq (h0 a H1 hG)
  by_cases hlt : i < xs.length
  · refine .inr ⟨⟨xs, xs[i], q, by simp [hlt]⟩, fun H' => i + 1 ≤ xs.length ∧ Same H1 H' ∧ ∃ rs, H' D = some (.lst rs) ∧ All2 (R H') ((List.range (i + 1)).zip (xs.take (i + 1))) rs, fun H' p' => ⟨xs.length - (i + 1), by omega, rfl, hlt, p'.2⟩, fun v H'' y => ?_⟩
    obtain ⟨T, x, rfl, nT, rfl, hx⟩ := y
    have hx := hx xs q
    have sT : Same H' (upd H' T (.tup [.int (i : Nat), x])) := same_new nT
    simp only [tYes, if_true]
    refine hs a H1 _ i x T _ hG hx (s1.trans sT) upd_same fun y H3 s3 r3 => ?_
    have hl : rs.length < sizeLine := by
      rw [← ar.length, List.length_zip, List.length_take, List.length_range]
      omega
    have s4 := sT.trans s3
    refine ⟨rs, s4 _ _ hD, hl, hlt, fun c o ec => ?_, rs ++ [y], upd_same, ?_⟩
    · rw [upd_ne (ne_of_none ec nD)]
      exact s4 _ _ (s1 _ _ ec)
    · have f3 : Fr [D] H3 (upd H3 D (.lst (rs ++ [y]))) := (Fr.refl _ _).upd (by simp)
      have e : xs.take (i + 1) = xs.take i ++ [x] := by rw [List.take_succ, hx]; rfl
      rw [e, List.range_succ, List.zip_append (by rw [List.length_range, List.length_take]; omega)]
      exact (ar.mono fun u v r => hk _ _ D _ u v (s4 _ _ hD) f3 (hk _ _ D _ u v hD (.of s4) r)).snoc (hk _ _ D _ (i, x) y (s4 _ _ hD) f3 r3)
  · have e : i = xs.length := by omega
    subst e
    rw [List.take_length] at ar
    exact .inl ⟨⟨xs, q, Nat.le_refl _⟩, hd a H1 H' D rs hG nD s1 hD ar⟩
/-- for x in range(..) -/
theorem for_rcut {wi : TI} (lo : Int) (n : Nat) (G : Hp → Prop) (h1 : ∀ Z : It → Hp → Prop, (∀ H1, G H1 → Z (Itr lo n) H1) → wi σ H Z) (Pv : Nat → L2.St → Hp → Prop) (h0 : ∀ H1, G H1 → Pv 0 σ H1)
    (hs : ∀ i σ H, i < n → Pv i σ H → g (.int (lo + i)) σ H fun σ2 H2 => tb { D with nx := Pv (i + 1), ct := Pv (i + 1), bk := D.nx } σ2 H2) (hd : ∀ σ H, Pv n σ H → D.nx σ H) : tFor wi g tb D σ H :=
  h1 _ fun H1 q => for_range Pv (h0 H1 q) hs hd
end
/-! #### sorted of a dict with int keys -/
def srt (ks : List Int) : List Int := ks.mergeSort fun a b => decide (a ≤ b)
theorem srt_perm (ks : List Int) : (srt ks).Perm ks := List.mergeSort_perm ..
theorem srt_mem {ks : List Int} {k : Int} : k ∈ srt ks ↔ k ∈ ks := (srt_perm ks).mem_iff
theorem srt_length (ks : List Int) : (srt ks).length = ks.length := (srt_perm ks).length_eq
theorem call_sortedC {X : Cx} (hcalm : X.calm = true) : CallR X (.builtin "sorted") (fun xs H Q => ∃ (a : Addr) (kvs : List (Key × V)) (ks : List Int), xs = [.ref a] ∧ H a = some (.dK kvs) ∧ kvs.map (·.1) = ks.map Sum.inl ∧ ks.length < 64 ∧
    ∀ p : Addr, H p = none → Q (.ref p) (upd H p (.lst ((srt ks).map V.int)))) :=
  call_imp (call_sortedDI hcalm) fun xs H Q ⟨a, kvs, ks, e, h, hk, l, q⟩ => ⟨a, kvs, ks, e, Rd.of h, hk, l, fun ys p pm so n => by
    have e : ys = srt ks := by
      refine List.Perm.eq_of_pairwise (le := fun a b => a ≤ b) (fun a b _ _ h1 h2 => Int.le_antisymm h1 h2) so ?_ (pm.trans (srt_perm ks).symm)
      have z := List.pairwise_mergeSort (le := fun a b : Int => decide (a ≤ b)) (fun a b c h1 h2 => by simp only [decide_eq_true_eq] at *; omega) (fun a b => by simp only [Bool.or_eq_true, decide_eq_true_eq]; omega) ks
      exact z.imp fun h => of_decide_eq_true h
    rw [e]
    exact q p n⟩
/-! #### texts -/
def TxtOk (n : Nat) (x : Str) : Prop := PyData.strOk x = true ∧ x.length ≤ n
theorem TxtOk.mono {n m : Nat} {x : Str} (h : TxtOk n x) (l : n ≤ m) : TxtOk m x := ⟨h.1, Nat.le_trans h.2 l⟩
theorem strOk_iff {x : Str} : PyData.strOk x = true ↔ ∀ c ∈ x.cps.toList, c < 0x110000 := by
  unfold PyData.strOk
  rw [Array.all_eq_true_iff_forall_mem]
  simp only [decide_eq_true_eq]
  exact ⟨fun h c m => h c (by simpa using m), fun h c m => h c (by simpa using m)⟩
theorem append_cps (x y : Str) : (x ++ y).cps.toList = x.cps.toList ++ y.cps.toList := by
  show (x.cps ++ y.cps).toList = _
  simp
theorem length_append (x y : Str) : (x ++ y).length = x.length + y.length := by
  show (x.cps ++ y.cps).size = _
  rw [Array.size_append]; rfl
theorem TxtOk.app {n m : Nat} {x y : Str} (h : TxtOk n x) (h2 : TxtOk m y) : TxtOk (n + m) (x ++ y) := by
  refine ⟨strOk_iff.mpr fun c hc => ?_, by rw [length_append]; exact Nat.add_le_add h.2 h2.2⟩
  rw [append_cps] at hc
  rcases List.mem_append.mp hc with z | z
  · exact strOk_iff.mp h.1 c z
  · exact strOk_iff.mp h2.1 c z
/-- an attribute, within a block: the reading names no block -/
theorem pe_fldK {X : Cx} {K : PySem.W.Frag} {e : Expr} {ta : TE} {f : Str} {pos : Pos} (hK : X.K = K) (he : PE X e ta) (hb : attributeBase e f X.env (eval e X.env) = eval e X.env) : PE X (.Attribute e f pos) (tFld K ta f) := by
  subst hK
  exact pe_fld he hb
/-- a, b = a tuple -/
def gTupC (n : Nat) (t : TGs) : TG := fun v σ H Q => ∃ a, v = .ref a ∧ ∃ xs, H a = some (.tup xs) ∧ xs.length = n ∧ t xs σ H Q
theorem pg_tupC {X : Cx} {pos : Pos} {es : List Expr} {k : Nat} {t : TGs} {n : Nat} (hc : X.calm = true) (h : PGs X es t)
    (hn : (assignEach es X.env).length = n := by rfl) (hst : (assignEach es X.env).findIdx? (·.1) = none := by rfl) : PG X (.Tuple es k pos) (gTupC n t) :=
  ⟨fun pins s σ H v u Q I r ⟨a, e, xs, ha, hl, q⟩ => (pg_tup hc h hn hst).run pins s σ H v u Q I r ⟨a, xs, e, SqT.of ha, hl, q⟩⟩
/-- b if c else d, as a test -/
def tIfT (c a b : TT) : TT := fun σ H Q => c σ H fun d H1 => if d = true then a σ H1 Q else b σ H1 Q
theorem pt_ifExp {X : Cx} {pos : Pos} {c a b : Expr} {tc ta tb : TT} (hc : PT X c tc) (ha : PT X a ta) (hb : PT X b tb) : PT X (.IfExp c a b pos) (tIfT tc ta tb) := by
  refine ⟨fun pins s σ H Q I h => ?_⟩
  refine PyProof.Rows.isTrue_IfExp (thn (hc.run pins s σ H _ I h) fun d s1 ⟨H1, I1, q1⟩ => ?_)
  cases d with
  | true => exact ha.run pins s1 σ H1 Q I1 q1
  | false => exact hb.run pins s1 σ H1 Q I1 q1
/-- one statement, by where it gets to -/
theorem seq_rel {t u : TS} {D : Ends} {σ : L2.St} {H : Hp} (R : L2.St → Hp → Prop) (h1 : ∀ N : L2.St → Hp → Prop, (∀ σ1 H1, R σ1 H1 → N σ1 H1) → t { D with nx := N } σ H) (h2 : ∀ σ1 H1, R σ1 H1 → u D σ1 H1) : tSeq t u D σ H := h1 _ h2
theorem seq_to {t u : TS} {D : Ends} {σ : L2.St} {H : Hp} (σ1 : L2.St) (H1 : Hp) (h1 : ∀ N : L2.St → Hp → Prop, N σ1 H1 → t { D with nx := N } σ H) (h2 : u D σ1 H1) : tSeq t u D σ H := h1 _ h2
theorem call_listC {X : Cx} : CallR X (.type "list") (fun xs H Q => ∃ p ys, xs = [.ref p] ∧ seqO H p = some ys ∧ ∀ l, H l = none → Q (.ref l) (upd H l (.lst ys))) :=
  call_imp call_list_of fun vs H Q ⟨p, ys, e, h, q⟩ => ⟨p, ys, e, seqO_ok h, q⟩
theorem call_dictC {X : Cx} : CallR X (.type "dict") (fun xs H Q => ∃ p kvs, xs = [.ref p] ∧ H p = some (.dK kvs) ∧ ∀ l : Addr, H l = none → Q (.ref l) (upd H l (.dK kvs))) :=
  call_imp call_dictD fun vs H Q ⟨p, ys, e, h, q⟩ => ⟨p, ys, e, Rd.of h, q⟩
/-- texts: one sign -/
theorem ix_strC {X : Cx} : IxR X (fun x y H Q => ∃ z i, x = .str z ∧ y = .int i ∧ z.length ≤ sizeLine ∧ ∃ c, atI z.cps.toList i = some c ∧ Q (.str ⟨#[c]⟩) H) := ix_imp ix_str fun x y H Q ⟨z, i, e1, e2, l, c, h, q⟩ => ⟨z, i, c, e1, e2, l, h, q⟩
theorem RDq :
    (∀ (σ : L2.St) (H : Hp) (Q : VK), tDNewK σ H Q = ∀ p, H p = none → Q (.ref p) (upd H p (.dK []))) ∧
    (∀ (trs : List (TE × TE)) (σ : L2.St) (H : Hp) (Q : VK), tDisp trs σ H Q = ∀ p, H p = none → tPairs trs σ (upd H p (.dK [])) fun ps H2 => H2 p = some (.dK []) ∧ ∃ kvs : List (Key × V), ps = kvs.map (fun kv => (kV kv.1, kv.2)) ∧ kvs.length ≤ 15 ∧ Q (.ref p) (upd H2 p (.dK (mergeK [] kvs)))) ∧
    (∀ (σ : L2.St) (H : Hp) (Q : List (V × V) → Hp → Prop), tPairs [] σ H Q = Q [] H) ∧
    (∀ (tk tv : TE) (r : List (TE × TE)) (σ : L2.St) (H : Hp) (Q : List (V × V) → Hp → Prop), tPairs ((tk, tv) :: r) σ H Q = tk σ H fun x H1 => tv σ H1 fun y H2 => tPairs r σ H2 fun ps H3 => Q ((x, y) :: ps) H3) ∧
    (∀ (x y : V) (H : Hp) (Q : VK), rCat x y H Q = ∃ l b xs zs, x = .ref l ∧ y = .ref b ∧ H l = some (.lst xs) ∧ H b = some (.lst zs) ∧ xs.length + zs.length ≤ sizeLine ∧ ∀ p, H p = none → Q (.ref p) (upd H p (.lst (xs ++ zs)))) ∧
    (∀ (x y : V) (H : Hp) (Q : VK), rRep x y H Q = ∃ l k xs, x = .ref l ∧ y = .int k ∧ H l = some (.lst xs) ∧ -(2 ^ 63) ≤ k ∧ k < 2 ^ 63 ∧ xs.length * k.toNat ≤ sizeLine ∧ ∀ p, H p = none → Q (.ref p) (upd H p (.lst (List.replicate k.toNat xs).flatten))) ∧
    (∀ (K : PySem.W.Frag) (vs : List V) (H : Hp) (Q : VK), rAll K vs H Q = ∃ (a : Addr) (bs : List Bool), vs = [V.ref a] ∧ SqL K H a (bs.map V.bl) ∧ Q (.bl (bs.all id)) H) ∧
    (∀ (te : L2.St → Hp → (Int → Int → Hp → Prop) → Prop) (σ : L2.St) (H : Hp) (Q : VK), tLstRg te σ H Q = te σ H fun a b H1 => RgOk a b ∧ ∀ q, H1 q = none → Q (.ref q) (upd H1 q (.lst (rgV a b)))) ∧
    (∀ (ta : TE) (σ : L2.St) (H : Hp) (Q : Int → Int → Hp → Prop), tRg1 ta σ H Q = ta σ H fun x H1 => ∃ n, x = .int n ∧ Q 0 n H1) ∧
    (∀ (ta tb : TE) (σ : L2.St) (H : Hp) (Q : Int → Int → Hp → Prop), tRg2 ta tb σ H Q = ta σ H fun x H1 => tb σ H1 fun y H2 => ∃ i j, x = .int i ∧ y = .int j ∧ Q i j H2) ∧
    (∀ (r : V → List V → Hp → VK → Prop) (to te : TE) (σ : L2.St) (H : Hp) (Q : VK), tM1 r to te σ H Q = to σ H fun x H1 => (∃ a, x = .str a) ∧ te σ H1 fun y H2 => r x [y] H2 Q) ∧
    (∀ (x : V) (lo hi : Option Int) (H : Hp) (Q : VK), rSlS x lo hi H Q = ∃ z, x = .str z ∧ z.length ≤ sizeLine ∧ Q (.str (cutS z lo hi)) H) ∧
    (∀ (K : PySem.W.Frag) (x : V) (lo hi : Option Int) (H : Hp) (Q : VK), rSlL K x lo hi H Q = ∃ a xs, x = .ref a ∧ SqL K H a xs ∧ ∀ p, H p = none → Q (.ref p) (upd H p (.lst (cutV xs lo hi)))) ∧
    (∀ (α : Type) (f : α → V), ([] : List α).map f = []) ∧
    (∀ (ta : TA) (σ : L2.St) (H : Hp) (R : It → Hp → Prop), iRng1 ta σ H R = ta σ H fun vs H1 => ∃ j : Int, vs = [.int j] ∧ -(2 ^ 62) ≤ j ∧ j < 2 ^ 62 ∧ R (Itr 0 j.toNat) H1) ∧
    (∀ (ta : TA) (σ : L2.St) (H : Hp) (R : It → Hp → Prop), iRng2 ta σ H R = ta σ H fun vs H1 => ∃ i j : Int, vs = [.int i, .int j] ∧ (-(2 ^ 62) ≤ i ∧ i < 2 ^ 62 ∧ -(2 ^ 62) ≤ j ∧ j < 2 ^ 62) ∧ R (Itr i (j - i).toNat) H1) ∧
    (∀ (n : Nat) (t : TGs) (v : V) (σ : L2.St) (H : Hp) (Q : L2.St → Hp → Prop), gTupC n t v σ H Q = ∃ a, v = .ref a ∧ ∃ xs, H a = some (.tup xs) ∧ xs.length = n ∧ t xs σ H Q) ∧
    (∀ (c a b : TT) (σ : L2.St) (H : Hp) (Q : Bool → Hp → Prop), tIfT c a b σ H Q = c σ H fun d H1 => if d = true then a σ H1 Q else b σ H1 Q) ∧
    (∀ (σ : L2.St), wipe σ [] = σ) ∧ (∀ (σ : L2.St) (v : Nat) (vs : List Nat), wipe σ (v :: vs) = (wipe σ vs).set v none) :=
  ⟨fun _ _ _ => rfl, fun _ _ _ _ => rfl, fun _ _ _ => rfl, fun _ _ _ _ _ _ => rfl, fun _ _ _ _ => rfl, fun _ _ _ _ => rfl, fun _ _ _ _ => rfl, fun _ _ _ _ => rfl, fun _ _ _ _ => rfl, fun _ _ _ _ _ => rfl, fun _ _ _ _ _ _ => rfl, fun _ _ _ _ _ => rfl, fun _ _ _ _ _ _ => rfl, fun _ _ => rfl, fun _ _ _ _ => rfl, fun _ _ _ _ => rfl, fun _ _ _ _ _ _ => rfl, fun _ _ _ _ _ _ => rfl, fun _ => rfl, fun _ _ _ => rfl⟩
/-! #### data under frames -/
theorem mapO_same {f f' : V → Option PyData} (hf : ∀ v d, f v = some d → f' v = some d) : ∀ (xs : List V) (ds : List PyData), mapO f xs = some ds → mapO f' xs = some ds
  | [], ds, h => h
  | v :: r, ds, h => by
    unfold mapO at h ⊢
    split at h
    · rename_i d ds' h1 h2
      cases h
      rw [hf _ _ h1, mapO_same hf r _ h2]
    · cases h
theorem dat_same {H H' : Hp} (s : Same H H') : ∀ (n : Nat) (v : V) (d : PyData), dat H n v = some d → dat H' n v = some d := by
  intro n
  induction n with
  | zero =>
    intro v d h
    cases v <;> exact h
  | succ n ih =>
    intro v d h
    cases v with
    | ref a =>
      unfold dat at h ⊢
      split at h
      · rename_i xs e1
        obtain ⟨ds, e2, rfl⟩ := Option.map_eq_some_iff.mp h
        rw [s _ _ e1]
        dsimp only
        rw [mapO_same ih _ _ e2]
        rfl
      · rename_i xs e1
        obtain ⟨ds, e2, rfl⟩ := Option.map_eq_some_iff.mp h
        rw [s _ _ e1]
        dsimp only
        rw [mapO_same ih _ _ e2]
        rfl
      · rename_i ob xs e1
        obtain ⟨ds, e2, rfl⟩ := Option.map_eq_some_iff.mp h
        rw [s _ _ e1]
        dsimp only
        rw [mapO_same ih _ _ e2]
        rfl
      · cases h
    | _ => exact h
/-- the heap but for A -/
def hm (A : List Addr) (H : Hp) : Hp := fun c => if c ∈ A then none else H c
theorem hm_in {A : List Addr} {H : Hp} {c : Addr} (h : c ∉ A) : hm A H c = H c := if_neg h
theorem hm_same {A : List Addr} {H : Hp} : Same (hm A H) H := fun c o h => by
  unfold hm at h
  split at h
  · cases h
  · exact h
theorem hm_fr {A : List Addr} {H H' : Hp} (f : Fr A H H') : Same (hm A H) (hm A H') := fun c o h => by
  unfold hm at h ⊢
  split at h
  · cases h
  · rename_i n
    rw [if_neg n]
    exact f c o n h
/-- the data of a list of texts -/
theorem dat_strs (H : Hp) (n : Nat) : ∀ (g : List Str), mapO (dat H n) (g.map V.str) = some (g.map PyData.str)
  | [] => rfl
  | x :: r => by
    have e : dat H n (.str x) = some (.str x) := (datE H).2.2.2.1 n x
    rw [List.map_cons]
    unfold mapO
    rw [e, dat_strs H n r]
    rfl
theorem dat_ints (H : Hp) (n : Nat) : ∀ (g : List Int), mapO (dat H n) (g.map V.int) = some (g.map PyData.int)
  | [] => rfl
  | x :: r => by
    have e : dat H n (.int x) = some (.int x) := (datE H).2.2.1 n x
    rw [List.map_cons]
    unfold mapO
    rw [e, dat_ints H n r]
    rfl
theorem mapO_append {f : V → Option PyData} : ∀ {xs ys : List V} {ds es : List PyData}, mapO f xs = some ds → mapO f ys = some es → mapO f (xs ++ ys) = some (ds ++ es)
  | [], ys, ds, es, h1, h2 => by cases h1; exact h2
  | x :: r, ys, ds, es, h1, h2 => by
    unfold mapO at h1
    split at h1
    · rename_i d ds' e1 e2
      cases h1
      rw [List.cons_append, List.cons_append]
      conv => lhs; unfold mapO
      rw [e1, mapO_append e2 h2]
    · cases h1
theorem shp_str {n m : Nat} {x : Str} (h : TxtOk n x) : Shp m (.str x) := (shp_s m).2.2.2 x h.1
theorem Shp.lay {n : Nat} {d : PyData} (h : Shp n d) : d.canLay0 = true := h.1
end RP

namespace RP
open PySem PySem.Spec PyProof.Rows L2
def top (i : Nat) : Stmt := PySem.Challenge.pw_ringpost_k03_who_takes.main.body.getD i (.Pass ⟨0, 0, 0, 0⟩)
/-- what the top says of an own error class -/
structure ErrC (K : PySem.W.Frag) (mg : Str → Option Value) (n : Str) : Prop where
  g : mg n = some (.ref (He.ga K n))
  ex : PySem.W.excIn K (He.ga K n) He.veBase "ValueError.__new__" = true
  k : PySem.W.keepIn K (.ref (He.ga K n)) = true
  s : PySem.W.subIn K (.ref (He.ga K n)) (.type "BaseException") = some true
  t : PySem.W.typeIn K (.ref (He.ga K n)) = some (.type "type")
end RP

namespace RP
open PySem PySem.Spec PyProof.Rows L2
/-- the attributes of a Taker -/
def flTaker (a0 : Int) (a1 : Int) (a2 : Int) (a3 : Addr) (a4 : Addr) : List (Str × V) := [(("room" : Str), V.int a0), (("ring" : Str), V.int a1), (("wanted" : Str), V.int a2), (("texts" : Str), V.ref a3), (("held" : Str), V.ref a4)]
abbrev TakerF (K : PySem.W.Frag) : Prop := Cls K (He.ga K "Taker") ∧ NoAttr K (He.ga K "Taker") "room" ∧ NoAttr K (He.ga K "Taker") "ring" ∧ NoAttr K (He.ga K "Taker") "wanted" ∧ NoAttr K (He.ga K "Taker") "texts" ∧ NoAttr K (He.ga K "Taker") "held"
theorem flTaker_inj (a0 : Int) (a1 : Int) (a2 : Int) (a3 : Addr) (a4 : Addr) (b0 : Int) (b1 : Int) (b2 : Int) (b3 : Addr) (b4 : Addr) : (flTaker a0 a1 a2 a3 a4 = flTaker b0 b1 b2 b3 b4) = (a0 = b0 ∧ a1 = b1 ∧ a2 = b2 ∧ a3 = b3 ∧ a4 = b4) := by
  simp only [flTaker, List.cons.injEq, Prod.mk.injEq, V.int.injEq, V.ref.injEq, true_and, and_true]
theorem TakerL : (∀ (a0 : Int) (a1 : Int) (a2 : Int) (a3 : Addr) (a4 : Addr), (flTaker a0 a1 a2 a3 a4).lookup ("room" : Str) = some (.int a0)) ∧
    (∀ (a0 : Int) (a1 : Int) (a2 : Int) (a3 : Addr) (a4 : Addr), (flTaker a0 a1 a2 a3 a4).lookup ("ring" : Str) = some (.int a1)) ∧
    (∀ (a0 : Int) (a1 : Int) (a2 : Int) (a3 : Addr) (a4 : Addr), (flTaker a0 a1 a2 a3 a4).lookup ("wanted" : Str) = some (.int a2)) ∧
    (∀ (a0 : Int) (a1 : Int) (a2 : Int) (a3 : Addr) (a4 : Addr), (flTaker a0 a1 a2 a3 a4).lookup ("texts" : Str) = some (.ref a3)) ∧
    (∀ (a0 : Int) (a1 : Int) (a2 : Int) (a3 : Addr) (a4 : Addr), (flTaker a0 a1 a2 a3 a4).lookup ("held" : Str) = some (.ref a4)) ∧
    (∀ (a0 : Int) (a1 : Int) (a2 : Int) (a3 : Addr) (a4 : Addr), (flTaker a0 a1 a2 a3 a4).lookup ("want" : Str) = none) ∧
    (∀ (a0 : Int) (a1 : Int) (a2 : Int) (a3 : Addr) (a4 : Addr), (flTaker a0 a1 a2 a3 a4).lookup ("gone" : Str) = none) ∧
    (∀ (a0 : Int) (a1 : Int) (a2 : Int) (a3 : Addr) (a4 : Addr), (flTaker a0 a1 a2 a3 a4).lookup ("kept" : Str) = none) ∧
    (∀ (a0 : Int) (a1 : Int) (a2 : Int) (a3 : Addr) (a4 : Addr), (flTaker a0 a1 a2 a3 a4).lookup ("came" : Str) = none) ∧
    (∀ (a0 : Int) (a1 : Int) (a2 : Int) (a3 : Addr) (a4 : Addr), (flTaker a0 a1 a2 a3 a4).length = 5) ∧
    (∀ (a0 : Int) (a1 : Int) (a2 : Int) (a3 : Addr) (a4 : Addr) (b0 : Int) (b1 : Int) (b2 : Int) (b3 : Addr) (b4 : Addr), (flTaker a0 a1 a2 a3 a4 = flTaker b0 b1 b2 b3 b4) = (a0 = b0 ∧ a1 = b1 ∧ a2 = b2 ∧ a3 = b3 ∧ a4 = b4)) ∧
    (∀ (a0 : Int) (a1 : Int) (a2 : Int) (a3 : Addr) (a4 : Addr) (y : Int), putF ("room" : Str) (.int y) (flTaker a0 a1 a2 a3 a4) = flTaker y a1 a2 a3 a4) ∧
    (∀ (a0 : Int) (a1 : Int) (a2 : Int) (a3 : Addr) (a4 : Addr) (y : Int), putF ("ring" : Str) (.int y) (flTaker a0 a1 a2 a3 a4) = flTaker a0 y a2 a3 a4) ∧
    (∀ (a0 : Int) (a1 : Int) (a2 : Int) (a3 : Addr) (a4 : Addr) (y : Int), putF ("wanted" : Str) (.int y) (flTaker a0 a1 a2 a3 a4) = flTaker a0 a1 y a3 a4) ∧
    (∀ (a0 : Int) (a1 : Int) (a2 : Int) (a3 : Addr) (a4 : Addr) (y : Addr), putF ("texts" : Str) (.ref y) (flTaker a0 a1 a2 a3 a4) = flTaker a0 a1 a2 y a4) ∧
    (∀ (a0 : Int) (a1 : Int) (a2 : Int) (a3 : Addr) (a4 : Addr) (y : Addr), putF ("held" : Str) (.ref y) (flTaker a0 a1 a2 a3 a4) = flTaker a0 a1 a2 a3 y) := by
  refine ⟨?_, ?_, ?_, ?_, ?_, ?_, ?_, ?_, ?_, ?_, ?_, ?_, ?_, ?_, ?_, ?_⟩ <;> intros <;> first | rfl | exact flTaker_inj .. | kernel_rfl
theorem TakerI : (∀  (v : V), putF ("room" : Str) v ([] : List (Str × V)) = [(("room" : Str), v)]) ∧
    (∀ (u0 : V) (v : V), putF ("ring" : Str) v ([(("room" : Str), u0)] : List (Str × V)) = [(("room" : Str), u0), (("ring" : Str), v)]) ∧
    (∀ (u0 : V) (u1 : V) (v : V), putF ("wanted" : Str) v ([(("room" : Str), u0), (("ring" : Str), u1)] : List (Str × V)) = [(("room" : Str), u0), (("ring" : Str), u1), (("wanted" : Str), v)]) ∧
    (∀ (u0 : V) (u1 : V) (u2 : V) (v : V), putF ("texts" : Str) v ([(("room" : Str), u0), (("ring" : Str), u1), (("wanted" : Str), u2)] : List (Str × V)) = [(("room" : Str), u0), (("ring" : Str), u1), (("wanted" : Str), u2), (("texts" : Str), v)]) ∧
    (∀ (a0 : Int) (a1 : Int) (a2 : Int) (a3 : Addr) (a4 : Addr), putF ("held" : Str) (.ref a4) ([(("room" : Str), V.int a0), (("ring" : Str), V.int a1), (("wanted" : Str), V.int a2), (("texts" : Str), V.ref a3)] : List (Str × V)) = flTaker a0 a1 a2 a3 a4) := by
  refine ⟨?_, ?_, ?_, ?_, ?_⟩ <;> intros <;> first | rfl | kernel_rfl
/-! #### what a taker keeps, by plain lists -/
def hget (hd : List (Int × Str)) (k : Int) : Option Str := (hd.find? fun p => decide (p.1 = k)).map (·.2)
def hdrop (hd : List (Int × Str)) (k : Int) : List (Int × Str) := hd.filter fun p => decide (p.1 ≠ k)
def kvs (hd : List (Int × Str)) : List (Key × V) := hd.map fun p => (Sum.inl p.1, V.str p.2)
theorem kvs_get (hd : List (Int × Str)) (k : Int) : valV (kvs hd) (Sum.inl k : Key) = (hget hd k).map V.str := by
  induction hd with
  | nil => rfl
  | cons p r ih =>
    by_cases e : p.1 = k
    · have e1 : valV (kvs (p :: r)) (Sum.inl k : Key) = some (.str p.2) := valV_pos (by show (Sum.inl p.1 : Key) = Sum.inl k; rw [e])
      rw [e1]
      unfold hget
      rw [List.find?_cons, decide_eq_true e]
      rfl
    · have e1 : valV (kvs (p :: r)) (Sum.inl k : Key) = valV (kvs r) (Sum.inl k : Key) := valV_neg (by show ¬ (Sum.inl p.1 : Key) = Sum.inl k; simp [e])
      rw [e1, ih]
      unfold hget
      rw [List.find?_cons, decide_eq_false e]
theorem kvs_drop (hd : List (Int × Str)) (k : Int) : dropK (kvs hd) (Sum.inl k : Key) = kvs (hdrop hd k) := by
  unfold dropK kvs hdrop
  rw [List.filter_map]
  congr 1
  refine List.filter_congr fun p _ => ?_
  show decide ((Sum.inl p.1 : Key) ≠ Sum.inl k) = decide (p.1 ≠ k)
  simp
theorem kvs_put {hd : List (Int × Str)} {k : Int} (x : Str) (h : hget hd k = none) : putK (kvs hd) (Sum.inl k : Key) (.str x) = kvs (hd ++ [(k, x)]) := by
  rw [putK_new _ (by rw [kvs_get, h]; rfl)]
  unfold kvs
  rw [List.map_append]
  rfl
theorem kvs_length (hd : List (Int × Str)) : (kvs hd).length = hd.length := List.length_map ..
theorem kvs_keys (hd : List (Int × Str)) : (kvs hd).map (·.1) = (hd.map (·.1)).map Sum.inl := by
  unfold kvs
  rw [List.map_map, List.map_map]
  rfl
theorem hdrop_lt {hd : List (Int × Str)} {k : Int} {x : Str} (h : hget hd k = some x) : (hdrop hd k).length < hd.length := by
  unfold hget at h
  obtain ⟨p, e, _⟩ := Option.map_eq_some_iff.mp h
  have m := List.mem_of_find?_eq_some e
  have pk := List.find?_some e
  refine Nat.lt_of_le_of_ne (List.length_filter_le _ _) fun e2 => ?_
  have := List.length_filter_eq_length_iff.mp e2 p m
  simp only [decide_eq_true_eq] at pk this
  exact this pk
def drain : Nat → Int → List Str → List (Int × Str) → Int × List Str × List (Int × Str)
  | 0, w, g, h => (w, g, h)
  | f + 1, w, g, h => match hget h w with
    | some x => drain f (w + 1) (g ++ [x]) (hdrop h w)
    | none => (w, g, h)
theorem drain_fuel : ∀ (f f' : Nat) (w : Int) (g : List Str) (h : List (Int × Str)), h.length ≤ f → h.length ≤ f' → drain f w g h = drain f' w g h
  | 0, 0, _, _, _, _, _ => rfl
  | 0, f' + 1, w, g, h, l, _ => by
    have e : h = [] := List.length_eq_zero_iff.mp (Nat.le_zero.mp l)
    subst e
    rfl
  | f + 1, 0, w, g, h, _, l => by
    have e : h = [] := List.length_eq_zero_iff.mp (Nat.le_zero.mp l)
    subst e
    rfl
  | f + 1, f' + 1, w, g, h, l1, l2 => by
    unfold drain
    cases e : hget h w with
    | none => rfl
    | some x =>
      have := hdrop_lt e
      exact drain_fuel f f' _ _ _ (by omega) (by omega)
/-- all that can come out, comes out -/
def drained (w : Int) (g : List Str) (h : List (Int × Str)) : Int × List Str × List (Int × Str) := drain h.length w g h
theorem drained_some {w : Int} {g : List Str} {h : List (Int × Str)} {x : Str} (e : hget h w = some x) : drained w g h = drained (w + 1) (g ++ [x]) (hdrop h w) := by
  have l := hdrop_lt e
  obtain ⟨f, hf⟩ : ∃ f, h.length = f + 1 := ⟨h.length - 1, by omega⟩
  unfold drained
  rw [hf]
  conv => lhs; unfold drain
  rw [e]
  exact drain_fuel _ _ _ _ _ (by omega) (Nat.le_refl _)
theorem drained_none {w : Int} {g : List Str} {h : List (Int × Str)} (e : hget h w = none) : drained w g h = (w, g, h) := by
  unfold drained
  cases h with
  | nil => rfl
  | cons p r =>
    unfold List.length drain
    rw [e]
def tkPut (room ring w : Int) (hd : List (Int × Str)) (n : Int) (x : Str) : List (Int × Str) :=
  if (n - w) % ring < room ∧ hget hd (w + (n - w) % ring) = none then hd ++ [(w + (n - w) % ring, x)] else hd
theorem tkPut_le (room ring w : Int) (hd : List (Int × Str)) (n : Int) (x : Str) : (tkPut room ring w hd n x).length ≤ hd.length + 1 := by
  unfold tkPut
  split
  · rw [List.length_append]; exact Nat.le_refl _
  · omega
structure TkAt (K : PySem.W.Frag) (H : Hp) (p tx hx : Addr) (room ring w : Int) (g : List Str) (hd : List (Int × Str)) : Prop where
  ins : ∃ dx, H p = some (.ins (He.ga K "Taker") dx (flTaker room ring w tx hx))
  txt : H tx = some (.lst (g.map V.str))
  hel : H hx = some (.dK (kvs hd))
theorem TkAt.fr {K : PySem.W.Frag} {H H1 : Hp} {p tx hx : Addr} {room ring w : Int} {g : List Str} {hd : List (Int × Str)} {A : List Addr} (t : TkAt K H p tx hx room ring w g hd) (f : Fr A H H1) (h1 : p ∉ A) (h2 : tx ∉ A) (h3 : hx ∉ A) : TkAt K H1 p tx hx room ring w g hd :=
  ⟨t.ins.elim fun dx e => ⟨dx, f _ _ h1 e⟩, f _ _ h2 t.txt, f _ _ h3 t.hel⟩
theorem TkAt.same {K : PySem.W.Frag} {H H1 : Hp} {p tx hx : Addr} {room ring w : Int} {g : List Str} {hd : List (Int × Str)} (t : TkAt K H p tx hx room ring w g hd) (f : Same H H1) : TkAt K H1 p tx hx room ring w g hd :=
  ⟨t.ins.elim fun dx e => ⟨dx, f _ _ e⟩, f _ _ t.txt, f _ _ t.hel⟩
theorem TkAt.ne {K : PySem.W.Frag} {H : Hp} {p tx hx : Addr} {room ring w : Int} {g : List Str} {hd : List (Int × Str)} (t : TkAt K H p tx hx room ring w g hd) : p ≠ tx ∧ p ≠ hx ∧ tx ≠ hx := by
  obtain ⟨dx, e⟩ := t.ins
  exact ⟨ne_of_obj e t.txt (by simp), ne_of_obj e t.hel (by simp), ne_of_obj t.txt t.hel (by simp)⟩
abbrev s_Taker_init : Stmt := inClass (top 1) 0
abbrev N_Taker_init : List Str := ["self", "room", "ring"]
theorem sc_Taker_init : FnScope N_Taker_init ["self", "room", "ring"] (defScope s_Taker_init) := ⟨rfl, rfl, rfl, by decide +kernel, rfl, by decide +kernel, by decide +kernel⟩
def sp_Taker_init (K : PySem.W.Frag) : Sp := fun vs H Q _ => ∃ p dx w r, vs = [.ref p, .int w, .int r] ∧ H p = some (.ins (He.ga K "Taker") dx []) ∧
  ∀ tx hx H', H tx = none → H hx = none → Fr [p] H H' → TkAt K H' p tx hx w r 0 [] [] → Q .non H'
theorem ok_Taker_init {P : Program} {w : World} {K : PySem.W.Frag} {mg : Str → Option Value} {base : Heap} (F : FnP K ("Taker", some "__init__") "__init__" "Taker.__init__" s_Taker_init) (hm : mg "Taker" = some (.ref (He.ga K "Taker"))) (hmk : Mk K (He.ga K "Taker") (He.ma K (He.ga K "Taker") "__init__")) (bl : Blt mg) (hTaker : TakerF K) : KCal P w K mg base 1 "Taker" (He.ga K "Taker") (sp_Taker_init K) := by
  refine fn_kcal F hm hmk sc_Taker_init (fun vs H Q E => by walk_at "len") (fun _ _ _ _ _ _ us hl => match us, hl with | [_, _, _], _ => rfl) (fun f cdv A outer s H vs Q E hr h => ?_)
  have hu := hu_of hr
  obtain ⟨p, dx, w', r, rfl, hp, q⟩ := h
  refine ⟨_, (pss_cons (ps_fld (pv 0) (pv 1) rfl)
  (pss_cons (ps_fld (pv 0) (pv 2) rfl)
  (pss_cons (ps_fld (pv 0) pe_int rfl)
  (pss_cons (ps_fld (pv 0) (pe_lst pa_nil) rfl)
  (pss_one (ps_fld (pv 0) pe_dnewK rfl)))))), ?_⟩
  walk_at "st0"
  simp only [RDa, RDb, RDv, RDk, RDx, RDe, RDd, RDp, RDq, List.getElem?_cons_zero, List.getElem?_cons_succ, List.set_cons_zero, List.set_cons_succ, List.cons.injEq, List.cons_ne_nil, reduceCtorEq, exists_eq_left', exists_eq_left, exists_and_left, and_assoc, exists_const, true_and, and_true, if_true, if_false, false_and, and_false, exists_false, false_or, or_false, true_implies, false_implies, implies_true, forall_eq, forall_eq', Bool.false_eq_true, if_neg, decide_eq_true_eq, Bool.not_eq_true', decide_eq_false_iff_not, Bool.not_true, Bool.not_false, List.length_cons, List.length_nil, sizeLine_eq, Nat.reduceAdd, Nat.reduceLeDiff, Nat.reduceLT, Int.reduceLT, Int.reduceLE, Int.emod_nonneg, ne_eq, Int.reduceEq, not_false_eq_true, not_true_eq_false, hTaker, TakerI, hp, upd_same, upd_upd]
  intro tx n1
  have e1 : tx ≠ p := fun e => by rw [e, upd_same] at n1; cases n1
  rw [upd_ne e1] at n1
  refine ⟨_, dx, _, (upd_ne (Ne.symm e1)).trans upd_same, hTaker.1, hTaker.2.2.2.2.1, by simp, ?_⟩
  simp only [RDa, RDb, RDv, RDk, RDx, RDe, RDd, RDp, RDq, List.getElem?_cons_zero, List.getElem?_cons_succ, List.set_cons_zero, List.set_cons_succ, List.cons.injEq, List.cons_ne_nil, reduceCtorEq, exists_eq_left', exists_eq_left, exists_and_left, and_assoc, exists_const, true_and, and_true, if_true, if_false, false_and, and_false, exists_false, false_or, or_false, true_implies, false_implies, implies_true, forall_eq, forall_eq', Bool.false_eq_true, if_neg, decide_eq_true_eq, Bool.not_eq_true', decide_eq_false_iff_not, Bool.not_true, Bool.not_false, List.length_cons, List.length_nil, sizeLine_eq, Nat.reduceAdd, Nat.reduceLeDiff, Nat.reduceLT, Int.reduceLT, Int.reduceLE, Int.emod_nonneg, ne_eq, Int.reduceEq, not_false_eq_true, not_true_eq_false, hTaker, TakerI, upd_same, upd_upd]
  intro hx n2
  have e2 : hx ≠ p := fun e => by rw [e, upd_same] at n2; cases n2
  rw [upd_ne e2] at n2
  have e3 : hx ≠ tx := fun e => by rw [e, upd_same] at n2; cases n2
  rw [upd_ne e3, upd_ne e2] at n2
  refine ⟨_, dx, _, (upd_ne (Ne.symm e2)).trans upd_same, hTaker.1, hTaker.2.2.2.2.2, by simp, ?_⟩
  simp only [RDa, RDb, RDv, RDk, RDx, RDe, RDd, RDp, RDq, List.getElem?_cons_zero, List.getElem?_cons_succ, List.set_cons_zero, List.set_cons_succ, List.cons.injEq, List.cons_ne_nil, reduceCtorEq, exists_eq_left', exists_eq_left, exists_and_left, and_assoc, exists_const, true_and, and_true, if_true, if_false, false_and, and_false, exists_false, false_or, or_false, true_implies, false_implies, implies_true, forall_eq, forall_eq', Bool.false_eq_true, if_neg, decide_eq_true_eq, Bool.not_eq_true', decide_eq_false_iff_not, Bool.not_true, Bool.not_false, List.length_cons, List.length_nil, sizeLine_eq, Nat.reduceAdd, Nat.reduceLeDiff, Nat.reduceLT, Int.reduceLT, Int.reduceLE, Int.emod_nonneg, ne_eq, Int.reduceEq, not_false_eq_true, not_true_eq_false, TakerI]
  refine q tx hx _ n1 n2 ?_ ⟨⟨dx, upd_same⟩, ?_, ?_⟩
  · exact (((((Fr.refl _ _).upd (by simp)).new (by rw [upd_ne e1]; exact n1)).upd (by simp)).new (by rw [upd_ne e2, upd_ne e3, upd_ne e2]; exact n2)).upd (by simp)
  · rw [upd_ne e1, upd_ne (Ne.symm e3), upd_ne e1, upd_same]; rfl
  · rw [upd_ne e2, upd_same]; rfl
theorem mk_Taker {K : PySem.W.Frag} {H : Hp} {w r : Int} {Q : VK} {E : XK} (q : ∀ p tx hx H', H p = none → H tx = none → H hx = none → Same H H' → TkAt K H' p tx hx w r 0 [] [] → Q (.ref p) H') (x dx : Addr) (h1 : H x = none) (h2 : H dx = none) (h3 : ¬ dx = x) :
    sp_Taker_init K [.ref x, .int w, .int r] (upd (upd H dx (.own x)) x (.ins (He.ga K "Taker") dx [])) (fun v H2 => v = .non ∧ Q (.ref x) H2) E := by
  refine ⟨x, dx, w, r, rfl, upd_same, fun tx hx H' n1 n2 f t => ⟨rfl, ?_⟩⟩
  have fresh : ∀ c, upd (upd H dx (.own x)) x (.ins (He.ga K "Taker") dx []) c = none → H c = none := fun c n => by
    have e1 : c ≠ x := fun e => by rw [e, upd_same] at n; cases n
    rw [upd_ne e1] at n
    have e2 : c ≠ dx := fun e => by rw [e, upd_same] at n; cases n
    rw [upd_ne e2] at n
    exact n
  refine q x tx hx H' h1 (fresh _ n1) (fresh _ n2) (fun c o e => ?_) t
  have e1 : c ≠ x := ne_of_none e h1
  have e2 : c ≠ dx := ne_of_none e h2
  exact f c o (by simpa using e1) (by rw [upd_ne e1, upd_ne e2]; exact e)
abbrev s_Taker_want : Stmt := inClass (top 1) 1
abbrev N_Taker_want : List Str := ["self"]
theorem sc_Taker_want : FnScope N_Taker_want ["self"] (defScope s_Taker_want) := ⟨rfl, rfl, rfl, by decide +kernel, rfl, by decide +kernel, by decide +kernel⟩
def sp_Taker_want (K : PySem.W.Frag) : Sp := fun vs H Q _ => ∃ p dx room ring w tx hx, vs = [.ref p] ∧ H p = some (.ins (He.ga K "Taker") dx (flTaker room ring w tx hx)) ∧ Q (.int w) H
theorem ok_Taker_want {P : Program} {w : World} {K : PySem.W.Frag} {mg : Str → Option Value} {base : Heap} (F : FnP K ("Taker", some "want") "want" "Taker.want" s_Taker_want) (hc : Cls K (He.ga K "Taker")) (hm : Meth K (He.ga K "Taker") "want" (He.ma K (He.ga K "Taker") "want")) (bl : Blt mg) (hTaker : TakerF K) : MCal P w K mg base 1 (He.ga K "Taker") "want" (sp_Taker_want K) := by
  refine fn_mcal F hc hm sc_Taker_want (fun vs H Q E => by walk_at "len") (fun _ _ _ _ _ _ us hl => match us, hl with | [_], _ => rfl) (fun f cdv A outer s H vs Q E hr h => ?_)
  have hu := hu_of hr
  obtain ⟨p, dx, room, ring, w', tx, hx, rfl, hp, q⟩ := h
  refine ⟨_, (pss_one (ps_ret (pe_fld (pv 0) rfl))), ?_⟩
  walk_at "st0"
  simp only [RDa, RDb, RDv, RDk, RDx, RDe, RDd, RDp, RDq, List.getElem?_cons_zero, List.getElem?_cons_succ, List.set_cons_zero, List.set_cons_succ, List.cons.injEq, List.cons_ne_nil, reduceCtorEq, exists_eq_left', exists_eq_left, exists_and_left, and_assoc, exists_const, true_and, and_true, if_true, if_false, false_and, and_false, exists_false, false_or, or_false, true_implies, false_implies, implies_true, forall_eq, forall_eq', Bool.false_eq_true, if_neg, decide_eq_true_eq, Bool.not_eq_true', decide_eq_false_iff_not, Bool.not_true, Bool.not_false, List.length_cons, List.length_nil, sizeLine_eq, Nat.reduceAdd, Nat.reduceLeDiff, Nat.reduceLT, Int.reduceLT, Int.reduceLE, Int.emod_nonneg, ne_eq, Int.reduceEq, not_false_eq_true, not_true_eq_false, hTaker, TakerL, hp, upd_same, upd_upd]
  exact q
abbrev s_Taker_gone : Stmt := inClass (top 1) 2
abbrev N_Taker_gone : List Str := ["self"]
theorem sc_Taker_gone : FnScope N_Taker_gone ["self"] (defScope s_Taker_gone) := ⟨rfl, rfl, rfl, by decide +kernel, rfl, by decide +kernel, by decide +kernel⟩
def sp_Taker_gone (K : PySem.W.Frag) : Sp := fun vs H Q _ => ∃ p tx hx room ring w g hd, vs = [.ref p] ∧ TkAt K H p tx hx room ring w g hd ∧ ∀ l H', H l = none → Same H H' → H' l = some (.lst (g.map V.str)) → Q (.ref l) H'
theorem ok_Taker_gone {P : Program} {w : World} {K : PySem.W.Frag} {mg : Str → Option Value} {base : Heap} (F : FnP K ("Taker", some "gone") "gone" "Taker.gone" s_Taker_gone) (hc : Cls K (He.ga K "Taker")) (hm : Meth K (He.ga K "Taker") "gone" (He.ma K (He.ga K "Taker") "gone")) (bl : Blt mg) (hTaker : TakerF K) : MCal P w K mg base 1 (He.ga K "Taker") "gone" (sp_Taker_gone K) := by
  refine fn_mcal F hc hm sc_Taker_gone (fun vs H Q E => by walk_at "len") (fun _ _ _ _ _ _ us hl => match us, hl with | [_], _ => rfl) (fun f cdv A outer s H vs Q E hr h => ?_)
  have hu := hu_of hr
  obtain ⟨p, tx, hx, room, ring, w', g, hd, rfl, t, q⟩ := h
  obtain ⟨dx, hp⟩ := t.ins
  have h1 := SqL.of (K := K) t.txt
  refine ⟨_, (pss_one (ps_ret (pe_callTy call_listC (by rfl) (bl.list) (by decide +kernel) (pa_cons (pe_fld (pv 0) rfl) pa_nil)))), ?_⟩
  walk_at "st0"
  simp only [RDa, RDb, RDv, RDk, RDx, RDe, RDd, RDp, RDq, List.getElem?_cons_zero, List.getElem?_cons_succ, List.set_cons_zero, List.set_cons_succ, List.cons.injEq, List.cons_ne_nil, reduceCtorEq, exists_eq_left', exists_eq_left, exists_and_left, and_assoc, exists_const, true_and, and_true, if_true, if_false, false_and, and_false, exists_false, false_or, or_false, true_implies, false_implies, implies_true, forall_eq, forall_eq', Bool.false_eq_true, if_neg, decide_eq_true_eq, Bool.not_eq_true', decide_eq_false_iff_not, Bool.not_true, Bool.not_false, List.length_cons, List.length_nil, sizeLine_eq, Nat.reduceAdd, Nat.reduceLeDiff, Nat.reduceLT, Int.reduceLT, Int.reduceLE, Int.emod_nonneg, ne_eq, Int.reduceEq, not_false_eq_true, not_true_eq_false, hTaker, TakerL, hp, upd_same, upd_upd]
  refine ⟨_, seqO_lst t.txt, fun l nl => q l _ nl (same_new nl) upd_same⟩
/-- the pairs that kept() tells -/
def PairAt (hd : List (Int × Str)) (H : Hp) (k : Int) (y : V) : Prop := ∃ q x, y = .ref q ∧ hget hd k = some x ∧ H q = some (.tup [.int k, .str x])
theorem hget_in {hd : List (Int × Str)} {k : Int} (h : k ∈ hd.map (·.1)) : ∃ x, hget hd k = some x := by
  obtain ⟨p, m, rfl⟩ := List.mem_map.mp h
  unfold hget
  cases e : hd.find? fun q => decide (q.1 = p.1) with
  | none => exact absurd (List.find?_eq_none.mp e p m) (by simp)
  | some q => exact ⟨_, rfl⟩
theorem keeps_pair {hd : List (Int × Str)} : Keeps (PairAt hd) := fun H H' D xs x y hD fr ⟨q, z, e, h1, h⟩ =>
  ⟨q, z, e, h1, fr q _ (fun m => by
    have e2 : q = D := by simpa using m
    rw [e2, hD] at h
    cases h) h⟩
abbrev s_Taker_kept : Stmt := inClass (top 1) 3
abbrev N_Taker_kept : List Str := ["self", "place"]
theorem sc_Taker_kept : FnScope N_Taker_kept ["self"] (defScope s_Taker_kept) := ⟨rfl, rfl, rfl, by decide +kernel, rfl, by decide +kernel, by decide +kernel⟩
def sp_Taker_kept (K : PySem.W.Frag) : Sp := fun vs H Q _ => ∃ p tx hx room ring w g hd, vs = [.ref p] ∧ TkAt K H p tx hx room ring w g hd ∧ hd.length < 64 ∧
  ∀ l rs H', H l = none → Same H H' → H' l = some (.lst rs) → All2 (PairAt hd H') (srt (hd.map (·.1))) rs → Q (.ref l) H'
theorem ok_Taker_kept {P : Program} {w : World} {K : PySem.W.Frag} {mg : Str → Option Value} {base : Heap} (F : FnP K ("Taker", some "kept") "kept" "Taker.kept" s_Taker_kept) (hc : Cls K (He.ga K "Taker")) (hm : Meth K (He.ga K "Taker") "kept" (He.ma K (He.ga K "Taker") "kept")) (bl : Blt mg) (hTaker : TakerF K) : MCal P w K mg base 1 (He.ga K "Taker") "kept" (sp_Taker_kept K) := by
  refine fn_mcal F hc hm sc_Taker_kept (fun vs H Q E => by walk_at "len") (fun _ _ _ _ _ _ us hl => match us, hl with | [_], _ => rfl) (fun f cdv A outer s H vs Q E hr h => ?_)
  have hu := hu_of hr
  obtain ⟨p, tx, hx, room, ring, w', g, hd, rfl, t, hl, q⟩ := h
  obtain ⟨dx, hp⟩ := t.ins
  refine ⟨_, (pss_one (ps_ret (pe_lc (own := [("place", 1)]) rfl sc_Taker_kept.nd (pi_list (pe_callB (call_sortedC rfl) (by rfl) (bl.sorted) (by decide +kernel) (pa_cons (pe_fld (pv 0) rfl) pa_nil))) (blkOk_by (own := [("place", 1)]) (N := N_Taker_kept) (sc := defScope s_Taker_kept) (by decide +kernel)) (fun _ _ _ _ _ =>  by exact (pg_name (i := 1) sc_Taker_kept.nd rfl (Or.inl rfl))) (fun _ _ _ _ _ =>  by exact pts_nil) (fun _ _ _ _ _ =>  by exact (pe_tup (pa_cons (pv 1) (pa_cons (pe_getD (by exact hu) (pe_fldK (K := K) rfl (pv 0) rfl) (pv 1) (fun _ _ => rfl)) pa_nil))))))), ?_⟩
  walk_at "st0"
  simp only [RDa]
  refine lcut (fun a H1 => Same H H1 ∧ H1 a = some (.lst ((srt (hd.map (·.1))).map V.int))) (fun H x y => ∃ k, x = .int k ∧ PairAt hd H k y) ((srt (hd.map (·.1))).map V.int) ?_ ?_ ?_ ?_ ?_ ?_
  · rintro H1 H2 D xs x y hD fr ⟨k, e, pa⟩
    exact ⟨k, e, keeps_pair H1 H2 D xs k y hD fr pa⟩
  · intro Z hZ
    simp only [RDa, RDb, RDv, RDk, RDx, RDe, RDd, RDp, RDq, List.getElem?_cons_zero, List.getElem?_cons_succ, List.set_cons_zero, List.set_cons_succ, List.cons.injEq, List.cons_ne_nil, reduceCtorEq, exists_eq_left', exists_eq_left, exists_and_left, and_assoc, exists_const, true_and, and_true, if_true, if_false, false_and, and_false, exists_false, false_or, or_false, true_implies, false_implies, implies_true, forall_eq, forall_eq', Bool.false_eq_true, if_neg, decide_eq_true_eq, Bool.not_eq_true', decide_eq_false_iff_not, Bool.not_true, Bool.not_false, List.length_cons, List.length_nil, sizeLine_eq, Nat.reduceAdd, Nat.reduceLeDiff, Nat.reduceLT, Int.reduceLT, Int.reduceLE, Int.emod_nonneg, ne_eq, Int.reduceEq, not_false_eq_true, not_true_eq_false, hTaker, TakerL, hp]
    exact ⟨_, t.hel, _, kvs_keys hd, by rw [List.length_map]; exact hl, fun l nl => hZ _ _ ⟨same_new nl, upd_same⟩⟩
  · rintro a H1 ⟨_, h⟩
    exact SqL.of h
  · rw [List.length_map, srt_length, List.length_map]
    exact Nat.le_trans (Nat.le_of_lt hl) (by decide)
  · rintro a H1 H2 i x Z ⟨s1, h1⟩ hx s2 hZ
    have sh := s1.trans s2
    have mx := List.mem_of_getElem? hx
    obtain ⟨k, mk, rfl⟩ := List.mem_map.mp mx
    obtain ⟨z, hz⟩ := hget_in (srt_mem.mp mk)
    simp only [RDa, RDb, RDv, RDk, RDx, RDe, RDd, RDp, RDq, List.getElem?_cons_zero, List.getElem?_cons_succ, List.set_cons_zero, List.set_cons_succ, List.cons.injEq, List.cons_ne_nil, reduceCtorEq, exists_eq_left', exists_eq_left, exists_and_left, and_assoc, exists_const, true_and, and_true, if_true, if_false, false_and, and_false, exists_false, false_or, or_false, true_implies, false_implies, implies_true, forall_eq, forall_eq', Bool.false_eq_true, if_neg, decide_eq_true_eq, Bool.not_eq_true', decide_eq_false_iff_not, Bool.not_true, Bool.not_false, List.length_cons, List.length_nil, sizeLine_eq, Nat.reduceAdd, Nat.reduceLeDiff, Nat.reduceLT, Int.reduceLT, Int.reduceLE, Int.emod_nonneg, ne_eq, Int.reduceEq, not_false_eq_true, not_true_eq_false, hTaker, TakerL, sh _ _ hp, sh _ _ t.hel, kvs_get, hz, Option.map_some]
    intro T nT
    exact hZ _ _ (same_new nT) ⟨k, rfl, T, z, rfl, hz, upd_same⟩
  · rintro a H1 H3 D rs ⟨s1, h1⟩ nD s3 hD ar
    refine q D rs H3 (s1.free nD) (s1.trans s3) hD ?_
    refine ar.map_l.mono fun x y ⟨k, e, pa⟩ => ?_
    cases e
    exact pa
def tkCame (room ring w : Int) (g : List Str) (hd : List (Int × Str)) (n : Int) (x : Str) : Int × List Str × List (Int × Str) := drained w g (tkPut room ring w hd n x)
abbrev s_Taker_came : Stmt := inClass (top 1) 4
abbrev N_Taker_came : List Str := ["self", "number", "text", "step"]
theorem sc_Taker_came : FnScope N_Taker_came ["self", "number", "text"] (defScope s_Taker_came) := ⟨rfl, rfl, rfl, by decide +kernel, rfl, by decide +kernel, by decide +kernel⟩
def sp_Taker_came (K : PySem.W.Frag) : Sp := fun vs H Q _ => ∃ p tx hx room ring w g hd n x, vs = [.ref p, .int n, .str x] ∧ TkAt K H p tx hx room ring w g hd ∧ 0 < ring ∧ g.length + hd.length < 100000 ∧
  ∀ H' w2 g2 h2, tkCame room ring w g hd n x = (w2, g2, h2) → Fr [p, tx, hx] H H' → TkAt K H' p tx hx room ring w2 g2 h2 → Q (.int (w2 % ring)) H'
theorem ok_Taker_came {P : Program} {w : World} {K : PySem.W.Frag} {mg : Str → Option Value} {base : Heap} (F : FnP K ("Taker", some "came") "came" "Taker.came" s_Taker_came) (hc : Cls K (He.ga K "Taker")) (hm : Meth K (He.ga K "Taker") "came" (He.ma K (He.ga K "Taker") "came")) (bl : Blt mg) (hTaker : TakerF K) : MCal P w K mg base 1 (He.ga K "Taker") "came" (sp_Taker_came K) := by
  refine fn_mcal F hc hm sc_Taker_came (fun vs H Q E => by walk_at "len") (fun _ _ _ _ _ _ us hl => match us, hl with | [_, _, _], _ => rfl) (fun f cdv A outer s H vs Q E hr h => ?_)
  have hu := hu_of hr
  obtain ⟨p, tx, hx, room, ring, w', g, hd, n, x, rfl, t, hr0, hl, q⟩ := h
  obtain ⟨dx, hp⟩ := t.ins
  refine ⟨_, (pss_cons (ps_set (i := 3) sc_Taker_came.nd rfl (Or.inl rfl) (pe_op op_mod (pe_op op_sub (pv 1) (pe_fld (pv 0) rfl)) (pe_fld (pv 0) rfl)))
  (pss_cons (ps_if (PW.pt (pw_and (pt_cmpR op_lt (pv 3) (pe_fld (pv 0) rfl) (nomark _)) (pw_and1 (pt_cmp (pc_notinD (by exact hu) (pe_op op_add (pe_fld (pv 0) rfl) (pv 3)) (pe_fld (pv 0) rfl))))))
  (pss_one (ps_putD (by exact hu) (pe_fld (pv 0) rfl) (pe_op op_add (pe_fld (pv 0) rfl) (pv 3)) (pv 2) rfl))
  pss_nil)
  (pss_cons (ps_while (passes_of rfl) (pt_cmp (pc_inD (by exact hu) (pe_fld (pv 0) rfl) (pe_fld (pv 0) rfl)))
  (pss_cons (ps_expr (pe_app (pe_fld (pv 0) rfl) (pe_popD (pe_fld (pv 0) rfl) (pe_fld (pv 0) rfl) ⟨rfl, rfl, rfl, rfl⟩)))
  (pss_one (ps_fld (pv 0) (pe_op op_add (pe_fld (pv 0) rfl) pe_int) rfl))))
  (pss_one (ps_ret (pe_op op_mod (pe_fld (pv 0) rfl) (pe_fld (pv 0) rfl))))))), ?_⟩
  walk_at "st0"
  refine seq_gen fun N_a h_a => ?_
  simp only [RDa, RDb, RDv, RDk, RDx, RDe, RDd, RDp, RDq, List.getElem?_cons_zero, List.getElem?_cons_succ, List.set_cons_zero, List.set_cons_succ, List.cons.injEq, List.cons_ne_nil, reduceCtorEq, exists_eq_left', exists_eq_left, exists_and_left, and_assoc, exists_const, true_and, and_true, if_true, if_false, false_and, and_false, exists_false, false_or, or_false, true_implies, false_implies, implies_true, forall_eq, forall_eq', Bool.false_eq_true, if_neg, decide_eq_true_eq, Bool.not_eq_true', decide_eq_false_iff_not, Bool.not_true, Bool.not_false, List.length_cons, List.length_nil, sizeLine_eq, Nat.reduceAdd, Nat.reduceLeDiff, Nat.reduceLT, Int.reduceLT, Int.reduceLE, Int.emod_nonneg, ne_eq, Int.reduceEq, not_false_eq_true, not_true_eq_false, hTaker, TakerL, hp, hr0]
  refine h_a _ _ ?_
  refine seq_gen fun N_b h_b => ?_
  simp only [RDa, RDb, RDv, RDk, RDx, RDe, RDd, RDp, RDq, List.getElem?_cons_zero, List.getElem?_cons_succ, List.set_cons_zero, List.set_cons_succ, List.cons.injEq, List.cons_ne_nil, reduceCtorEq, exists_eq_left', exists_eq_left, exists_and_left, and_assoc, exists_const, true_and, and_true, if_true, if_false, false_and, and_false, exists_false, false_or, or_false, true_implies, false_implies, implies_true, forall_eq, forall_eq', Bool.false_eq_true, if_neg, decide_eq_true_eq, Bool.not_eq_true', decide_eq_false_iff_not, Bool.not_true, Bool.not_false, List.length_cons, List.length_nil, sizeLine_eq, Nat.reduceAdd, Nat.reduceLeDiff, Nat.reduceLT, Int.reduceLT, Int.reduceLE, Int.emod_nonneg, ne_eq, Int.reduceEq, not_false_eq_true, not_true_eq_false, hTaker, TakerL, hp, hr0, t.hel, kvs_get]
  obtain ⟨d1, d2, d3⟩ := t.ne
  have key : ∀ H1, Fr [p, tx, hx] H H1 → TkAt K H1 p tx hx room ring w' g (tkPut room ring w' hd n x) → N_b [some (.ref p), some (.int n), some (.str x), some (.int ((n - w') % ring))] H1 := by
    intro H1 f1 t1
    refine h_b _ _ ?_
    clear h_a h_b
    refine seq_gen fun N_w h_w => ?_
    have l1 := tkPut_le room ring w' hd n x
    have e1 : tkCame room ring w' g hd n x = drained w' g (tkPut room ring w' hd n x) := rfl
    generalize tkPut room ring w' hd n x = hd1 at t1 l1 e1
    refine ⟨fun m σ H2 => σ = [some (.ref p), some (.int n), some (.str x), some (.int ((n - w') % ring))] ∧ Fr [p, tx, hx] H H2 ∧ ∃ w2 g2 h2, h2.length = m ∧ g2.length + h2.length ≤ g.length + hd.length + 1 ∧ TkAt K H2 p tx hx room ring w2 g2 h2 ∧ tkCame room ring w' g hd n x = drained w2 g2 h2, ⟨hd1.length, rfl, f1, w', g, hd1, rfl, by omega, t1, e1⟩, ?_⟩
    rintro m σ H2 ⟨rfl, f2, w2, g2, h2, rfl, l2, t2, e2⟩
    obtain ⟨dx2, p2⟩ := t2.ins
    simp only [RDa, RDb, RDv, RDk, RDx, RDe, RDd, RDp, RDq, List.getElem?_cons_zero, List.getElem?_cons_succ, List.set_cons_zero, List.set_cons_succ, List.cons.injEq, List.cons_ne_nil, reduceCtorEq, exists_eq_left', exists_eq_left, exists_and_left, and_assoc, exists_const, true_and, and_true, if_true, if_false, false_and, and_false, exists_false, false_or, or_false, true_implies, false_implies, implies_true, forall_eq, forall_eq', Bool.false_eq_true, if_neg, decide_eq_true_eq, Bool.not_eq_true', decide_eq_false_iff_not, Bool.not_true, Bool.not_false, List.length_cons, List.length_nil, sizeLine_eq, Nat.reduceAdd, Nat.reduceLeDiff, Nat.reduceLT, Int.reduceLT, Int.reduceLE, Int.emod_nonneg, ne_eq, Int.reduceEq, not_false_eq_true, not_true_eq_false, hTaker, TakerL, p2, t2.hel, t2.txt, kvs_get]
    cases hg : hget h2 w2 with
    | none =>
      rw [if_neg (by simp)]
      refine h_w _ _ ?_
      rw [drained_none hg] at e2
      simp only [RDa, RDb, RDv, RDk, RDx, RDe, RDd, RDp, RDq, List.getElem?_cons_zero, List.getElem?_cons_succ, List.set_cons_zero, List.set_cons_succ, List.cons.injEq, List.cons_ne_nil, reduceCtorEq, exists_eq_left', exists_eq_left, exists_and_left, and_assoc, exists_const, true_and, and_true, if_true, if_false, false_and, and_false, exists_false, false_or, or_false, true_implies, false_implies, implies_true, forall_eq, forall_eq', Bool.false_eq_true, if_neg, decide_eq_true_eq, Bool.not_eq_true', decide_eq_false_iff_not, Bool.not_true, Bool.not_false, List.length_cons, List.length_nil, sizeLine_eq, Nat.reduceAdd, Nat.reduceLeDiff, Nat.reduceLT, Int.reduceLT, Int.reduceLE, Int.emod_nonneg, ne_eq, Int.reduceEq, not_false_eq_true, not_true_eq_false, hTaker, TakerL, p2, hr0]
      exact q H2 _ _ _ e2 f2 t2
    | some z =>
      rw [if_pos (by simp)]
      have l3 := hdrop_lt hg
      refine ⟨_, fun _ _ z => z, ?_⟩
      simp only [RDa, RDb, RDv, RDk, RDx, RDe, RDd, RDp, RDq, List.getElem?_cons_zero, List.getElem?_cons_succ, List.set_cons_zero, List.set_cons_succ, List.cons.injEq, List.cons_ne_nil, reduceCtorEq, exists_eq_left', exists_eq_left, exists_and_left, and_assoc, exists_const, true_and, and_true, if_true, if_false, false_and, and_false, exists_false, false_or, or_false, true_implies, false_implies, implies_true, forall_eq, forall_eq', Bool.false_eq_true, if_neg, decide_eq_true_eq, Bool.not_eq_true', decide_eq_false_iff_not, Bool.not_true, Bool.not_false, List.length_cons, List.length_nil, sizeLine_eq, Nat.reduceAdd, Nat.reduceLeDiff, Nat.reduceLT, Int.reduceLT, Int.reduceLE, Int.emod_nonneg, ne_eq, Int.reduceEq, not_false_eq_true, not_true_eq_false, hTaker, TakerL, p2, t2.hel, t2.txt, kvs_get, kvs_drop, hg, upd_same, upd_ne d1, upd_ne d2, upd_ne d3, upd_ne (Ne.symm d1), upd_ne (Ne.symm d2), upd_ne (Ne.symm d3), Option.map_some]
      refine ⟨by rw [List.length_map]; omega, _, l3, ((f2.upd (by simp)).upd (by simp)).upd (by simp), w2 + 1, g2 ++ [z], hdrop h2 w2, rfl, by rw [List.length_append]; simp only [List.length_cons, List.length_nil]; omega, ⟨⟨dx2, upd_same⟩, ?_, ?_⟩, by rw [e2, drained_some hg]⟩
      · rw [upd_ne (Ne.symm d1), upd_same, List.map_append]; rfl
      · rw [upd_ne (Ne.symm d2), upd_ne (Ne.symm d3), upd_same]
  by_cases c1 : (n - w') % ring < room
  · rw [if_pos c1]
    cases hg : hget hd (w' + (n - w') % ring) with
    | none =>
      rw [if_pos (by simp)]
      refine ⟨by rw [kvs_length]; omega, ?_⟩
      rw [kvs_put x hg]
      refine key _ ((Fr.refl _ _).upd (by simp)) ?_
      unfold tkPut
      rw [if_pos ⟨c1, hg⟩]
      exact ⟨⟨dx, by rw [upd_ne d2]; exact hp⟩, by rw [upd_ne d3]; exact t.txt, upd_same⟩
    | some z =>
      rw [if_neg (by simp)]
      refine key _ (Fr.refl _ _) ?_
      unfold tkPut
      rw [if_neg (by rw [hg]; simp)]
      exact t
  · rw [if_neg c1]
    refine key _ (Fr.refl _ _) ?_
    unfold tkPut
    rw [if_neg (fun h => c1 h.1)]
    exact t
end RP

namespace RP
open PySem PySem.Spec PyProof.Rows L2
def cell (ns : List Int) (k : Int) : Int := ns.getD k.toNat 0
abbrev s__law_at : Stmt := top 3
abbrev N__law_at : List Str := ["_law_script", "_law_k"]
theorem sc__law_at : FnScope N__law_at ["_law_script", "_law_k"] (defScope s__law_at) := ⟨rfl, rfl, rfl, by decide +kernel, rfl, by decide +kernel, by decide +kernel⟩
def sp__law_at (K : PySem.W.Frag) (a : Addr) (ns : List Int) : Sp := fun vs H Q _ => ∃ k, vs = [.ref a, .int k] ∧ SqL K H a (ns.map V.int) ∧ 0 ≤ k ∧ Q (.int (cell ns k)) H
theorem ok__law_at {P : Program} {w : World} {K : PySem.W.Frag} {mg : Str → Option Value} {base : Heap} (F : FnP K ("_law_at", none) "_law_at" "_law_at" s__law_at) (hm : mg "_law_at" = some (.ref (He.ga K "_law_at"))) (bl : Blt mg) (a : Addr) (ns : List Int) : Cal P w K mg base 1 "_law_at" (sp__law_at K a ns) := by
  refine fn_cal F hm sc__law_at (fun vs H Q E => by walk_at "len") (fun _ _ _ _ _ _ us hl => match us, hl with | [_, _], _ => rfl) (fun f cdv A outer s H vs Q E hr h => ?_)
  have hu := hu_of hr
  obtain ⟨k, rfl, hS, hk, q⟩ := h
  refine ⟨_, (pss_cons (ps_if (pt_cmpR op_lt (pv 1) (pe_callB call_len_seq (by rfl) (bl.len) (by decide +kernel) (pa_cons (pv 0) pa_nil)) (nomark _))
  (pss_one (ps_ret (pe_ix ix_list (pv 0) (pv 1) (fun _ _ => rfl))))
  pss_nil)
  (pss_one (ps_ret pe_int))), ?_⟩
  walk_at "st0"
  simp only [RDa, RDb, RDv, RDk, RDx, RDe, RDd, RDp, RDq, List.getElem?_cons_zero, List.getElem?_cons_succ, List.set_cons_zero, List.set_cons_succ, List.cons.injEq, List.cons_ne_nil, reduceCtorEq, exists_eq_left', exists_eq_left, exists_and_left, and_assoc, exists_const, true_and, and_true, if_true, if_false, false_and, and_false, exists_false, false_or, or_false, true_implies, false_implies, implies_true, forall_eq, forall_eq', Bool.false_eq_true, if_neg, decide_eq_true_eq, Bool.not_eq_true', decide_eq_false_iff_not, Bool.not_true, Bool.not_false, List.length_cons, List.length_nil, sizeLine_eq, Nat.reduceAdd, Nat.reduceLeDiff, Nat.reduceLT, Int.reduceLT, Int.reduceLE, Int.emod_nonneg, ne_eq, Int.reduceEq, not_false_eq_true, not_true_eq_false, hS]
  refine ⟨_, .inl hS, ?_⟩
  rw [List.length_map]
  by_cases e : k < (ns.length : Int)
  · rw [if_pos e]
    refine ⟨_, _, k, V.int (cell ns k), rfl, rfl, hS, ?_, q⟩
    have e2 : k = ((k.toNat : Nat) : Int) := by omega
    have e3 : k.toNat < ns.length := by omega
    rw [e2]
    refine atI_nat ?_
    unfold cell
    rw [List.getElem?_map, List.getElem?_eq_getElem e3, List.getD_eq_getElem?_getD, Int.toNat_natCast, List.getElem?_eq_getElem e3]
    rfl
  · rw [if_neg e]
    have e3 : ns.length ≤ k.toNat := by omega
    have e4 : cell ns k = 0 := by
      unfold cell
      rw [List.getD_eq_getElem?_getD, List.getElem?_eq_none e3]
      rfl
    rw [e4] at q
    exact q
def mixed (c k : Int) : Int := (c * 48271 + 7919 * (k + 1) * (k + 3)) % 2147483647
abbrev s__law_mixed : Stmt := top 4
abbrev N__law_mixed : List Str := ["_law_cell", "_law_k"]
theorem sc__law_mixed : FnScope N__law_mixed ["_law_cell", "_law_k"] (defScope s__law_mixed) := ⟨rfl, rfl, rfl, by decide +kernel, rfl, by decide +kernel, by decide +kernel⟩
def sp__law_mixed (K : PySem.W.Frag) : Sp := fun vs H Q _ => ∃ c k : Int, vs = [.int c, .int k] ∧ 0 ≤ k ∧ k < 100 ∧ Q (.int (mixed c k)) H
theorem ok__law_mixed {P : Program} {w : World} {K : PySem.W.Frag} {mg : Str → Option Value} {base : Heap} (F : FnP K ("_law_mixed", none) "_law_mixed" "_law_mixed" s__law_mixed) (hm : mg "_law_mixed" = some (.ref (He.ga K "_law_mixed"))) (bl : Blt mg) : Cal P w K mg base 1 "_law_mixed" (sp__law_mixed K) := by
  refine fn_cal F hm sc__law_mixed (fun vs H Q E => by walk_at "len") (fun _ _ _ _ _ _ us hl => match us, hl with | [_, _], _ => rfl) (fun f cdv A outer s H vs Q E hr h => ?_)
  have hu := hu_of hr
  obtain ⟨c, k, rfl, h0, h1, q⟩ := h
  refine ⟨_, (pss_one (ps_ret (pe_op op_mod (pe_op op_add (pe_op op_mul (pv 0) pe_int) (pe_op op_mul (pe_op op_mul pe_int (pe_op op_add (pv 1) pe_int)) (pe_op op_add (pv 1) pe_int))) pe_int))), ?_⟩
  walk_at "st0"
  simp only [RDa, RDb, RDv, RDk, RDx, RDe, RDd, RDp, RDq, List.getElem?_cons_zero, List.getElem?_cons_succ, List.set_cons_zero, List.set_cons_succ, List.cons.injEq, List.cons_ne_nil, reduceCtorEq, exists_eq_left', exists_eq_left, exists_and_left, and_assoc, exists_const, true_and, and_true, if_true, if_false, false_and, and_false, exists_false, false_or, or_false, true_implies, false_implies, implies_true, forall_eq, forall_eq', Bool.false_eq_true, if_neg, decide_eq_true_eq, Bool.not_eq_true', decide_eq_false_iff_not, Bool.not_true, Bool.not_false, List.length_cons, List.length_nil, sizeLine_eq, Nat.reduceAdd, Nat.reduceLeDiff, Nat.reduceLT, Int.reduceLT, Int.reduceLE, Int.emod_nonneg, ne_eq, Int.reduceEq, not_false_eq_true, not_true_eq_false]
  refine ⟨.inr ⟨by decide, by decide⟩, .inl ⟨by decide, by decide⟩, .inr ⟨by omega, by omega⟩, q⟩
theorem mixed_pos (c k : Int) : 0 ≤ mixed c k := Int.emod_nonneg _ (by decide)
abbrev s__law_whole : Stmt := top 5
abbrev N__law_whole : List Str := ["_law_thing"]
theorem sc__law_whole : FnScope N__law_whole ["_law_thing"] (defScope s__law_whole) := ⟨rfl, rfl, rfl, by decide +kernel, rfl, by decide +kernel, by decide +kernel⟩
def wholeV (x : V) : Bool := match x with
  | .int _ => true
  | _ => false
def sp__law_whole (K : PySem.W.Frag) : Sp := fun vs H Q _ => ∃ x, vs = [x] ∧ Kn H x ∧ Q (.bl (wholeV x)) H
theorem ok__law_whole {P : Program} {w : World} {K : PySem.W.Frag} {mg : Str → Option Value} {base : Heap} (F : FnP K ("_law_whole", none) "_law_whole" "_law_whole" s__law_whole) (hm : mg "_law_whole" = some (.ref (He.ga K "_law_whole"))) (bl : Blt mg) : Cal P w K mg base 1 "_law_whole" (sp__law_whole K) := by
  refine fn_cal F hm sc__law_whole (fun vs H Q E => by walk_at "len") (fun _ _ _ _ _ _ us hl => match us, hl with | [_], _ => rfl) (fun f cdv A outer s H vs Q E hr h => ?_)
  have hu := hu_of hr
  obtain ⟨x, rfl, hk, q⟩ := h
  refine ⟨_, (pss_one (ps_ret (pe_and (pe_callB call_isC (by rfl) (bl.isi) (by decide +kernel) (pa_cons (pv 0) (pa_cons (pe_bltn (v := .ty "int") (u := .type "int") rfl (bl.int) (by decide +kernel) rfl) pa_nil))) (pe_one (pe_not (pe_callB call_isC (by rfl) (bl.isi) (by decide +kernel) (pa_cons (pv 0) (pa_cons (pe_bltn (v := .ty "bool") (u := .type "bool") rfl (bl.bool) (by decide +kernel) rfl) pa_nil)))))))), ?_⟩
  walk_at "st0"
  simp only [RDa, RDb, RDv, RDk, RDx, RDe, RDd, RDp, RDq, List.getElem?_cons_zero, List.getElem?_cons_succ, List.set_cons_zero, List.set_cons_succ, List.cons.injEq, List.cons_ne_nil, reduceCtorEq, exists_eq_left', exists_eq_left, exists_and_left, and_assoc, exists_const, true_and, and_true, if_true, if_false, false_and, and_false, exists_false, false_or, or_false, true_implies, false_implies, implies_true, forall_eq, forall_eq', Bool.false_eq_true, if_neg, decide_eq_true_eq, Bool.not_eq_true', decide_eq_false_iff_not, Bool.not_true, Bool.not_false, List.length_cons, List.length_nil, sizeLine_eq, Nat.reduceAdd, Nat.reduceLeDiff, Nat.reduceLT, Int.reduceLT, Int.reduceLE, Int.emod_nonneg, ne_eq, Int.reduceEq, not_false_eq_true, not_true_eq_false]
  rcases hk.cases with rfl | ⟨b, rfl⟩ | ⟨n, rfl⟩ | ⟨z, rfl⟩ | ⟨a, t, rfl, ht, rfl | rfl | rfl⟩
  · simp only [RDv, RDk, exists_eq_left', if_true, Bool.false_eq_true, if_false]; exact q
  · simp only [RDv, RDk, exists_eq_left', if_true, Bool.false_eq_true, if_false, Bool.not_true]; exact q
  · simp only [RDv, RDk, exists_eq_left', if_true, Bool.false_eq_true, if_false, Bool.not_false]; exact q
  · simp only [RDv, RDk, exists_eq_left', if_true, Bool.false_eq_true, if_false]; exact q
  · simp only [ht, RDv, RDk, exists_eq_left', if_true, Bool.false_eq_true, if_false]; exact q
  · simp only [ht, RDv, RDk, exists_eq_left', if_true, Bool.false_eq_true, if_false]; exact q
  · simp only [ht, RDv, RDk, exists_eq_left', if_true, Bool.false_eq_true, if_false]; exact q
end RP

namespace RP
open PySem PySem.Spec PyProof.Rows L2
theorem toList_ofString (s : String) : (Str.ofString s).cps.toList = s.toList.map Char.toNat := by
  unfold Str.ofString
  rw [← cpsOfBytes_string]
theorem strOk_lit (s : String) : PyData.strOk (Str.ofString s) = true := by
  refine strOk_iff.mpr fun c hc => ?_
  rw [toList_ofString] at hc
  obtain ⟨ch, _, rfl⟩ := List.mem_map.mp hc
  have v := ch.valid
  rcases v with v | ⟨_, v⟩
  · show ch.val.toNat < _
    have : ch.val.toNat < 55296 := v
    omega
  · exact v
theorem length_lit (s : String) : (Str.ofString s).length = s.toList.length := by
  show (Str.ofString s).cps.size = _
  rw [← Array.length_toList, toList_ofString, List.length_map]
theorem int_txt {i : Int} (h0 : 0 ≤ i) (h1 : i < 1000000) : TxtOk 6 (Str.ofString (toString i)) := by
  obtain ⟨n, rfl⟩ := Int.eq_ofNat_of_zero_le h0
  refine ⟨strOk_lit _, ?_⟩
  rw [length_lit]
  have e : (toString (n : Int)).toList = Nat.toDigits 10 n := by
    show (toString n).toList = _
    simp [Nat.repr, toString]
  rw [e]
  exact PyProof.Rows.digits10_le (by decide) (by omega)
theorem log_small {i : Int} (h0 : 0 ≤ i) (h1 : i < 1000000) : i.natAbs.log2 < 1920 := by
  by_cases e : i.natAbs = 0
  · rw [e]; decide
  · exact (Nat.log2_lt e).mpr (Nat.lt_of_lt_of_le (show i.natAbs < 2 ^ 20 by omega) (Nat.pow_le_pow_right (by decide) (by decide)))
theorem join_ok {n : Nat} (sep : Str) (hs : sep.length = 0) : ∀ (ys : List Str), (∀ y ∈ ys, TxtOk n y) → TxtOk (ys.length * n) (PySem.Str.join sep ys)
  | [], _ => by
    exact ⟨strOk_iff.mpr fun c hc => (by cases hc), Nat.zero_le _⟩
  | [x], h => by
    rw [List.length_singleton, Nat.one_mul]
    exact h x List.mem_cons_self
  | x :: y :: r, h => by
    have ih := join_ok sep hs (y :: r) fun z hz => h z (List.mem_cons_of_mem _ hz)
    have e : PySem.Str.join sep (x :: y :: r) = x ++ sep ++ PySem.Str.join sep (y :: r) := rfl
    have hsep : TxtOk 0 sep := ⟨strOk_iff.mpr fun c hc => by
      have : sep.cps.toList.length = 0 := by rw [Array.length_toList]; exact hs
      rw [List.length_eq_zero_iff.mp this] at hc
      exact absurd hc (by simp), by omega⟩
    rw [e]
    refine ((h x List.mem_cons_self).app hsep |>.app ih).mono ?_
    simp only [List.length_cons, Nat.succ_mul]
    omega
theorem cutS_ok {n : Nat} {z : Str} (h : TxtOk n z) (lo hi : Option Int) : TxtOk n (cutS z lo hi) := by
  refine ⟨strOk_iff.mpr fun c hc => ?_, ?_⟩
  · unfold cutS at hc
    exact strOk_iff.mp h.1 c (List.mem_of_mem_drop (List.mem_of_mem_take (by simpa using hc)))
  · refine Nat.le_trans ?_ h.2
    show (cutS z lo hi).cps.size ≤ z.cps.size
    unfold cutS
    rw [List.size_toArray, List.length_take, List.length_drop, Array.length_toList]
    omega
abbrev s__law_texts : Stmt := top 6
abbrev N__law_texts : List Str := ["_law_cell", "_law_many", "_law_sorts", "_law_some", "_law_number", "_law_tail", "_law_at_here", "_law_found", "_law_j", "_law_k", "_law_one"]
theorem sc__law_texts : FnScope N__law_texts ["_law_cell", "_law_many", "_law_sorts"] (defScope s__law_texts) := ⟨rfl, rfl, rfl, by decide +kernel, rfl, by decide +kernel, by decide +kernel⟩
abbrev someS : Str := " !\"#$&'()*+,-./:;<=>?@ABCDEFGHIJKLMNOPQRSTUVWXYZ[\\]^_abcdefghijklmnopqrstuvwxyz{|}~"
theorem someS_len : someS.length = 83 := by decide +kernel
/-- the text k, of n: the mixed cell -/
def lawTail (n : Int) : Str := Txt.join "" ((List.range (n / 77 % 39).toNat).map fun j : Nat => (⟨#[someS.cps.toList.getD ((n / 7 + (j : Int) * (1 + n % 11)) % 83).toNat 0]⟩ : Str))
def lawTxt0 (n sorts : Int) (k : Nat) : Str := cutS (lawTail n) none (some (n / 5000 % ((lawTail n).length + 1))) ++ Str.ofString (toString ((k : Int) % sorts)) ++ cutS (lawTail n) (some (n / 5000 % ((lawTail n).length + 1))) none
def lawTxt (n sorts : Int) (k : Nat) : Str := if n / 200 % 4 = 1 ∧ (k : Int) % sorts = n / 800 % sorts then "" else lawTxt0 n sorts k
theorem lawTail_ok (n : Int) : TxtOk 38 (lawTail n) := by
  unfold lawTail Txt.join
  rw [StrLaws.glued_eq_join]
  refine (join_ok (n := 1) "" (by decide +kernel) _ fun y hy => ?_).mono ?_
  · obtain ⟨j, _, rfl⟩ := List.mem_map.mp hy
    refine ⟨strOk_iff.mpr fun c hc => ?_, Nat.le_refl _⟩
    have e : c = someS.cps.toList.getD ((n / 7 + (j : Int) * (1 + n % 11)) % 83).toNat 0 := by simpa using hc
    rw [e]
    exact getD_all (p := fun x => x < 1114112) (by decide +kernel) (by decide) _
  · rw [List.length_map, List.length_range]
    have := md_rng (n / 77) (show (0 : Int) < 39 by decide)
    omega
theorem lawTxt0_ok {n sorts : Int} (h : 0 < sorts) (hs : sorts < 1000000) (k : Nat) : TxtOk 82 (lawTxt0 n sorts k) := by
  have m := md_rng (k : Int) h
  exact ((cutS_ok (lawTail_ok n) _ _).app (int_txt m.1 (by omega))).app (cutS_ok (lawTail_ok n) _ _)
theorem lawTxt_ok {n sorts : Int} (h : 0 < sorts) (hs : sorts < 1000000) (k : Nat) : TxtOk 82 (lawTxt n sorts k) := by
  unfold lawTxt
  split
  · exact ⟨by decide +kernel, by decide +kernel⟩
  · exact lawTxt0_ok h hs k
def lawTexts (n sorts : Int) (many : Nat) : List Str := (List.range many).map (lawTxt n sorts)
def sp__law_texts (K : PySem.W.Frag) : Sp := fun vs H Q _ => ∃ c many sorts : Int, vs = [.int c, .int many, .int sorts] ∧ 0 ≤ many ∧ many < 1000 ∧ 0 < sorts ∧ sorts < 1000000 ∧
  ∀ l H', H l = none → Same H H' → H' l = some (.lst ((lawTexts (mixed c 5) sorts many.toNat).map V.str)) → Q (.ref l) H'
theorem ok__law_texts {P : Program} {w : World} {K : PySem.W.Frag} {mg : Str → Option Value} {base : Heap} (F : FnP K ("_law_texts", none) "_law_texts" "_law_texts" s__law_texts) (hm : mg "_law_texts" = some (.ref (He.ga K "_law_texts"))) (bl : Blt mg) (c__law_mixed : Cal P w K mg base 1 "_law_mixed" (sp__law_mixed K)) : Cal P w K mg base 2 "_law_texts" (sp__law_texts K) := by
  refine fn_cal F hm sc__law_texts (fun vs H Q E => by walk_at "len") (fun _ _ _ _ _ _ us hl => match us, hl with | [_, _, _], _ => rfl) (fun f cdv A outer s H vs Q E hr h => ?_)
  have hu := hu_of hr
  obtain ⟨c, many, sorts, rfl, hm0, hm1, hs0, hs1, q⟩ := h
  have hn := mixed_pos c 5
  generalize en : mixed c 5 = n at hn q
  refine ⟨_, (pss_cons (ps_set (i := 3) sc__law_texts.nd rfl (Or.inr rfl) pe_str)
  (pss_cons (ps_set (i := 4) sc__law_texts.nd rfl (Or.inr rfl) (pe_fn c__law_mixed (hr.mono (by decide)) (L2N.takes_of rfl rfl rfl rfl) (pa_cons (pv 0) (pa_cons pe_int pa_nil))))
  (pss_cons (ps_set (i := 5) sc__law_texts.nd rfl (Or.inr rfl) (pe_join pe_str (pe_lc (own := [("_law_j", 8)]) rfl sc__law_texts.nd (pi_range1 rfl (bl.range) (pa_cons (pe_op op_mod (pe_op op_fdiv (pv 4) pe_int) pe_int) pa_nil)) (blkOk_by (own := [("_law_j", 8)]) (N := N__law_texts) (sc := defScope s__law_texts) (by decide +kernel)) (fun _ _ _ _ _ =>  by exact (pg_name (i := 8) sc__law_texts.nd rfl (Or.inl rfl))) (fun _ _ _ _ _ =>  by exact pts_nil) (fun _ _ _ _ _ =>  by exact (pe_ix ix_strC (pv 3) (pe_op op_mod (pe_op op_add (pe_op op_fdiv (pv 4) pe_int) (pe_op op_mul (pv 8) (pe_op op_add pe_int (pe_op op_mod (pv 4) pe_int)))) (pe_callB call_len_str (by rfl) (bl.len) (by decide +kernel) (pa_cons (pv 3) pa_nil))) (fun _ _ => rfl))))))
  (pss_cons (ps_set (i := 6) sc__law_texts.nd rfl (Or.inr rfl) (pe_op op_mod (pe_op op_fdiv (pv 4) pe_int) (pe_op op_add (pe_callB call_len_str (by rfl) (bl.len) (by decide +kernel) (pa_cons (pv 5) pa_nil)) pe_int)))
  (pss_cons (ps_setLc (i := 7) (own := [("_law_k", 9)]) rfl sc__law_texts.nd rfl rfl (sw_true rfl rfl rfl (by decide +kernel)) (pi_range1 rfl (bl.range) (pa_cons (pv 1) pa_nil)) (blkOk_by (own := [("_law_k", 9)]) (N := N__law_texts) (sc := defScope s__law_texts) (by decide +kernel)) (fun _ _ _ _ _ =>  by exact (pg_name (i := 9) sc__law_texts.nd rfl (Or.inl rfl))) (fun _ _ _ _ _ =>  by exact pts_nil) (fun _ _ _ _ _ =>  by exact (pe_op op_add_str (pe_op op_add_str (pe_slice sl_str (pv 5) po_none (po_some (pv 6))) (pe_callTy call_str_int (by rfl) (bl.str) (by decide +kernel) (pa_cons (pe_op op_mod (pv 9) (pv 2)) pa_nil))) (pe_slice sl_str (pv 5) (po_some (pv 6)) po_none))))
  (pss_cons (ps_if (pt_cmpR op_eq (pe_op op_mod (pe_op op_fdiv (pv 4) pe_int) pe_int) pe_int (nomark _))
  (pss_one (ps_setLc (i := 7) (own := [("_law_k", 9), ("_law_one", 10)]) rfl sc__law_texts.nd rfl rfl (sw_true rfl rfl rfl (by decide +kernel)) (pi_enum (by rfl) (bl.enumerate) (pa_cons (pv 7) pa_nil)) (blkOk_by (own := [("_law_k", 9), ("_law_one", 10)]) (N := N__law_texts) (sc := defScope s__law_texts) (by decide +kernel)) (fun _ _ _ _ _ =>  by exact (pg_tupC (n := 2) rfl (pgs_cons (pg_name (i := 9) sc__law_texts.nd rfl (Or.inl rfl)) (pgs_cons (pg_name (i := 10) sc__law_texts.nd rfl (Or.inl rfl)) pgs_nil)))) (fun _ _ _ _ _ =>  by exact pts_nil) (fun _ _ _ _ _ =>  by exact (pe_pick (pa_cons (pv 10) (pa_cons pe_str pa_nil)) (pe_callTy call_int1 (by rfl) (bl.int) (by decide +kernel) (pa_cons (pe_cmpR op_eq (pe_op op_mod (pv 9) (pv 2)) (pe_op op_mod (pe_op op_fdiv (pv 4) pe_int) (pv 2)) (nomark _)) pa_nil)) (fun _ _ => rfl)))))
  pss_nil)
  (pss_one (ps_ret (pv 7))))))))), ?_⟩
  walk_at "st0"
  refine seq_gen fun N_a h_a => ?_
  simp only [RDa, RDb, RDv, RDk, RDx, RDe, RDd, RDp, RDq, List.getElem?_cons_zero, List.getElem?_cons_succ, List.set_cons_zero, List.set_cons_succ, List.cons.injEq, List.cons_ne_nil, reduceCtorEq, exists_eq_left', exists_eq_left, exists_and_left, and_assoc, exists_const, true_and, and_true, if_true, if_false, false_and, and_false, exists_false, false_or, or_false, true_implies, false_implies, implies_true, forall_eq, forall_eq', Bool.false_eq_true, if_neg, decide_eq_true_eq, Bool.not_eq_true', decide_eq_false_iff_not, Bool.not_true, Bool.not_false, List.length_cons, List.length_nil, sizeLine_eq, Nat.reduceAdd, Nat.reduceLeDiff, Nat.reduceLT, Int.reduceLT, Int.reduceLE, Int.emod_nonneg, ne_eq, Int.reduceEq, not_false_eq_true, not_true_eq_false]
  refine h_a _ _ ?_
  refine seq_gen fun N_b h_b => ?_
  simp only [RDa, RDb, RDv, RDk, RDx, RDe, RDd, RDp, RDq, List.getElem?_cons_zero, List.getElem?_cons_succ, List.set_cons_zero, List.set_cons_succ, List.cons.injEq, List.cons_ne_nil, reduceCtorEq, exists_eq_left', exists_eq_left, exists_and_left, and_assoc, exists_const, true_and, and_true, if_true, if_false, false_and, and_false, exists_false, false_or, or_false, true_implies, false_implies, implies_true, forall_eq, forall_eq', Bool.false_eq_true, if_neg, decide_eq_true_eq, Bool.not_eq_true', decide_eq_false_iff_not, Bool.not_true, Bool.not_false, List.length_cons, List.length_nil, sizeLine_eq, Nat.reduceAdd, Nat.reduceLeDiff, Nat.reduceLT, Int.reduceLT, Int.reduceLE, Int.emod_nonneg, ne_eq, Int.reduceEq, not_false_eq_true, not_true_eq_false, sp__law_mixed, en]
  refine h_b _ _ ?_
  clear h_a h_b
  refine seq_gen fun N_c h_c => ?_
  simp only [RDa, RDx, RDq]
  have h39 := md_rng (n / 77) (show (0 : Int) < 39 by decide)
  have h11 := md_rng n (show (0 : Int) < 11 by decide)
  have sl := someS_len
  have c83 : ((83 : Nat) : Int) = 83 := rfl
  refine ⟨⟨_, rfl⟩, ?_⟩
  refine rcut 0 (n / 77 % 39).toNat (fun H1 => H = H1) (fun _ j y => y = .str ⟨#[someS.cps.toList.getD ((n / 7 + (j : Int) * (1 + n % 11)) % 83).toNat 0]⟩) keeps_pure ?_ ?_ ?_ ?_
  · intro Z hZ
    simp only [RDa, RDb, RDv, RDk, RDx, RDe, RDd, RDp, RDq, List.getElem?_cons_zero, List.getElem?_cons_succ, List.set_cons_zero, List.set_cons_succ, List.cons.injEq, List.cons_ne_nil, reduceCtorEq, exists_eq_left', exists_eq_left, exists_and_left, and_assoc, exists_const, true_and, and_true, if_true, if_false, false_and, and_false, exists_false, false_or, or_false, true_implies, false_implies, implies_true, forall_eq, forall_eq', Bool.false_eq_true, if_neg, decide_eq_true_eq, Bool.not_eq_true', decide_eq_false_iff_not, Bool.not_true, Bool.not_false, List.length_cons, List.length_nil, sizeLine_eq, Nat.reduceAdd, Nat.reduceLeDiff, Nat.reduceLT, Int.reduceLT, Int.reduceLE, Int.emod_nonneg, ne_eq, Int.reduceEq, not_false_eq_true, not_true_eq_false]
    exact ⟨by omega, by omega, hZ H rfl⟩
  · rw [sizeLine_eq]
    omega
  · rintro H1 H2 j Z rfl hj s2 hZ
    simp only [RDa, RDb, RDv, RDk, RDx, RDe, RDd, RDp, RDq, List.getElem?_cons_zero, List.getElem?_cons_succ, List.set_cons_zero, List.set_cons_succ, List.cons.injEq, List.cons_ne_nil, reduceCtorEq, exists_eq_left', exists_eq_left, exists_and_left, and_assoc, exists_const, true_and, and_true, if_true, if_false, false_and, and_false, exists_false, false_or, or_false, true_implies, false_implies, implies_true, forall_eq, forall_eq', Bool.false_eq_true, if_neg, decide_eq_true_eq, Bool.not_eq_true', decide_eq_false_iff_not, Bool.not_true, Bool.not_false, List.length_cons, List.length_nil, sizeLine_eq, Nat.reduceAdd, Nat.reduceLeDiff, Nat.reduceLT, Int.reduceLT, Int.reduceLE, Int.emod_nonneg, ne_eq, Int.reduceEq, not_false_eq_true, not_true_eq_false, sl, c83, Int.zero_add]
    have hm := md_rng (n / 7 + (j : Int) * (1 + n % 11)) (show (0 : Int) < 83 by decide)
    refine ⟨.inr ⟨by omega, by omega⟩, _, ?_, hZ _ _ (Same.refl _) rfl⟩
    have hlen : someS.cps.toList.length = 83 := by rw [Array.length_toList]; exact someS_len
    generalize (n / 7 + (j : Int) * (1 + n % 11)) % 83 = k at hm
    rw [show k = ((k.toNat : Nat) : Int) by omega]
    refine atI_nat ?_
    have hk : k.toNat < someS.cps.toList.length := by omega
    rw [Int.toNat_natCast, List.getElem?_eq_getElem hk, List.getD_eq_getElem?_getD, List.getElem?_eq_getElem hk]
    rfl
  · rintro H1 H3 D rs rfl nD s3 hD ar
    have er := ar.map_eq
    refine ⟨_, D, (List.range (n / 77 % 39).toNat).map fun j : Nat => (⟨#[someS.cps.toList.getD ((n / 7 + (j : Int) * (1 + n % 11)) % 83).toNat 0]⟩ : Str), rfl, rfl, .inl (SqL.of (by rw [hD, er, List.map_map]; rfl)), ?_, ?_⟩
    · have hsum : ∀ (g : Nat → Nat) (m : Nat), (List.map (fun x : Str => x.length) (List.map (fun j => (⟨#[g j]⟩ : Str)) (List.range m))).sum = m := by
        intro g m
        rw [List.map_map]
        have e1 : ((fun x : Str => x.length) ∘ fun j => (⟨#[g j]⟩ : Str)) = fun _ => 1 := rfl
        rw [e1, List.map_const', List.sum_replicate_nat, List.length_range, Nat.mul_one]
      have e0 : (Str.ofString "").length = 0 := by decide +kernel
      rw [hsum fun j : Nat => someS.cps.toList.getD ((n / 7 + (j : Int) * (1 + n % 11)) % 83).toNat 0, e0, Nat.mul_zero]
      omega
    show N_c (List.set _ 5 (some (.str (lawTail n)))) H3
    refine h_c _ _ ?_
    clear h_c
    have ht := lawTail_ok n
    generalize et : lawTail n = tl at ht
    refine seq_gen fun N_d h_d => ?_
    simp only [RDa, RDb, RDv, RDk, RDx, RDe, RDd, RDp, RDq, List.getElem?_cons_zero, List.getElem?_cons_succ, List.set_cons_zero, List.set_cons_succ, List.cons.injEq, List.cons_ne_nil, reduceCtorEq, exists_eq_left', exists_eq_left, exists_and_left, and_assoc, exists_const, true_and, and_true, if_true, if_false, false_and, and_false, exists_false, false_or, or_false, true_implies, false_implies, implies_true, forall_eq, forall_eq', Bool.false_eq_true, if_neg, decide_eq_true_eq, Bool.not_eq_true', decide_eq_false_iff_not, Bool.not_true, Bool.not_false, List.length_cons, List.length_nil, sizeLine_eq, Nat.reduceAdd, Nat.reduceLeDiff, Nat.reduceLT, Int.reduceLT, Int.reduceLE, Int.emod_nonneg, ne_eq, Int.reduceEq, not_false_eq_true, not_true_eq_false]
    refine ⟨Nat.le_trans ht.2 (by decide), by omega, h_d _ _ ?_⟩
    clear h_d
    have hat := md_rng (n / 5000) (show (0 : Int) < (tl.length : Int) + 1 by omega)
    have elt : ∀ k : Nat, lawTxt0 n sorts k = cutS tl none (some (n / 5000 % ((tl.length : Int) + 1))) ++ Str.ofString (toString ((k : Int) % sorts)) ++ cutS tl (some (n / 5000 % ((tl.length : Int) + 1))) none := fun k => by
      unfold lawTxt0
      rw [et]
    have s1 : Same H H3 := s3
    refine seq_gen fun N_e h_e => ?_
    simp only [RDa, RDx, RDq]
    refine rcut 0 many.toNat (fun H1 => H3 = H1) (fun _ k y => y = .str (lawTxt0 n sorts k)) keeps_pure ?_ ?_ ?_ ?_
    · intro Z hZ
      simp only [RDa, RDb, RDv, RDk, RDx, RDe, RDd, RDp, RDq, List.getElem?_cons_zero, List.getElem?_cons_succ, List.set_cons_zero, List.set_cons_succ, List.cons.injEq, List.cons_ne_nil, reduceCtorEq, exists_eq_left', exists_eq_left, exists_and_left, and_assoc, exists_const, true_and, and_true, if_true, if_false, false_and, and_false, exists_false, false_or, or_false, true_implies, false_implies, implies_true, forall_eq, forall_eq', Bool.false_eq_true, if_neg, decide_eq_true_eq, Bool.not_eq_true', decide_eq_false_iff_not, Bool.not_true, Bool.not_false, List.length_cons, List.length_nil, sizeLine_eq, Nat.reduceAdd, Nat.reduceLeDiff, Nat.reduceLT, Int.reduceLT, Int.reduceLE, Int.emod_nonneg, ne_eq, Int.reduceEq, not_false_eq_true, not_true_eq_false]
      exact ⟨by omega, by omega, hZ H3 rfl⟩
    · rw [sizeLine_eq]
      omega
    · rintro H1 H2 k Z rfl hk s2 hZ
      simp only [RDa, RDb, RDv, RDk, RDx, RDe, RDd, RDp, RDq, List.getElem?_cons_zero, List.getElem?_cons_succ, List.set_cons_zero, List.set_cons_succ, List.cons.injEq, List.cons_ne_nil, reduceCtorEq, exists_eq_left', exists_eq_left, exists_and_left, and_assoc, exists_const, true_and, and_true, if_true, if_false, false_and, and_false, exists_false, false_or, or_false, true_implies, false_implies, implies_true, forall_eq, forall_eq', Bool.false_eq_true, if_neg, decide_eq_true_eq, Bool.not_eq_true', decide_eq_false_iff_not, Bool.not_true, Bool.not_false, List.length_cons, List.length_nil, sizeLine_eq, Nat.reduceAdd, Nat.reduceLeDiff, Nat.reduceLT, Int.reduceLT, Int.reduceLE, Int.emod_nonneg, ne_eq, Int.reduceEq, not_false_eq_true, not_true_eq_false, sl, c83, Int.zero_add]
      have hm := md_rng (k : Int) hs0
      have o1 := cutS_ok ht none (some (n / 5000 % ((tl.length : Int) + 1)))
      have o2 := cutS_ok ht (some (n / 5000 % ((tl.length : Int) + 1))) none
      have o3 := int_txt hm.1 (by omega)
      refine ⟨Nat.le_trans ht.2 (by decide), hs0, log_small hm.1 (by omega), ?_, Nat.le_trans ht.2 (by decide), ?_, hZ _ _ (Same.refl _) (by rw [elt])⟩
      · exact Nat.le_trans (Nat.add_le_add o1.2 o3.2) (by decide)
      · exact Nat.le_trans (Nat.add_le_add (o1.app o3).2 o2.2) (by decide)
    · rintro H1 H4 D2 rs2 rfl nD2 s4 hD2 ar2
      have er2 := ar2.map_eq
      show N_e (List.set _ 7 (some (.ref D2))) H4
      refine h_e _ _ ?_
      clear h_e
      refine seq_gen fun N_f h_f => ?_
      simp only [RDa, RDb, RDv, RDk, RDx, RDe, RDd, RDp, RDq, List.getElem?_cons_zero, List.getElem?_cons_succ, List.set_cons_zero, List.set_cons_succ, List.cons.injEq, List.cons_ne_nil, reduceCtorEq, exists_eq_left', exists_eq_left, exists_and_left, and_assoc, exists_const, true_and, and_true, if_true, if_false, false_and, and_false, exists_false, false_or, or_false, true_implies, false_implies, implies_true, forall_eq, forall_eq', Bool.false_eq_true, if_neg, decide_eq_true_eq, Bool.not_eq_true', decide_eq_false_iff_not, Bool.not_true, Bool.not_false, List.length_cons, List.length_nil, sizeLine_eq, Nat.reduceAdd, Nat.reduceLeDiff, Nat.reduceLT, Int.reduceLT, Int.reduceLE, Int.emod_nonneg, ne_eq, Int.reduceEq, not_false_eq_true, not_true_eq_false]
      have fin : ∀ (σ : L2.St) (D : Addr) (H5 : Hp), σ[7]? = some (some (.ref D)) → Same H H5 → H D = none → H5 D = some (.lst ((lawTexts n sorts many.toNat).map V.str)) → N_f σ H5 := by
        intro σ D H5 h7 s5 nD h5
        refine h_f _ _ ?_
        simp only [RDa, RDb, RDv, RDk, RDx, RDe, RDd, RDp, RDq, List.getElem?_cons_zero, List.getElem?_cons_succ, List.set_cons_zero, List.set_cons_succ, List.cons.injEq, List.cons_ne_nil, reduceCtorEq, exists_eq_left', exists_eq_left, exists_and_left, and_assoc, exists_const, true_and, and_true, if_true, if_false, false_and, and_false, exists_false, false_or, or_false, true_implies, false_implies, implies_true, forall_eq, forall_eq', Bool.false_eq_true, if_neg, decide_eq_true_eq, Bool.not_eq_true', decide_eq_false_iff_not, Bool.not_true, Bool.not_false, List.length_cons, List.length_nil, sizeLine_eq, Nat.reduceAdd, Nat.reduceLeDiff, Nat.reduceLT, Int.reduceLT, Int.reduceLE, Int.emod_nonneg, ne_eq, Int.reduceEq, not_false_eq_true, not_true_eq_false, h7]
        exact q D H5 nD s5 h5
      by_cases c1 : n / 200 % 4 = 1
      · rw [if_pos c1]
        refine ecut (fun a H1 => a = D2 ∧ H4 = H1) (fun _ x y => ∃ k : Nat, x.1 = k ∧ y = .str (lawTxt n sorts k)) ((List.range many.toNat).map fun k => V.str (lawTxt0 n sorts k)) ?_ ?_ ?_ ?_ ?_ ?_
        · exact keeps_pure
        · intro Z hZ
          simp only [RDa, RDb, RDv, RDk, RDx, RDe, RDd, RDp, RDq, List.getElem?_cons_zero, List.getElem?_cons_succ, List.set_cons_zero, List.set_cons_succ, List.cons.injEq, List.cons_ne_nil, reduceCtorEq, exists_eq_left', exists_eq_left, exists_and_left, and_assoc, exists_const, true_and, and_true, if_true, if_false, false_and, and_false, exists_false, false_or, or_false, true_implies, false_implies, implies_true, forall_eq, forall_eq', Bool.false_eq_true, if_neg, decide_eq_true_eq, Bool.not_eq_true', decide_eq_false_iff_not, Bool.not_true, Bool.not_false, List.length_cons, List.length_nil, sizeLine_eq, Nat.reduceAdd, Nat.reduceLeDiff, Nat.reduceLT, Int.reduceLT, Int.reduceLE, Int.emod_nonneg, ne_eq, Int.reduceEq, not_false_eq_true, not_true_eq_false]
          exact hZ _ _ ⟨rfl, rfl⟩
        · rintro a H1 ⟨rfl, rfl⟩
          rw [← er2]
          exact SqL.of hD2
        · rw [List.length_map, List.length_range, sizeLine_eq]
          omega
        · rintro a H1 H5 k x T Z ⟨rfl, rfl⟩ hx s5 hT hZ
          rw [List.getElem?_map] at hx
          obtain ⟨k', hk', rfl⟩ := Option.map_eq_some_iff.mp hx
          have ek : k' = k := by
            obtain ⟨hlt, e⟩ := List.getElem?_eq_some_iff.mp hk'
            rw [← e, List.getElem_range]
          subst ek
          simp only [RDa, RDb, RDv, RDk, RDx, RDe, RDd, RDp, RDq, List.getElem?_cons_zero, List.getElem?_cons_succ, List.set_cons_zero, List.set_cons_succ, List.cons.injEq, List.cons_ne_nil, reduceCtorEq, exists_eq_left', exists_eq_left, exists_and_left, and_assoc, exists_const, true_and, and_true, if_true, if_false, false_and, and_false, exists_false, false_or, or_false, true_implies, false_implies, implies_true, forall_eq, forall_eq', Bool.false_eq_true, if_neg, decide_eq_true_eq, Bool.not_eq_true', decide_eq_false_iff_not, Bool.not_true, Bool.not_false, List.length_cons, List.length_nil, sizeLine_eq, Nat.reduceAdd, Nat.reduceLeDiff, Nat.reduceLT, Int.reduceLT, Int.reduceLE, Int.emod_nonneg, ne_eq, Int.reduceEq, not_false_eq_true, not_true_eq_false, hT]
          have e01 : ∀ P : Prop, [Decidable P] → (0 : Int) ≤ if P then 1 else 0 := fun P _ => by split <;> decide
          refine ⟨hs0, hs0, e01 _, if (k' : Int) % sorts = n / 800 % sorts then .str "" else .str (lawTxt0 n sorts k'), by split <;> rfl, hZ _ _ (Same.refl _) ⟨k', rfl, ?_⟩⟩
          unfold lawTxt
          by_cases c2 : (k' : Int) % sorts = n / 800 % sorts
          · rw [if_pos c2, if_pos ⟨c1, c2⟩]
          · rw [if_neg c2, if_neg (fun h => c2 h.2)]
        · rintro a H1 H5 D3 rs3 ⟨rfl, rfl⟩ nD3 s5 hD3 ar3
          refine fin _ D3 H5 rfl (s1.trans (s4.trans s5)) (s1.free (s4.free nD3)) ?_
          have ez : rs3 = (lawTexts n sorts many.toNat).map V.str := by
            refine List.ext_getElem? fun i => ?_
            have hl := ar3.length
            rw [List.length_zip, List.length_range, List.length_map, List.length_range, Nat.min_self] at hl
            unfold lawTexts
            rw [List.getElem?_map, List.getElem?_map]
            by_cases hi : i < many.toNat
            · rw [List.getElem?_range hi]
              obtain ⟨y, hy⟩ : ∃ y, rs3[i]? = some y := ⟨_, List.getElem?_eq_getElem (by omega)⟩
              obtain ⟨x, hx, k, e1, e2⟩ := ar3.get hy
              obtain ⟨hz1, hz2⟩ := List.getElem?_zip_eq_some.mp hx
              have hlen : (List.map (fun k => V.str (lawTxt0 n sorts k)) (List.range many.toNat)).length = many.toNat := by rw [List.length_map, List.length_range]
              rw [hlen, List.getElem?_range hi] at hz1
              have e3 : i = x.1 := Option.some.inj hz1
              rw [hy, e2, ← e1, ← e3]
              rfl
            · rw [List.getElem?_eq_none (by omega), List.getElem?_eq_none (by rw [List.length_range]; omega)]
              rfl
          rw [hD3, ez]
      · rw [if_neg c1]
        refine fin _ D2 H4 rfl (s1.trans s4) (s1.free nD2) ?_
        rw [hD2, er2]
        unfold lawTexts
        rw [List.map_map]
        congr 3
        funext k
        show _ = V.str (lawTxt n sorts k)
        unfold lawTxt
        rw [if_neg (fun h => c1 h.1)]
end RP

namespace RP
open PySem PySem.Spec PyProof.Rows L2
/-- the law's own going -/
def m3 (room ring want : Int) (g k : Addr) : List (Key × V) := [(Sum.inr "room", .int room), (Sum.inr "ring", .int ring), (Sum.inr "want", .int want), (Sum.inr "gone", .ref g), (Sum.inr "kept", .ref k)]
theorem m3L : (∀ (a b c : Int) (d e : Addr), valV (m3 a b c d e) (Sum.inr "room" : Key) = some (.int a)) ∧ (∀ (a b c : Int) (d e : Addr), valV (m3 a b c d e) (Sum.inr "ring" : Key) = some (.int b)) ∧
    (∀ (a b c : Int) (d e : Addr), valV (m3 a b c d e) (Sum.inr "want" : Key) = some (.int c)) ∧ (∀ (a b c : Int) (d e : Addr), valV (m3 a b c d e) (Sum.inr "gone" : Key) = some (.ref d)) ∧
    (∀ (a b c : Int) (d e : Addr), valV (m3 a b c d e) (Sum.inr "kept" : Key) = some (.ref e)) ∧ (∀ (a b c c' : Int) (d e : Addr), putK (m3 a b c d e) (Sum.inr "want" : Key) (.int c') = m3 a b c' d e) ∧ (∀ (a b c : Int) (d e : Addr), (m3 a b c d e).length = 5) := by
  refine ⟨?_, ?_, ?_, ?_, ?_, ?_, ?_⟩ <;> intros <;> first | rfl | kernel_rfl
theorem m3_ne {a b c : Int} {d e : Addr} {hd : List (Int × Str)} : HO.dK (m3 a b c d e) ≠ HO.dK (kvs hd) := fun h => by
  cases hd with
  | nil => cases h
  | cons p r => cases h
structure M3 (H : Hp) (m g k : Addr) (room ring w : Int) (gl : List Str) (hd : List (Int × Str)) : Prop where
  dic : H m = some (.dK (m3 room ring w g k))
  txt : H g = some (.lst (gl.map V.str))
  hel : H k = some (.dK (kvs hd))
theorem M3.fr {H H1 : Hp} {m g k : Addr} {room ring w : Int} {gl : List Str} {hd : List (Int × Str)} {A : List Addr} (t : M3 H m g k room ring w gl hd) (f : Fr A H H1) (h1 : m ∉ A) (h2 : g ∉ A) (h3 : k ∉ A) : M3 H1 m g k room ring w gl hd :=
  ⟨f _ _ h1 t.dic, f _ _ h2 t.txt, f _ _ h3 t.hel⟩
theorem M3.same {H H1 : Hp} {m g k : Addr} {room ring w : Int} {gl : List Str} {hd : List (Int × Str)} (t : M3 H m g k room ring w gl hd) (f : Same H H1) : M3 H1 m g k room ring w gl hd :=
  ⟨f _ _ t.dic, f _ _ t.txt, f _ _ t.hel⟩
theorem M3.ne {H : Hp} {m g k : Addr} {room ring w : Int} {gl : List Str} {hd : List (Int × Str)} (t : M3 H m g k room ring w gl hd) : m ≠ g ∧ m ≠ k ∧ g ≠ k :=
  ⟨ne_of_obj t.dic t.txt (by simp), ne_of_obj t.dic t.hel m3_ne, ne_of_obj t.txt t.hel (by simp)⟩
abbrev s__law_came : Stmt := top 7
abbrev N__law_came : List Str := ["_law_m", "_law_number", "_law_text", "_law_place"]
theorem sc__law_came : FnScope N__law_came ["_law_m", "_law_number", "_law_text"] (defScope s__law_came) := ⟨rfl, rfl, rfl, by decide +kernel, rfl, by decide +kernel, by decide +kernel⟩
def sp__law_came (K : PySem.W.Frag) : Sp := fun vs H Q _ => ∃ m g k room ring w gl hd n x, vs = [.ref m, .int n, .str x] ∧ M3 H m g k room ring w gl hd ∧ 0 < ring ∧ 0 ≤ n ∧ n < ring ∧ 0 ≤ room ∧ room < 1000 ∧ 0 ≤ w ∧ w < 100000 ∧ gl.length + hd.length < 100000 ∧
  ∀ H' w2 g2 h2, tkCame room ring w gl hd n x = (w2, g2, h2) → Fr [m, g, k] H H' → M3 H' m g k room ring w2 g2 h2 → Q .non H'
theorem ok__law_came {P : Program} {w : World} {K : PySem.W.Frag} {mg : Str → Option Value} {base : Heap} (F : FnP K ("_law_came", none) "_law_came" "_law_came" s__law_came) (hm : mg "_law_came" = some (.ref (He.ga K "_law_came"))) (bl : Blt mg) : Cal P w K mg base 1 "_law_came" (sp__law_came K) := by
  refine fn_cal F hm sc__law_came (fun vs H Q E => by walk_at "len") (fun _ _ _ _ _ _ us hl => match us, hl with | [_, _, _], _ => rfl) (fun f cdv A outer s H vs Q E hr h => ?_)
  have hu := hu_of hr
  obtain ⟨m, g, k, room, ring, w', gl, hd, n, x, rfl, t, hr0, hn0, hn1, hm0, hm1, hw0, hw1, hl, q⟩ := h
  obtain ⟨d1, d2, d3⟩ := t.ne
  have L := m3L
  refine ⟨_, (pss_cons (ps_for (passes_of rfl) rfl (pi_range2 rfl (bl.range) (pa_cons (pe_getD (by exact hu) (pv 0) pe_str (fun _ _ => rfl)) (pa_cons (pe_op op_add (pe_getD (by exact hu) (pv 0) pe_str (fun _ _ => rfl)) (pe_callB (call_min2 rfl) (by rfl) (bl.min) (by decide +kernel) (pa_cons (pe_getD (by exact hu) (pv 0) pe_str (fun _ _ => rfl)) (pa_cons (pe_getD (by exact hu) (pv 0) pe_str (fun _ _ => rfl)) pa_nil)))) pa_nil))) (pg_name (i := 3) sc__law_came.nd rfl (Or.inl rfl))
  (pss_one (ps_if (PW.pt (pw_and (pt_cmpR op_eq (pe_op op_mod (pv 3) (pe_getD (by exact hu) (pv 0) pe_str (fun _ _ => rfl))) (pv 1) (nomark _)) (pw_and1 (pt_cmp (pc_notinD (by exact hu) (pv 3) (pe_getD (by exact hu) (pv 0) pe_str (fun _ _ => rfl)))))))
  (pss_one (ps_putD (by exact hu) (pe_getD (by exact hu) (pv 0) pe_str (fun _ _ => rfl)) (pv 3) (pv 2) rfl))
  pss_nil)))
  (pss_one (ps_while (passes_of rfl) (pt_cmp (pc_inD (by exact hu) (pe_getD (by exact hu) (pv 0) pe_str (fun _ _ => rfl)) (pe_getD (by exact hu) (pv 0) pe_str (fun _ _ => rfl))))
  (pss_cons (ps_expr (pe_app (pe_getD (by exact hu) (pv 0) pe_str (fun _ _ => rfl)) (pe_popD (pe_getD (by exact hu) (pv 0) pe_str (fun _ _ => rfl)) (pe_getD (by exact hu) (pv 0) pe_str (fun _ _ => rfl)) ⟨rfl, rfl, rfl, rfl⟩)))
  (pss_one (ps_putD (by exact hu) (pv 0) pe_str (pe_op op_add (pe_getD (by exact hu) (pv 0) pe_str (fun _ _ => rfl)) pe_int) rfl)))))), ?_⟩
  walk_at "st0"
  refine seq_gen fun N_a h_a => ?_
  have hsm := md_rng (n - w') hr0
  have hput := tkPut_le room ring w' hd n x
  refine for_rcut w' (mn2 room ring).toNat (fun H1 => H1 = H) ?_ (fun i σ H1 => (∃ u3, σ = [some (.ref m), some (.int n), some (.str x), u3]) ∧ Fr [m, g, k] H H1 ∧ M3 H1 m g k room ring w' gl (if (n - w') % ring < i then tkPut room ring w' hd n x else hd)) ?_ ?_ ?_
  · intro Z hZ
    simp only [RDa, RDb, RDv, RDk, RDx, RDe, RDd, RDp, RDq, List.getElem?_cons_zero, List.getElem?_cons_succ, List.set_cons_zero, List.set_cons_succ, List.cons.injEq, List.cons_ne_nil, reduceCtorEq, exists_eq_left', exists_eq_left, exists_and_left, and_assoc, exists_const, true_and, and_true, if_true, if_false, false_and, and_false, exists_false, false_or, or_false, true_implies, false_implies, implies_true, forall_eq, forall_eq', Bool.false_eq_true, if_neg, decide_eq_true_eq, Bool.not_eq_true', decide_eq_false_iff_not, Bool.not_true, Bool.not_false, List.length_cons, List.length_nil, sizeLine_eq, Nat.reduceAdd, Nat.reduceLeDiff, Nat.reduceLT, Int.reduceLT, Int.reduceLE, Int.emod_nonneg, ne_eq, Int.reduceEq, not_false_eq_true, not_true_eq_false, L, t.dic]
    have e : mn2 room ring = if ring < room then ring else room := rfl
    rw [← e]
    have b : 0 ≤ mn2 room ring ∧ mn2 room ring ≤ room := by unfold mn2; split <;> omega
    refine ⟨by omega, by omega, by omega, by omega, ?_⟩
    rw [show w' + mn2 room ring - w' = mn2 room ring by omega]
    exact hZ H rfl
  · rintro H1 rfl
    refine ⟨⟨_, rfl⟩, Fr.refl _ _, ?_⟩
    rw [if_neg (by omega)]
    exact t
  · rintro i σ H1 hi ⟨⟨u3, rfl⟩, f1, t1⟩
    have hi2 : (i : Int) < room ∧ (i : Int) < ring := by
      have e : mn2 room ring = if ring < room then ring else room := rfl
      rw [e] at hi
      split at hi <;> omega
    have hmod : (w' + (i : Int)) % ring = n ↔ (n - w') % ring = (i : Int) := by
      constructor
      · intro e
        rw [← e, Int.sub_eq_add_neg, Int.emod_add_emod, show w' + (i : Int) + -w' = (i : Int) by omega]
        exact Int.emod_eq_of_lt (by omega) hi2.2
      · intro e
        rw [← e, Int.add_emod_emod, show w' + (n - w') = n by omega]
        exact Int.emod_eq_of_lt hn0 hn1
    have fin : ∀ H2, Fr [m, g, k] H H2 → M3 H2 m g k room ring w' gl (if (n - w') % ring < ((i + 1 : Nat) : Int) then tkPut room ring w' hd n x else hd) → (∃ u3 : Option V, [some (.ref m), some (.int n), some (.str x), some (.int (w' + (i : Int)))] = [some (.ref m), some (.int n), some (.str x), u3]) ∧ Fr [m, g, k] H H2 ∧ M3 H2 m g k room ring w' gl (if (n - w') % ring < ((i + 1 : Nat) : Int) then tkPut room ring w' hd n x else hd) := fun H2 f2 t2 => ⟨⟨_, rfl⟩, f2, t2⟩
    by_cases c2 : (n - w') % ring = (i : Int)
    · have n1 : ¬ ((n - w') % ring < (i : Int)) := by omega
      have n2 : (n - w') % ring < ((i + 1 : Nat) : Int) := by omega
      rw [if_neg n1] at t1
      rw [if_pos n2] at fin
      have fin2 := fun H2 f2 t2 => (fin H2 f2 t2).2
      simp only [RDa, RDb, RDv, RDk, RDx, RDe, RDd, RDp, RDq, List.getElem?_cons_zero, List.getElem?_cons_succ, List.set_cons_zero, List.set_cons_succ, List.cons.injEq, List.cons_ne_nil, reduceCtorEq, exists_eq_left', exists_eq_left, exists_and_left, and_assoc, exists_const, true_and, and_true, if_true, if_false, false_and, and_false, exists_false, false_or, or_false, true_implies, false_implies, implies_true, forall_eq, forall_eq', Bool.false_eq_true, if_neg, decide_eq_true_eq, Bool.not_eq_true', decide_eq_false_iff_not, Bool.not_true, Bool.not_false, List.length_cons, List.length_nil, sizeLine_eq, Nat.reduceAdd, Nat.reduceLeDiff, Nat.reduceLT, Int.reduceLT, Int.reduceLE, Int.emod_nonneg, ne_eq, Int.reduceEq, not_false_eq_true, not_true_eq_false, L, t1.dic, t1.hel, hr0, kvs_get, hmod.mpr c2]
      cases hg : hget hd (w' + (i : Int)) with
      | some z =>
        have e : tkPut room ring w' hd n x = hd := by
          unfold tkPut
          rw [c2, hg, if_neg (by simp)]
        rw [e] at fin2
        rw [if_neg (by simp), if_pos n2, e]
        exact ⟨⟨_, rfl⟩, fin2 H1 f1 t1⟩
      | none =>
        have e : tkPut room ring w' hd n x = hd ++ [(w' + (i : Int), x)] := by
          unfold tkPut
          rw [c2, hg, if_pos ⟨hi2.1, rfl⟩]
        rw [e] at fin2
        rw [if_pos (by simp), if_pos n2, e, kvs_put x hg, kvs_length]
        refine ⟨by omega, ⟨_, rfl⟩, fin2 _ (f1.upd (by simp)) ⟨?_, ?_, upd_same⟩⟩
        · rw [upd_ne d2]; exact t1.dic
        · rw [upd_ne d3]; exact t1.txt
    · have c1 : ¬ (w' + (i : Int)) % ring = n := fun e => c2 (hmod.mp e)
      have n3 : ((n - w') % ring < ((i + 1 : Nat) : Int)) = ((n - w') % ring < (i : Int)) := by
        apply propext
        constructor <;> intro h <;> omega
      simp only [RDa, RDb, RDv, RDk, RDx, RDe, RDd, RDp, RDq, List.getElem?_cons_zero, List.getElem?_cons_succ, List.set_cons_zero, List.set_cons_succ, List.cons.injEq, List.cons_ne_nil, reduceCtorEq, exists_eq_left', exists_eq_left, exists_and_left, and_assoc, exists_const, true_and, and_true, if_true, if_false, false_and, and_false, exists_false, false_or, or_false, true_implies, false_implies, implies_true, forall_eq, forall_eq', Bool.false_eq_true, if_neg, decide_eq_true_eq, Bool.not_eq_true', decide_eq_false_iff_not, Bool.not_true, Bool.not_false, List.length_cons, List.length_nil, sizeLine_eq, Nat.reduceAdd, Nat.reduceLeDiff, Nat.reduceLT, Int.reduceLT, Int.reduceLE, Int.emod_nonneg, ne_eq, Int.reduceEq, not_false_eq_true, not_true_eq_false, L, t1.dic, t1.hel, hr0, kvs_get, c1, n3]
      exact ⟨⟨_, rfl⟩, f1, t1⟩
  · rintro σ H1 ⟨⟨u3, rfl⟩, f1, t1⟩
    refine h_a _ _ ?_
    clear h_a
    have ek : (if (n - w') % ring < (((mn2 room ring).toNat : Nat) : Int) then tkPut room ring w' hd n x else hd) = tkPut room ring w' hd n x := by
      by_cases c1 : (n - w') % ring < room
      · rw [if_pos]
        have e : mn2 room ring = if ring < room then ring else room := rfl
        rw [e]
        split <;> omega
      · have e : tkPut room ring w' hd n x = hd := by
          unfold tkPut
          rw [if_neg (fun h => c1 h.1)]
        rw [e, ite_self]
    rw [ek] at t1
    have e1 : tkCame room ring w' gl hd n x = drained w' gl (tkPut room ring w' hd n x) := rfl
    generalize tkPut room ring w' hd n x = hd1 at t1 hput e1
    refine ⟨fun mm σ H2 => σ = [some (.ref m), some (.int n), some (.str x), u3] ∧ Fr [m, g, k] H H2 ∧ ∃ w2 g2 h2, h2.length = mm ∧ g2.length + h2.length ≤ gl.length + hd.length + 1 ∧ M3 H2 m g k room ring w2 g2 h2 ∧ tkCame room ring w' gl hd n x = drained w2 g2 h2, ⟨hd1.length, rfl, f1, w', gl, hd1, rfl, by omega, t1, e1⟩, ?_⟩
    rintro mm σ H2 ⟨rfl, f2, w2, g2, h2, rfl, l2, t2, e2⟩
    simp only [RDa, RDb, RDv, RDk, RDx, RDe, RDd, RDp, RDq, List.getElem?_cons_zero, List.getElem?_cons_succ, List.set_cons_zero, List.set_cons_succ, List.cons.injEq, List.cons_ne_nil, reduceCtorEq, exists_eq_left', exists_eq_left, exists_and_left, and_assoc, exists_const, true_and, and_true, if_true, if_false, false_and, and_false, exists_false, false_or, or_false, true_implies, false_implies, implies_true, forall_eq, forall_eq', Bool.false_eq_true, if_neg, decide_eq_true_eq, Bool.not_eq_true', decide_eq_false_iff_not, Bool.not_true, Bool.not_false, List.length_cons, List.length_nil, sizeLine_eq, Nat.reduceAdd, Nat.reduceLeDiff, Nat.reduceLT, Int.reduceLT, Int.reduceLE, Int.emod_nonneg, ne_eq, Int.reduceEq, not_false_eq_true, not_true_eq_false, L, t2.dic, t2.hel, t2.txt, kvs_get]
    cases hg : hget h2 w2 with
    | none =>
      rw [if_neg (by simp)]
      rw [drained_none hg] at e2
      exact q H2 _ _ _ e2 f2 t2
    | some z =>
      rw [if_pos (by simp)]
      have l3 := hdrop_lt hg
      refine ⟨_, fun _ _ z => z, ?_⟩
      simp only [RDa, RDb, RDv, RDk, RDx, RDe, RDd, RDp, RDq, List.getElem?_cons_zero, List.getElem?_cons_succ, List.set_cons_zero, List.set_cons_succ, List.cons.injEq, List.cons_ne_nil, reduceCtorEq, exists_eq_left', exists_eq_left, exists_and_left, and_assoc, exists_const, true_and, and_true, if_true, if_false, false_and, and_false, exists_false, false_or, or_false, true_implies, false_implies, implies_true, forall_eq, forall_eq', Bool.false_eq_true, if_neg, decide_eq_true_eq, Bool.not_eq_true', decide_eq_false_iff_not, Bool.not_true, Bool.not_false, List.length_cons, List.length_nil, sizeLine_eq, Nat.reduceAdd, Nat.reduceLeDiff, Nat.reduceLT, Int.reduceLT, Int.reduceLE, Int.emod_nonneg, ne_eq, Int.reduceEq, not_false_eq_true, not_true_eq_false, L, t2.dic, t2.hel, t2.txt, kvs_get, kvs_drop, hg, upd_same, upd_ne d1, upd_ne d2, upd_ne d3, upd_ne (Ne.symm d1), upd_ne (Ne.symm d2), upd_ne (Ne.symm d3), Option.map_some]
      refine ⟨by rw [List.length_map]; omega, _, l3, ((f2.upd (by simp)).upd (by simp)).upd (by simp), w2 + 1, g2 ++ [z], hdrop h2 w2, rfl, by rw [List.length_append]; simp only [List.length_cons, List.length_nil]; omega, ⟨upd_same, ?_, ?_⟩, by rw [e2, drained_some hg]⟩
      · rw [upd_ne (Ne.symm d1), upd_same, List.map_append]; rfl
      · rw [upd_ne (Ne.symm d2), upd_ne (Ne.symm d3), upd_same]
end RP

namespace RP
open PySem PySem.Spec PyProof.Rows L2
/-- what was told at some time: pairs of a list and its copy, off A -/
def OldOk (A : List Addr) (H : Hp) (os : List V) : Prop := ∀ o ∈ os, ∃ q a b d, o = V.ref q ∧ hm A H q = some (.tup [.ref a, .ref b]) ∧ dat (hm A H) 8 (.ref a) = some d ∧ dat (hm A H) 8 (.ref b) = some d ∧ Shp 8 d
theorem OldOk.fr {A : List Addr} {H H1 : Hp} {os : List V} (h : OldOk A H os) (f : Fr A H H1) : OldOk A H1 os := fun o ho => by
  obtain ⟨q, a, b, d, e, h1, h2, h3, h4⟩ := h o ho
  exact ⟨q, a, b, d, e, hm_fr f _ _ h1, dat_same (hm_fr f) _ _ _ h2, dat_same (hm_fr f) _ _ _ h3, h4⟩
theorem OldOk.snoc {A : List Addr} {H : Hp} {os : List V} (h : OldOk A H os) {q a b : Addr} {d : PyData} (h1 : hm A H q = some (.tup [.ref a, .ref b])) (h2 : dat (hm A H) 8 (.ref a) = some d) (h3 : dat (hm A H) 8 (.ref b) = some d) (h4 : Shp 8 d) : OldOk A H (os ++ [.ref q]) := fun o ho => by
  rcases List.mem_append.mp ho with z | z
  · exact h o z
  · have e : o = .ref q := by simpa using z
    exact ⟨q, a, b, d, e, h1, h2, h3, h4⟩
abbrev s__law_asked : Stmt := top 8
abbrev N__law_asked : List Str := ["_law_taker", "_law_which"]
theorem sc__law_asked : FnScope N__law_asked ["_law_taker", "_law_which"] (defScope s__law_asked) := ⟨rfl, rfl, rfl, by decide +kernel, rfl, by decide +kernel, by decide +kernel⟩
def sp__law_asked (K : PySem.W.Frag) : Sp := fun vs H Q _ => ∃ c : Int, ∃ p tx hx room ring w g hd, vs = [.ref p, .int c] ∧ TkAt K H p tx hx room ring w g hd ∧ hd.length < 64 ∧
  (c = 0 → ∀ l H', H l = none → Same H H' → H' l = some (.lst (g.map V.str)) → Q (.ref l) H') ∧
  (c = 1 → ∀ l rs H', H l = none → Same H H' → H' l = some (.lst rs) → All2 (PairAt hd H') (srt (hd.map (·.1))) rs → Q (.ref l) H') ∧
  (c ≠ 0 → c ≠ 1 → Q (.int w) H)
theorem ok__law_asked {P : Program} {w : World} {K : PySem.W.Frag} {mg : Str → Option Value} {base : Heap} (F : FnP K ("_law_asked", none) "_law_asked" "_law_asked" s__law_asked) (hm : mg "_law_asked" = some (.ref (He.ga K "_law_asked"))) (bl : Blt mg) (hTaker : TakerF K) (m_Taker_gone : MCal P w K mg base 1 (He.ga K "Taker") "gone" (sp_Taker_gone K)) (m_Taker_kept : MCal P w K mg base 1 (He.ga K "Taker") "kept" (sp_Taker_kept K)) (m_Taker_want : MCal P w K mg base 1 (He.ga K "Taker") "want" (sp_Taker_want K)) : Cal P w K mg base 2 "_law_asked" (sp__law_asked K) := by
  refine fn_cal F hm sc__law_asked (fun vs H Q E => by walk_at "len") (fun _ _ _ _ _ _ us hl => match us, hl with | [_, _], _ => rfl) (fun f cdv A outer s H vs Q E hr h => ?_)
  have hu := hu_of hr
  obtain ⟨c, p, tx, hx, room, ring, w', g, hd, rfl, t, hl, q0, q1, q2⟩ := h
  obtain ⟨dx, hp⟩ := t.ins
  refine ⟨_, (pss_cons (ps_if (pt_cmpR op_eq (pv 1) pe_int (nomark _))
  (pss_one (ps_ret (pe_mth0 (pv 0) m_Taker_gone (hr.mono (by decide)) (L2N.takes_of rfl rfl rfl rfl))))
  pss_nil)
  (pss_cons (ps_if (pt_cmpR op_eq (pv 1) pe_int (nomark _))
  (pss_one (ps_ret (pe_mth0 (pv 0) m_Taker_kept (hr.mono (by decide)) (L2N.takes_of rfl rfl rfl rfl))))
  pss_nil)
  (pss_one (ps_ret (pe_mth0 (pv 0) m_Taker_want (hr.mono (by decide)) (L2N.takes_of rfl rfl rfl rfl)))))), ?_⟩
  walk_at "st0"
  simp only [RDa, RDb, RDv, RDk, RDx, RDe, RDd, RDp, RDq, List.getElem?_cons_zero, List.getElem?_cons_succ, List.set_cons_zero, List.set_cons_succ, List.cons.injEq, List.cons_ne_nil, reduceCtorEq, exists_eq_left', exists_eq_left, exists_and_left, and_assoc, exists_const, true_and, and_true, if_true, if_false, false_and, and_false, exists_false, false_or, or_false, true_implies, false_implies, implies_true, forall_eq, forall_eq', Bool.false_eq_true, if_neg, decide_eq_true_eq, Bool.not_eq_true', decide_eq_false_iff_not, Bool.not_true, Bool.not_false, List.length_cons, List.length_nil, sizeLine_eq, Nat.reduceAdd, Nat.reduceLeDiff, Nat.reduceLT, Int.reduceLT, Int.reduceLE, Int.emod_nonneg, ne_eq, Int.reduceEq, not_false_eq_true, not_true_eq_false, hTaker, TakerL, hp]
  by_cases c0 : c = 0
  · rw [if_pos c0]
    exact ⟨p, tx, hx, room, ring, w', g, hd, rfl, t, q0 c0⟩
  · rw [if_neg c0]
    by_cases c1 : c = 1
    · rw [if_pos c1]
      exact ⟨p, tx, hx, room, ring, w', g, hd, rfl, t, hl, q1 c1⟩
    · rw [if_neg c1]
      exact ⟨p, dx, room, ring, w', tx, hx, rfl, hp, q2 c0 c1⟩
/-- both sides of the law -/
structure Both (K : PySem.W.Frag) (H : Hp) (p tx hx m mg mk : Addr) (room ring w : Int) (g : List Str) (hd : List (Int × Str)) : Prop where
  t : TkAt K H p tx hx room ring w g hd
  m : M3 H m mg mk room ring w g hd
/-- none of A is a tuple -/
def NoTup (A : List Addr) (H : Hp) : Prop := ∀ c ∈ A, ∀ xs, H c ≠ some (.tup xs) ∧ H c ≠ none
theorem NoTup.hm {A : List Addr} {H : Hp} (h : NoTup A H) {q : Addr} {xs : List V} (e : H q = some (.tup xs)) : hm A H q = some (.tup xs) := by
  rw [hm_in (fun m => (h q m xs).1 e)]
  exact e
/-- what is told of the pairs -/
theorem pairs_dat {H : Hp} {hd : List (Int × Str)} {rs : List V} {ks : List Int} {n : Nat} (h : All2 (PairAt hd H) ks rs) : mapO (dat H (n + 1)) rs = some (ks.map fun k => PyData.tuple [.int k, .str ((hget hd k).getD "")]) := by
  refine All2.mapO_eq (h.mono fun k r ⟨q, x, e, hx, hq⟩ => ?_)
  rw [e, dat_tup hq, hx]
  unfold mapO mapO mapO
  rw [(datE H).2.2.1, (datE H).2.2.2.1]
  rfl
theorem PairAt.mono {hd : List (Int × Str)} {H H' : Hp} {k : Int} {y : V} (h : PairAt hd H k y) (s : Same H H') : PairAt hd H' k y := by
  obtain ⟨q, x, e, hx, hq⟩ := h
  exact ⟨q, x, e, hx, s _ _ hq⟩
abbrev s__law_stands : Stmt := top 9
abbrev N__law_stands : List Str := ["_law_taker", "_law_m", "_law_olds", "_law_way", "_law_due", "_law_turn", "_law_which", "_law_found", "_law_place", "_law_pair"]
theorem sc__law_stands : FnScope N__law_stands ["_law_taker", "_law_m", "_law_olds", "_law_way"] (defScope s__law_stands) := ⟨rfl, rfl, rfl, by decide +kernel, rfl, by decide +kernel, by decide +kernel⟩
def sp__law_stands (K : PySem.W.Frag) : Sp := fun vs H Q _ => ∃ way : Int, ∃ p tx hx m mg mk ol room ring w g hd os, vs = [.ref p, .ref m, .ref ol, .int way] ∧ Both K H p tx hx m mg mk room ring w g hd ∧ hd.length < 64 ∧ g.length < 1000 ∧ 0 ≤ way ∧ way < 4 ∧
  H ol = some (.lst os) ∧ OldOk [p, tx, hx, m, mg, mk, ol] H os ∧ os.length < 100000 ∧ (∀ x ∈ g, TxtOk 100 x) ∧ (∀ y ∈ hd, TxtOk 100 y.2) ∧ ol ≠ tx ∧ ol ≠ mg ∧
  ∀ H' os', Fr [ol] H H' → H' ol = some (.lst os') → OldOk [p, tx, hx, m, mg, mk, ol] H' os' → os'.length ≤ os.length + 6 → Q (.bl true) H'
theorem ok__law_stands {P : Program} {w : World} {K : PySem.W.Frag} {mg : Str → Option Value} {base : Heap} (F : FnP K ("_law_stands", none) "_law_stands" "_law_stands" s__law_stands) (hm : mg "_law_stands" = some (.ref (He.ga K "_law_stands"))) (bl : Blt mg) (c__law_asked : Cal P w K mg base 2 "_law_asked" (sp__law_asked K)) (c__law_whole : Cal P w K mg base 1 "_law_whole" (sp__law_whole K)) : Cal P w K mg base 3 "_law_stands" (sp__law_stands K) := by
  refine fn_cal F hm sc__law_stands (fun vs H Q E => by walk_at "len") (fun _ _ _ _ _ _ us hl => match us, hl with | [_, _, _, _], _ => rfl) (fun f cdv A outer s H vs Q E hr h => ?_)
  have hu := hu_of hr
  obtain ⟨way, p, tx, hx, m, mg', mk, ol, room, ring, w', g, hd, os, rfl, bo, hl, gl, wy0, wy1, ho, oo, ol1, tg, th, no1, no2, q⟩ := h
  have L := m3L
  refine ⟨_, (pss_cons (ps_if (pt_cmpR op_eq (pv 3) pe_int (nomark _))
  (pss_one (ps_ret pe_bl))
  pss_nil)
  (pss_cons (ps_set (i := 4) sc__law_stands.nd rfl (Or.inl rfl) (pe_lst (pa_cons (pe_getD (by exact hu) (pv 1) pe_str (fun _ _ => rfl)) (pa_cons (pe_lc (own := [("_law_place", 8)]) rfl sc__law_stands.nd (pi_list (pe_callB (call_sortedC rfl) (by rfl) (bl.sorted) (by decide +kernel) (pa_cons (pe_getD (by exact hu) (pv 1) pe_str (fun _ _ => rfl)) pa_nil))) (blkOk_by (own := [("_law_place", 8)]) (N := N__law_stands) (sc := defScope s__law_stands) (by decide +kernel)) (fun _ _ _ _ _ =>  by exact (pg_name (i := 8) sc__law_stands.nd rfl (Or.inl rfl))) (fun _ _ _ _ _ =>  by exact pts_nil) (fun _ _ _ _ _ =>  by exact (pe_tup (pa_cons (pv 8) (pa_cons (pe_getD (by exact hu) (pe_getD (by exact hu) (pv 1) pe_str (fun _ _ => rfl)) (pv 8) (fun _ _ => rfl)) pa_nil))))) (pa_cons (pe_getD (by exact hu) (pv 1) pe_str (fun _ _ => rfl)) pa_nil)))))
  (pss_cons (ps_for (passes_of rfl) rfl (pi_range1 rfl (bl.range) (pa_cons pe_int pa_nil)) (pg_name (i := 5) sc__law_stands.nd rfl (Or.inl rfl))
  (pss_cons (ps_set (i := 6) sc__law_stands.nd rfl (Or.inl rfl) (pe_op op_mod (pe_op op_add (pv 3) (pv 5)) pe_int))
  (pss_cons (ps_set (i := 7) sc__law_stands.nd rfl (Or.inl rfl) (pe_fn c__law_asked (hr.mono (by decide)) (L2N.takes_of rfl rfl rfl rfl) (pa_cons (pv 0) (pa_cons (pv 6) pa_nil))))
  (pss_cons (ps_if (PW.pt (pw_or (pt_cmpR (op_neC hr.units) (pv 7) (pe_ix ix_C (pv 4) (pv 6) (fun _ _ => rfl)) (nomark _)) (pw_or1 (pt_not (pt_ifExp (pt_cmpR op_eq (pv 6) pe_int (nomark _)) (pt_val (pe_fn c__law_whole (hr.mono (by decide)) (L2N.takes_of rfl rfl rfl rfl) (pa_cons (pv 7) pa_nil))) (pt_val (pe_callB call_isC (by rfl) (bl.isi) (by decide +kernel) (pa_cons (pv 7) (pa_cons (pe_bltn (v := .ty "list") (u := .type "list") rfl (bl.list) (by decide +kernel) rfl) pa_nil)))))))))
  (pss_one (ps_ret pe_bl))
  pss_nil)
  (pss_cons (ps_if (PW.pt (pw_and (pt_cmpR op_eq (pv 6) pe_int (nomark _)) (pw_and1 (pt_not (pt_val (pe_callB (cr_all rfl) (by rfl) (bl.all) (by decide +kernel) (pa_cons (pe_lc (own := [("_law_pair", 9)]) rfl sc__law_stands.nd (pi_list (pv 7)) (blkOk_by (own := [("_law_pair", 9)]) (N := N__law_stands) (sc := defScope s__law_stands) (by decide +kernel)) (fun _ _ _ _ _ =>  by exact (pg_name (i := 9) sc__law_stands.nd rfl (Or.inl rfl))) (fun _ _ _ _ _ =>  by exact pts_nil) (fun _ _ _ _ _ =>  by exact (pe_and (pe_callB call_isC (by rfl) (bl.isi) (by decide +kernel) (pa_cons (pv 9) (pa_cons (pe_bltn (v := .ty "tuple") (u := .type "tuple") rfl (bl.tuple) (by decide +kernel) rfl) pa_nil))) (pe_one (pe_fn c__law_whole (hr.mono (by decide)) tkB (pa_cons (pe_ix ix_C (pv 9) pe_int (fun _ _ => rfl)) pa_nil)))))) pa_nil)))))))
  (pss_one (ps_ret pe_bl))
  pss_nil)
  (pss_cons (ps_if (PW.pt (pw_and (pt_cmpR op_lt (pv 6) pe_int (nomark _)) (pw_and1 (pt_cmpR op_eq (pe_op op_mod (pv 5) pe_int) pe_int (nomark _)))))
  (pss_one (ps_expr (pe_app (pv 7) pe_str)))
  pss_nil)
  (pss_one (ps_if (pt_cmpR op_lt (pv 6) pe_int (nomark _))
  (pss_one (ps_expr (pe_app (pv 2) (pe_tup (pa_cons (pv 7) (pa_cons (pe_callTy call_listC (by rfl) (bl.list) (by decide +kernel) (pa_cons (pv 7) pa_nil)) pa_nil))))))
  pss_nil))))))))
  (pss_one (ps_ret pe_bl))))), ?_⟩
  walk_at "st0"
  refine seq_gen fun N_a h_a => ?_
  simp only [RDa, RDb, RDv, RDk, RDx, RDe, RDd, RDp, RDq, List.getElem?_cons_zero, List.getElem?_cons_succ, List.set_cons_zero, List.set_cons_succ, List.cons.injEq, List.cons_ne_nil, reduceCtorEq, exists_eq_left', exists_eq_left, exists_and_left, and_assoc, exists_const, true_and, and_true, if_true, if_false, false_and, and_false, exists_false, false_or, or_false, true_implies, false_implies, implies_true, forall_eq, forall_eq', Bool.false_eq_true, if_neg, decide_eq_true_eq, Bool.not_eq_true', decide_eq_false_iff_not, Bool.not_true, Bool.not_false, List.length_cons, List.length_nil, sizeLine_eq, Nat.reduceAdd, Nat.reduceLeDiff, Nat.reduceLT, Int.reduceLT, Int.reduceLE, Int.emod_nonneg, ne_eq, Int.reduceEq, not_false_eq_true, not_true_eq_false]
  by_cases c3 : way = 3
  · rw [if_pos c3]
    exact q H os (Fr.refl _ _) ho oo (by omega)
  rw [if_neg c3]
  refine h_a _ _ ?_
  clear h_a
  refine seq_gen fun N_b h_b => ?_
  simp only [RDa, RDb, RDv, RDk, RDx, RDe, RDd, RDp, RDq, List.getElem?_cons_zero, List.getElem?_cons_succ, List.set_cons_zero, List.set_cons_succ, List.cons.injEq, List.cons_ne_nil, reduceCtorEq, exists_eq_left', exists_eq_left, exists_and_left, and_assoc, exists_const, true_and, and_true, if_true, if_false, false_and, and_false, exists_false, false_or, or_false, true_implies, false_implies, implies_true, forall_eq, forall_eq', Bool.false_eq_true, if_neg, decide_eq_true_eq, Bool.not_eq_true', decide_eq_false_iff_not, Bool.not_true, Bool.not_false, List.length_cons, List.length_nil, sizeLine_eq, Nat.reduceAdd, Nat.reduceLeDiff, Nat.reduceLT, Int.reduceLT, Int.reduceLE, Int.emod_nonneg, ne_eq, Int.reduceEq, not_false_eq_true, not_true_eq_false, L, bo.m.dic, bo.m.hel, bo.m.txt]
  refine lcut (fun a H1 => Same H H1 ∧ H1 a = some (.lst ((srt (hd.map (·.1))).map V.int))) (fun H x y => ∃ k, x = .int k ∧ PairAt hd H k y) ((srt (hd.map (·.1))).map V.int) ?_ ?_ ?_ ?_ ?_ ?_
  · rintro H1 H2 D xs x y hD fr ⟨k, e, pa⟩
    exact ⟨k, e, keeps_pair H1 H2 D xs k y hD fr pa⟩
  · intro Z hZ
    simp only [RDa, RDb, RDv, RDk, RDx, RDe, RDd, RDp, RDq, List.getElem?_cons_zero, List.getElem?_cons_succ, List.set_cons_zero, List.set_cons_succ, List.cons.injEq, List.cons_ne_nil, reduceCtorEq, exists_eq_left', exists_eq_left, exists_and_left, and_assoc, exists_const, true_and, and_true, if_true, if_false, false_and, and_false, exists_false, false_or, or_false, true_implies, false_implies, implies_true, forall_eq, forall_eq', Bool.false_eq_true, if_neg, decide_eq_true_eq, Bool.not_eq_true', decide_eq_false_iff_not, Bool.not_true, Bool.not_false, List.length_cons, List.length_nil, sizeLine_eq, Nat.reduceAdd, Nat.reduceLeDiff, Nat.reduceLT, Int.reduceLT, Int.reduceLE, Int.emod_nonneg, ne_eq, Int.reduceEq, not_false_eq_true, not_true_eq_false, L, bo.m.dic]
    exact ⟨_, bo.m.hel, _, kvs_keys hd, by rw [List.length_map]; exact hl, fun l nl => hZ _ _ ⟨same_new nl, upd_same⟩⟩
  · rintro a H1 ⟨_, h⟩
    exact SqL.of h
  · rw [List.length_map, srt_length, List.length_map]
    exact Nat.le_trans (Nat.le_of_lt hl) (by decide)
  · rintro a H1 H2 i x Z ⟨s1, h1⟩ hx s2 hZ
    have sh := s1.trans s2
    have mx := List.mem_of_getElem? hx
    obtain ⟨k, mk, rfl⟩ := List.mem_map.mp mx
    obtain ⟨z, hz⟩ := hget_in (srt_mem.mp mk)
    simp only [RDa, RDb, RDv, RDk, RDx, RDe, RDd, RDp, RDq, List.getElem?_cons_zero, List.getElem?_cons_succ, List.set_cons_zero, List.set_cons_succ, List.cons.injEq, List.cons_ne_nil, reduceCtorEq, exists_eq_left', exists_eq_left, exists_and_left, and_assoc, exists_const, true_and, and_true, if_true, if_false, false_and, and_false, exists_false, false_or, or_false, true_implies, false_implies, implies_true, forall_eq, forall_eq', Bool.false_eq_true, if_neg, decide_eq_true_eq, Bool.not_eq_true', decide_eq_false_iff_not, Bool.not_true, Bool.not_false, List.length_cons, List.length_nil, sizeLine_eq, Nat.reduceAdd, Nat.reduceLeDiff, Nat.reduceLT, Int.reduceLT, Int.reduceLE, Int.emod_nonneg, ne_eq, Int.reduceEq, not_false_eq_true, not_true_eq_false, L, sh _ _ bo.m.dic, sh _ _ bo.m.hel, kvs_get, hz, Option.map_some]
    intro T nT
    exact hZ _ _ (same_new nT) ⟨k, rfl, T, z, rfl, hz, upd_same⟩
  rintro a H1 H3 D rs ⟨s1, h1⟩ nD s3 hD ar0
  have ar := ar0.map_l.mono (S := PairAt hd H3) fun x y ⟨k, e, pa⟩ => (by cases e; exact pa)
  clear ar0
  have s13 := s1.trans s3
  simp only [RDa, RDb, RDv, RDk, RDx, RDe, RDd, RDp, RDq, List.getElem?_cons_zero, List.getElem?_cons_succ, List.set_cons_zero, List.set_cons_succ, List.cons.injEq, List.cons_ne_nil, reduceCtorEq, exists_eq_left', exists_eq_left, exists_and_left, and_assoc, exists_const, true_and, and_true, if_true, if_false, false_and, and_false, exists_false, false_or, or_false, true_implies, false_implies, implies_true, forall_eq, forall_eq', Bool.false_eq_true, if_neg, decide_eq_true_eq, Bool.not_eq_true', decide_eq_false_iff_not, Bool.not_true, Bool.not_false, List.length_cons, List.length_nil, sizeLine_eq, Nat.reduceAdd, Nat.reduceLeDiff, Nat.reduceLT, Int.reduceLT, Int.reduceLE, Int.emod_nonneg, ne_eq, Int.reduceEq, not_false_eq_true, not_true_eq_false, L, s13 _ _ bo.m.dic]
  intro du n_du
  generalize e_H4 : upd H3 du (.lst [.ref mg', .ref D, .int w']) = H4
  have a_H4 : H4 du = some (.lst [.ref mg', .ref D, .int w']) := by rw [← e_H4]; exact upd_same
  have s_H4 : Same H3 H4 := by rw [← e_H4]; exact same_new n_du
  refine h_b _ _ ?_
  clear h_b
  have b4 : Both K H4 p tx hx m mg' mk room ring w' g hd := ⟨(bo.t.same s13).same s_H4, (bo.m.same s13).same s_H4⟩
  have hD4 := s_H4 _ _ hD
  have ar4 : All2 (PairAt hd H4) (srt (hd.map (·.1))) rs := ar.mono fun k y pa => pa.mono s_H4
  have nt4 : NoTup [p, tx, hx, m, mg', mk, ol] H4 := by
    obtain ⟨dx, e1⟩ := b4.t.ins
    have e7 := s_H4 _ _ (s13 _ _ ho)
    intro c hc
    simp only [List.mem_cons, List.not_mem_nil, or_false] at hc
    rcases hc with rfl | rfl | rfl | rfl | rfl | rfl | rfl
    · rw [e1]; simp
    · rw [b4.t.txt]; simp
    · rw [b4.t.hel]; simp
    · rw [b4.m.dic]; simp
    · rw [b4.m.txt]; simp
    · rw [b4.m.hel]; simp
    · rw [e7]; simp
  have oo4 : OldOk [p, tx, hx, m, mg', mk, ol] H4 os := oo.fr (.of (s13.trans s_H4))
  have ho4 := s_H4 _ _ (s13 _ _ ho)
  have no3 : D ≠ ol := fun e => by
    have z := s1 _ _ ho
    rw [← e, nD] at z
    cases z
  have no4 : du ≠ ol := fun e => by
    have z := s13 _ _ ho
    rw [← e, n_du] at z
    cases z
  refine seq_gen fun N_c h_c => ?_
  refine for_rcut 0 6 (fun H1 => H1 = H4) ?_ (fun i σ H1 => (∃ u5 u6 u7 u8 u9, σ = [some (.ref p), some (.ref m), some (.ref ol), some (.int way), some (.ref du), u5, u6, u7, u8, u9]) ∧ Fr [ol] H4 H1 ∧ ∃ os', H1 ol = some (.lst os') ∧ OldOk [p, tx, hx, m, mg', mk, ol] H1 os' ∧ os'.length ≤ os.length + i) ?_ ?_ ?_
  · intro Z hZ
    simp only [RDa, RDb, RDv, RDk, RDx, RDe, RDd, RDp, RDq, List.getElem?_cons_zero, List.getElem?_cons_succ, List.set_cons_zero, List.set_cons_succ, List.cons.injEq, List.cons_ne_nil, reduceCtorEq, exists_eq_left', exists_eq_left, exists_and_left, and_assoc, exists_const, true_and, and_true, if_true, if_false, false_and, and_false, exists_false, false_or, or_false, true_implies, false_implies, implies_true, forall_eq, forall_eq', Bool.false_eq_true, if_neg, decide_eq_true_eq, Bool.not_eq_true', decide_eq_false_iff_not, Bool.not_true, Bool.not_false, List.length_cons, List.length_nil, sizeLine_eq, Nat.reduceAdd, Nat.reduceLeDiff, Nat.reduceLT, Int.reduceLT, Int.reduceLE, Int.emod_nonneg, ne_eq, Int.reduceEq, not_false_eq_true, not_true_eq_false]
    exact ⟨by decide, by decide, hZ _ rfl⟩
  · rintro H1 rfl
    exact ⟨⟨_, _, _, _, _, rfl⟩, Fr.refl _ _, os, ho4, oo4, by omega⟩
  · rintro i σ H5 hi ⟨⟨u5, u6, u7, u8, u9, rfl⟩, f5, os5, ho5, oo5, l5⟩
    have np : ∀ c ∈ [p, tx, hx, m, mg', mk], c ∉ [ol] := by
      obtain ⟨dx, e1⟩ := b4.t.ins
      intro c hc
      have z : c ≠ ol := by
        simp only [List.mem_cons, List.not_mem_nil, or_false] at hc
        rcases hc with rfl | rfl | rfl | rfl | rfl | rfl
        · exact ne_of_obj e1 ho4 (by simp)
        · exact Ne.symm no1
        · exact ne_of_obj b4.t.hel ho4 (by simp)
        · exact ne_of_obj b4.m.dic ho4 (by simp)
        · exact Ne.symm no2
        · exact ne_of_obj b4.m.hel ho4 (by simp)
      simpa using z
    have b5 : Both K H5 p tx hx m mg' mk room ring w' g hd := ⟨b4.t.fr f5 (np _ (by simp)) (np _ (by simp)) (np _ (by simp)), b4.m.fr f5 (np _ (by simp)) (np _ (by simp)) (np _ (by simp))⟩
    have du5 := f5 _ _ (by simpa using no4) a_H4
    have hD5 := f5 _ _ (by simpa using no3) hD4
    have nt5 : NoTup [p, tx, hx, m, mg', mk, ol] H5 := by
      intro c hc xs
      by_cases e : c = ol
      · rw [e, ho5]; simp
      · cases e4 : H4 c with
        | none => exact absurd e4 (nt4 c hc []).2
        | some o =>
          rw [f5 _ _ (by simpa using e) e4]
          exact ⟨fun z => (nt4 c hc xs).1 (e4.trans z), by simp⟩
    have ar5 : All2 (PairAt hd H5) (srt (hd.map (·.1))) rs := ar4.mono fun k y ⟨q, x, e, hx, hq⟩ => ⟨q, x, e, hx, f5 _ _ (fun h => by
      have e : q = ol := by simpa using h
      rw [e, ho4] at hq
      cases hq) hq⟩
    refine seq_gen fun N_d h_d => ?_
    simp only [RDa, RDb, RDv, RDk, RDx, RDe, RDd, RDp, RDq, List.getElem?_cons_zero, List.getElem?_cons_succ, List.set_cons_zero, List.set_cons_succ, List.cons.injEq, List.cons_ne_nil, reduceCtorEq, exists_eq_left', exists_eq_left, exists_and_left, and_assoc, exists_const, true_and, and_true, if_true, if_false, false_and, and_false, exists_false, false_or, or_false, true_implies, false_implies, implies_true, forall_eq, forall_eq', Bool.false_eq_true, if_neg, decide_eq_true_eq, Bool.not_eq_true', decide_eq_false_iff_not, Bool.not_true, Bool.not_false, List.length_cons, List.length_nil, sizeLine_eq, Nat.reduceAdd, Nat.reduceLeDiff, Nat.reduceLT, Int.reduceLT, Int.reduceLE, Int.emod_nonneg, ne_eq, Int.reduceEq, not_false_eq_true, not_true_eq_false]
    refine h_d _ _ ?_
    clear h_d
    have hj := md_rng (way + (0 + (i : Int))) (show (0 : Int) < 3 by decide)
    generalize (way + (0 + (i : Int))) % 3 = j at hj
    refine seq_gen fun N_e h_e => ?_
    have after : ∀ x H6, Same H5 H6 → (j < 2 → ∃ l xs ds, x = V.ref l ∧ H5 l = none ∧ H6 l = some (.lst xs) ∧ mapO (dat (RP.hm (l :: [p, tx, hx, m, mg', mk, ol]) H6) 7) xs = some ds ∧ (∀ d ∈ ds, Shp 7 d) ∧ xs.length ≤ 1000 ∧
          (∀ H7, Same H6 H7 → dat H7 8 (if j = 0 then .ref mg' else .ref D) = some (.list ds)) ∧ (j = 1 → All2 (PairAt hd H6) (srt (hd.map (·.1))) xs)) → (j = 2 → x = V.int w') →
        N_e [some (.ref p), some (.ref m), some (.ref ol), some (.int way), some (.ref du), some (.int (0 + (i : Int))), some (.int j), some x, u8, u9] H6 := by
      intro x H6 s6 hx2 hx3
      refine h_e _ _ ?_
      clear h_e
      have du6 := s6 _ _ du5
      have shl : ∀ ds : List PyData, (∀ d ∈ ds, Shp 7 d) → SeqAt.shaped (.list ds) = true ∧ PyData.canLay0 (.list ds) = true := fun ds h => ⟨((shp_list h).mono (by decide)).ok, (shp_list h).1⟩
      refine seq_gen fun N_f h_f => ?_
      have s3 : N_f [some (.ref p), some (.ref m), some (.ref ol), some (.int way), some (.ref du), some (.int (0 + (i : Int))), some (.int j), some x, u8, u9] H6 → tIfS (tOr (tTest (tOp (rEqC true) (tVar 7) (tOp rIxC (tVar 4) (tVar 6)))) (tNot (tIfT (tTest (tOp rEq (tVar 6) (tC (V.int 2)))) (tB (tCallS (sp__law_whole K) (WE fun cls d x H => E cls d H) (tCons (tVar 7) tNil))) (tB (tCB rIsC (tCons (tVar 7) (tCons (tC (V.ty "list")) tNil))))))) (tRet (tC (V.bl false))) tNext
          { nx := N_f, rt := Q, bk := N_c, ct := fun σ H1 => (∃ u5 u6 u7 u8 u9, σ = [some (.ref p), some (.ref m), some (.ref ol), some (.int way), some (.ref du), u5, u6, u7, u8, u9]) ∧ Fr [ol] H4 H1 ∧ ∃ os', H1 ol = some (.lst os') ∧ OldOk [p, tx, hx, m, mg', mk, ol] H1 os' ∧ os'.length ≤ os.length + (i + 1) }
          [some (.ref p), some (.ref m), some (.ref ol), some (.int way), some (.ref du), some (.int (0 + (i : Int))), some (.int j), some x, u8, u9] H6 := by
        intro hN
        rcases (show j = 0 ∨ j = 1 ∨ j = 2 by omega) with rfl | rfl | rfl
        · obtain ⟨l, xs, ds, rfl, n6, a6, d6, sd, xl, dd, _⟩ := hx2 (by decide)
          have e1 : dat H6 8 (.ref l) = some (.list ds) := by rw [dat_lst a6, mapO_same (dat_same hm_same 7) _ _ d6]; rfl
          have e2 : dat H6 8 (.ref mg') = some (.list ds) := by simpa using dd H6 (Same.refl _)
          obtain ⟨sh, cl⟩ := shl ds sd
          simp only [RDa, RDb, RDv, RDk, RDx, RDe, RDd, RDp, RDq, List.getElem?_cons_zero, List.getElem?_cons_succ, List.set_cons_zero, List.set_cons_succ, List.cons.injEq, List.cons_ne_nil, reduceCtorEq, exists_eq_left', exists_eq_left, exists_and_left, and_assoc, exists_const, true_and, and_true, if_true, if_false, false_and, and_false, exists_false, false_or, or_false, true_implies, false_implies, implies_true, forall_eq, forall_eq', Bool.false_eq_true, if_neg, decide_eq_true_eq, Bool.not_eq_true', decide_eq_false_iff_not, Bool.not_true, Bool.not_false, List.length_cons, List.length_nil, sizeLine_eq, Nat.reduceAdd, Nat.reduceLeDiff, Nat.reduceLT, Int.reduceLT, Int.reduceLE, Int.emod_nonneg, ne_eq, Int.reduceEq, not_false_eq_true, not_true_eq_false, e1, e2, seqO_lst du6, sh, eqv_self cl, tyN_lst a6]
          exact hN
        · obtain ⟨l, xs, ds, rfl, n6, a6, d6, sd, xl, dd, _⟩ := hx2 (by decide)
          have e1 : dat H6 8 (.ref l) = some (.list ds) := by rw [dat_lst a6, mapO_same (dat_same hm_same 7) _ _ d6]; rfl
          have e2 : dat H6 8 (.ref D) = some (.list ds) := by simpa using dd H6 (Same.refl _)
          obtain ⟨sh, cl⟩ := shl ds sd
          simp only [RDa, RDb, RDv, RDk, RDx, RDe, RDd, RDp, RDq, List.getElem?_cons_zero, List.getElem?_cons_succ, List.set_cons_zero, List.set_cons_succ, List.cons.injEq, List.cons_ne_nil, reduceCtorEq, exists_eq_left', exists_eq_left, exists_and_left, and_assoc, exists_const, true_and, and_true, if_true, if_false, false_and, and_false, exists_false, false_or, or_false, true_implies, false_implies, implies_true, forall_eq, forall_eq', Bool.false_eq_true, if_neg, decide_eq_true_eq, Bool.not_eq_true', decide_eq_false_iff_not, Bool.not_true, Bool.not_false, List.length_cons, List.length_nil, sizeLine_eq, Nat.reduceAdd, Nat.reduceLeDiff, Nat.reduceLT, Int.reduceLT, Int.reduceLE, Int.emod_nonneg, ne_eq, Int.reduceEq, not_false_eq_true, not_true_eq_false, e1, e2, seqO_lst du6, sh, eqv_self cl, tyN_lst a6]
          exact hN
        · have e := hx3 rfl
          subst e
          have kn : Kn H6 (.int w') := rfl
          have sh : SeqAt.shaped (.int w') = true := rfl
          have cl : PyData.canLay0 (.int w') = true := by simp [PyData.canLay0]
          simp only [RDa, RDb, RDv, RDk, RDx, RDe, RDd, RDp, RDq, List.getElem?_cons_zero, List.getElem?_cons_succ, List.set_cons_zero, List.set_cons_succ, List.cons.injEq, List.cons_ne_nil, reduceCtorEq, exists_eq_left', exists_eq_left, exists_and_left, and_assoc, exists_const, true_and, and_true, if_true, if_false, false_and, and_false, exists_false, false_or, or_false, true_implies, false_implies, implies_true, forall_eq, forall_eq', Bool.false_eq_true, if_neg, decide_eq_true_eq, Bool.not_eq_true', decide_eq_false_iff_not, Bool.not_true, Bool.not_false, List.length_cons, List.length_nil, sizeLine_eq, Nat.reduceAdd, Nat.reduceLeDiff, Nat.reduceLT, Int.reduceLT, Int.reduceLE, Int.emod_nonneg, ne_eq, Int.reduceEq, not_false_eq_true, not_true_eq_false, seqO_lst du6, sh, eqv_self cl, kn, wholeV, sp__law_whole]
          exact hN
      refine s3 (h_f _ _ ?_)
      clear s3 h_f
      refine seq_rel (fun σ1 H1 => σ1 = [some (.ref p), some (.ref m), some (.ref ol), some (.int way), some (.ref du), some (.int (0 + (i : Int))), some (.int j), some x, u8, u9] ∧ Same H6 H1) (fun N_g h_g => ?_) ?_
      · by_cases j1 : j = 1
        · obtain ⟨l, xs, ds, rfl, n6, a6, d6, sd, xl, dd, arx⟩ := hx2 (by omega)
          have arx := arx j1
          simp only [RDa, RDb, RDv, RDq, RDx, j1, exists_eq_left', List.getElem?_cons_zero, List.getElem?_cons_succ, decide_true, if_true]
          refine ⟨trivial, ?_⟩
          refine lcut (fun a H1 => Same H6 H1 ∧ a = l) (fun _ _ y => y = .bl true) xs keeps_pure ?_ ?_ ?_ ?_ ?_
          · intro Z hZ
            simp only [RDa, RDb, RDv, RDk, RDx, RDe, RDd, RDp, RDq, List.getElem?_cons_zero, List.getElem?_cons_succ, List.set_cons_zero, List.set_cons_succ, List.cons.injEq, List.cons_ne_nil, reduceCtorEq, exists_eq_left', exists_eq_left, exists_and_left, and_assoc, exists_const, true_and, and_true, if_true, if_false, false_and, and_false, exists_false, false_or, or_false, true_implies, false_implies, implies_true, forall_eq, forall_eq', Bool.false_eq_true, if_neg, decide_eq_true_eq, Bool.not_eq_true', decide_eq_false_iff_not, Bool.not_true, Bool.not_false, List.length_cons, List.length_nil, sizeLine_eq, Nat.reduceAdd, Nat.reduceLeDiff, Nat.reduceLT, Int.reduceLT, Int.reduceLE, Int.emod_nonneg, ne_eq, Int.reduceEq, not_false_eq_true, not_true_eq_false]
            exact hZ _ _ ⟨Same.refl _, rfl⟩
          · rintro a H1 ⟨s1, rfl⟩
            exact SqL.of (s1 _ _ a6)
          · exact Nat.le_trans xl (by decide)
          · rintro a H1 H2 i x Z ⟨s1, rfl⟩ hx s2 hZ
            obtain ⟨k, _, qq, z, rfl, hz, hq⟩ := arx.get hx
            have hq2 := (s1.trans s2) _ _ hq
            have kn : ∀ n, Kn H2 (.int n) := fun _ => rfl
            simp only [RDa, RDb, RDv, RDk, RDx, RDe, RDd, RDp, RDq, List.getElem?_cons_zero, List.getElem?_cons_succ, List.set_cons_zero, List.set_cons_succ, List.cons.injEq, List.cons_ne_nil, reduceCtorEq, exists_eq_left', exists_eq_left, exists_and_left, and_assoc, exists_const, true_and, and_true, if_true, if_false, false_and, and_false, exists_false, false_or, or_false, true_implies, false_implies, implies_true, forall_eq, forall_eq', Bool.false_eq_true, if_neg, decide_eq_true_eq, Bool.not_eq_true', decide_eq_false_iff_not, Bool.not_true, Bool.not_false, List.length_cons, List.length_nil, sizeLine_eq, Nat.reduceAdd, Nat.reduceLeDiff, Nat.reduceLT, Int.reduceLT, Int.reduceLE, Int.emod_nonneg, ne_eq, Int.reduceEq, not_false_eq_true, not_true_eq_false, tyN_tup hq2, seqO_tup hq2, sp__law_whole, kn, wholeV]
            exact hZ _ _ (Same.refl _) rfl
          · rintro a H1 H3 D' rs' ⟨s1, rfl⟩ nD s3 hD ar3
            have e := (ar3.mono (S := fun x y => y = (fun _ : V => V.bl true) x) fun _ _ e => e).map_eq
            have ea : (xs.map fun _ => true).all id = true := by simp
            refine ⟨D', xs.map fun _ => true, rfl, SqL.of (by rw [hD, e, List.map_map]; rfl), ?_⟩
            simp only [RDa, RDb, RDv, RDk, RDx, RDe, RDd, RDp, RDq, List.getElem?_cons_zero, List.getElem?_cons_succ, List.set_cons_zero, List.set_cons_succ, List.cons.injEq, List.cons_ne_nil, reduceCtorEq, exists_eq_left', exists_eq_left, exists_and_left, and_assoc, exists_const, true_and, and_true, if_true, if_false, false_and, and_false, exists_false, false_or, or_false, true_implies, false_implies, implies_true, forall_eq, forall_eq', Bool.false_eq_true, if_neg, decide_eq_true_eq, Bool.not_eq_true', decide_eq_false_iff_not, Bool.not_true, Bool.not_false, List.length_cons, List.length_nil, sizeLine_eq, Nat.reduceAdd, Nat.reduceLeDiff, Nat.reduceLT, Int.reduceLT, Int.reduceLE, Int.emod_nonneg, ne_eq, Int.reduceEq, not_false_eq_true, not_true_eq_false, ea]
            exact h_g _ _ ⟨by rw [j1], s1.trans s3⟩
        · simp only [RDa, RDb, RDv, RDk, RDx, RDe, RDd, RDp, RDq, List.getElem?_cons_zero, List.getElem?_cons_succ, List.set_cons_zero, List.set_cons_succ, List.cons.injEq, List.cons_ne_nil, reduceCtorEq, exists_eq_left', exists_eq_left, exists_and_left, and_assoc, exists_const, true_and, and_true, if_true, if_false, false_and, and_false, exists_false, false_or, or_false, true_implies, false_implies, implies_true, forall_eq, forall_eq', Bool.false_eq_true, if_neg, decide_eq_true_eq, Bool.not_eq_true', decide_eq_false_iff_not, Bool.not_true, Bool.not_false, List.length_cons, List.length_nil, sizeLine_eq, Nat.reduceAdd, Nat.reduceLeDiff, Nat.reduceLT, Int.reduceLT, Int.reduceLE, Int.emod_nonneg, ne_eq, Int.reduceEq, not_false_eq_true, not_true_eq_false, j1]
          exact h_g _ _ ⟨rfl, Same.refl _⟩
      rintro σ1 H7 ⟨rfl, s7⟩
      have s57 := s6.trans s7
      have ho7 := s57 _ _ ho5
      by_cases j2 : j < 2
      · obtain ⟨l, xs, ds, rfl, n6, a6, d6, sd, xl, dd, arx⟩ := hx2 j2
        have a7 := s7 _ _ a6
        have lA : l ∉ [p, tx, hx, m, mg', mk, ol] := fun h => (nt5 l h []).2 n6
        have lol : l ≠ ol := fun e => lA (by rw [e]; simp)
        refine seq_rel (fun σ1 H8 => σ1 = [some (.ref p), some (.ref m), some (.ref ol), some (.int way), some (.ref du), some (.int (0 + (i : Int))), some (.int j), some (.ref l), u8, u9] ∧ Fr [l] H7 H8 ∧ ∃ xs2 ds2, H8 l = some (.lst xs2) ∧ mapO (dat (RP.hm (l :: [p, tx, hx, m, mg', mk, ol]) H8) 7) xs2 = some ds2 ∧ (∀ d ∈ ds2, Shp 7 d)) (fun N_k h_k => ?_) ?_
        · have d7 : mapO (dat (RP.hm (l :: [p, tx, hx, m, mg', mk, ol]) H7) 7) xs = some ds := mapO_same (dat_same (hm_fr (.of s7)) 7) _ _ d6
          have tst : (if (0 + (i : Int)) % 2 = 0 then xs.length < sizeLine ∧ N_k [some (.ref p), some (.ref m), some (.ref ol), some (.int way), some (.ref du), some (.int (0 + (i : Int))), some (.int j), some (.ref l), u8, u9] (upd H7 l (.lst (xs ++ [V.str "more"]))) else N_k [some (.ref p), some (.ref m), some (.ref ol), some (.int way), some (.ref du), some (.int (0 + (i : Int))), some (.int j), some (.ref l), u8, u9] H7) := by
            split
            · refine ⟨Nat.lt_of_le_of_lt xl (by decide), h_k _ _ ⟨rfl, (Fr.refl _ _).upd (by simp), xs ++ [V.str "more"], ds ++ [.str "more"], upd_same, ?_, ?_⟩⟩
              · have f : Fr (l :: [p, tx, hx, m, mg', mk, ol]) H7 (upd H7 l (.lst (xs ++ [V.str "more"]))) := (Fr.refl _ _).upd (by simp)
                refine mapO_append (mapO_same (dat_same (hm_fr f) 7) _ _ d7) ?_
                exact dat_strs _ 7 ["more"]
              · intro d hd
                rcases List.mem_append.mp hd with z | z
                · exact sd d z
                · have e : d = .str "more" := by simpa using z
                  rw [e]
                  exact (shp_s 7).2.2.2 _ (by decide +kernel)
            · exact h_k _ _ ⟨rfl, Fr.refl _ _, xs, ds, a7, d7, sd⟩
          simp only [RDa, RDb, RDv, RDk, RDx, RDe, RDd, RDp, RDq, List.getElem?_cons_zero, List.getElem?_cons_succ, List.set_cons_zero, List.set_cons_succ, List.cons.injEq, List.cons_ne_nil, reduceCtorEq, exists_eq_left', exists_eq_left, exists_and_left, and_assoc, exists_const, true_and, and_true, if_true, if_false, false_and, and_false, exists_false, false_or, or_false, true_implies, false_implies, implies_true, forall_eq, forall_eq', Bool.false_eq_true, if_neg, decide_eq_true_eq, Bool.not_eq_true', decide_eq_false_iff_not, Bool.not_true, Bool.not_false, List.length_cons, List.length_nil, sizeLine_eq, Nat.reduceAdd, Nat.reduceLeDiff, Nat.reduceLT, Int.reduceLT, Int.reduceLE, Int.emod_nonneg, ne_eq, Int.reduceEq, not_false_eq_true, not_true_eq_false, j2, a7]
          rw [sizeLine_eq] at tst
          exact tst
        rintro σ1 H8 ⟨rfl, f8, xs2, ds2, a8, d8, sd2⟩
        have ho8 := f8 _ _ (by simpa using Ne.symm lol) ho7
        simp only [RDa, RDb, RDv, RDk, RDx, RDe, RDd, RDp, RDq, List.getElem?_cons_zero, List.getElem?_cons_succ, List.set_cons_zero, List.set_cons_succ, List.cons.injEq, List.cons_ne_nil, reduceCtorEq, exists_eq_left', exists_eq_left, exists_and_left, and_assoc, exists_const, true_and, and_true, if_true, if_false, false_and, and_false, exists_false, false_or, or_false, true_implies, false_implies, implies_true, forall_eq, forall_eq', Bool.false_eq_true, if_neg, decide_eq_true_eq, Bool.not_eq_true', decide_eq_false_iff_not, Bool.not_true, Bool.not_false, List.length_cons, List.length_nil, sizeLine_eq, Nat.reduceAdd, Nat.reduceLeDiff, Nat.reduceLT, Int.reduceLT, Int.reduceLE, Int.emod_nonneg, ne_eq, Int.reduceEq, not_false_eq_true, not_true_eq_false, j2, ho8]
        refine ⟨xs2, seqO_lst a8, fun b nb q' nq => ?_⟩
        have q8 : q' ≠ b := fun e => by rw [e, upd_same] at nq; cases nq
        rw [upd_ne q8] at nq
        have b_ol : ol ≠ b := fun e => by rw [e, nb] at ho8; cases ho8
        have q_ol : ol ≠ q' := fun e => by rw [e, nq] at ho8; cases ho8
        have b_l : l ≠ b := fun e => by rw [e, nb] at a8; cases a8
        have q_l : l ≠ q' := fun e => by rw [e, nq] at a8; cases a8
        have al5 : ∀ c ∈ [p, tx, hx, m, mg', mk, ol], ∃ o, H8 c = some o := fun c hc => by
          have z : c ≠ l := fun e => lA (by rw [← e]; exact hc)
          cases e : H5 c with
          | none => exact absurd e (nt5 c hc []).2
          | some o => exact ⟨o, f8 _ _ (by simpa using z) (s57 _ _ e)⟩
        have bA : b ∉ [p, tx, hx, m, mg', mk, ol] := fun h => by
          obtain ⟨o, e⟩ := al5 b h
          rw [nb] at e
          cases e
        have qA : q' ∉ [p, tx, hx, m, mg', mk, ol] := fun h => by
          obtain ⟨o, e⟩ := al5 q' h
          rw [nq] at e
          cases e
        refine ⟨os5, by rw [upd_ne q_ol, upd_ne b_ol]; exact ho8, by omega, ⟨_, rfl⟩, ?_, os5 ++ [V.ref q'], upd_same, ?_, by rw [List.length_append, List.length_singleton]; omega⟩
        · have f58 : Fr [ol] H5 H8 := fun c o hc e => f8 _ _ (by
            have z : c ≠ l := fun e2 => by rw [e2, n6] at e; cases e
            simpa using z) (s57 _ _ e)
          exact (((f5.trans f58).new nb).new (by rw [upd_ne q8]; exact nq)).upd (by simp)
        · generalize eH : upd (upd (upd H8 b (.lst xs2)) q' (.tup [.ref l, .ref b])) ol (.lst (os5 ++ [V.ref q'])) = H9
          have f89 : Fr [ol] H8 H9 := by
            rw [← eH]
            exact (((Fr.refl _ _).new nb).new (by rw [upd_ne q8]; exact nq)).upd (by simp)
          have f59 : Fr [p, tx, hx, m, mg', mk, ol] H5 H9 := fun c o hc e => f89 _ _ (by
            have z : c ≠ ol := fun e2 => hc (by rw [e2]; simp)
            simpa using z) (f8 _ _ (by
            have z : c ≠ l := fun e2 => by rw [e2, n6] at e; cases e
            simpa using z) (s57 _ _ e))
          have hl9 : RP.hm [p, tx, hx, m, mg', mk, ol] H9 l = some (.lst xs2) := by
            rw [hm_in lA]
            exact f89 _ _ (by simpa using lol) a8
          have hb9 : RP.hm [p, tx, hx, m, mg', mk, ol] H9 b = some (.lst xs2) := by
            rw [hm_in bA, ← eH, upd_ne (Ne.symm b_ol), upd_ne (Ne.symm q8), upd_same]
          have hq9 : RP.hm [p, tx, hx, m, mg', mk, ol] H9 q' = some (.tup [.ref l, .ref b]) := by
            rw [hm_in qA, ← eH, upd_ne (Ne.symm q_ol), upd_same]
          have sm : Same (RP.hm (l :: [p, tx, hx, m, mg', mk, ol]) H8) (RP.hm [p, tx, hx, m, mg', mk, ol] H9) := fun c o e => by
            unfold RP.hm at e
            split at e
            · cases e
            · rename_i n
              have n2 : c ∉ [p, tx, hx, m, mg', mk, ol] := fun h => n (List.mem_cons_of_mem _ h)
              rw [hm_in n2]
              exact f89 _ _ (by
                have z : c ≠ ol := fun e2 => n2 (by rw [e2]; simp)
                simpa using z) e
          have d9 := mapO_same (dat_same sm 7) _ _ d8
          exact (oo5.fr f59).snoc hq9 (by rw [dat_lst hl9, d9]; rfl) (by rw [dat_lst hb9, d9]; rfl) (shp_list sd2)
      · simp only [RDa, RDb, RDv, RDk, RDx, RDe, RDd, RDp, RDq, List.getElem?_cons_zero, List.getElem?_cons_succ, List.set_cons_zero, List.set_cons_succ, List.cons.injEq, List.cons_ne_nil, reduceCtorEq, exists_eq_left', exists_eq_left, exists_and_left, and_assoc, exists_const, true_and, and_true, if_true, if_false, false_and, and_false, exists_false, false_or, or_false, true_implies, false_implies, implies_true, forall_eq, forall_eq', Bool.false_eq_true, if_neg, decide_eq_true_eq, Bool.not_eq_true', decide_eq_false_iff_not, Bool.not_true, Bool.not_false, List.length_cons, List.length_nil, sizeLine_eq, Nat.reduceAdd, Nat.reduceLeDiff, Nat.reduceLT, Int.reduceLT, Int.reduceLE, Int.emod_nonneg, ne_eq, Int.reduceEq, not_false_eq_true, not_true_eq_false, j2]
        exact ⟨⟨_, rfl⟩, f5.trans (.of s57), os5, ho7, oo5.fr (.of s57), by omega⟩
    simp only [RDa, RDb, RDv, RDk, RDx, RDe, RDd, RDp, RDq, List.getElem?_cons_zero, List.getElem?_cons_succ, List.set_cons_zero, List.set_cons_succ, List.cons.injEq, List.cons_ne_nil, reduceCtorEq, exists_eq_left', exists_eq_left, exists_and_left, and_assoc, exists_const, true_and, and_true, if_true, if_false, false_and, and_false, exists_false, false_or, or_false, true_implies, false_implies, implies_true, forall_eq, forall_eq', Bool.false_eq_true, if_neg, decide_eq_true_eq, Bool.not_eq_true', decide_eq_false_iff_not, Bool.not_true, Bool.not_false, List.length_cons, List.length_nil, sizeLine_eq, Nat.reduceAdd, Nat.reduceLeDiff, Nat.reduceLT, Int.reduceLT, Int.reduceLE, Int.emod_nonneg, ne_eq, Int.reduceEq, not_false_eq_true, not_true_eq_false]
    refine ⟨j, p, tx, hx, room, ring, w', g, hd, rfl, b5.t, hl, ?_, ?_, ?_⟩
    · intro j0 l H6 nl s6 a6
      refine after _ H6 s6 (fun _ => ⟨l, _, g.map PyData.str, rfl, nl, a6, dat_strs _ 7 g, ?_, ?_, ?_, fun e => by omega⟩) (fun e => by omega)
      · intro d hd
        obtain ⟨x, hx, rfl⟩ := List.mem_map.mp hd
        exact shp_str (tg x hx)
      · rw [List.length_map]; omega
      · intro H7 s7
        rw [if_pos j0, dat_lst (s7 _ _ (s6 _ _ b5.m.txt)), dat_strs]
        rfl
    · intro j1 l rs6 H6 nl s6 a6 ar6
      have nt6 : NoTup (l :: [p, tx, hx, m, mg', mk, ol]) H6 := by
        intro c hc xs
        rcases List.mem_cons.mp hc with e | h
        · rw [e, a6]; simp
        · cases e : H5 c with
          | none => exact absurd e (nt5 c h []).2
          | some o =>
            rw [s6 _ _ e]
            exact ⟨fun z => (nt5 c h xs).1 (e.trans z), by simp⟩
      have arh : All2 (PairAt hd (RP.hm (l :: [p, tx, hx, m, mg', mk, ol]) H6)) (srt (hd.map (·.1))) rs6 := ar6.mono fun k y ⟨qq, x, e, hx, hq⟩ => ⟨qq, x, e, hx, nt6.hm hq⟩
      refine after _ H6 s6 (fun _ => ⟨l, _, _, rfl, nl, a6, pairs_dat (n := 6) arh, ?_, ?_, ?_, fun _ => ar6⟩) (fun e => by omega)
      · intro d hd'
        obtain ⟨k, hk, rfl⟩ := List.mem_map.mp hd'
        refine (shp_tuple (n := 0) fun d' h' => ?_).mono (by decide)
        have h2 : d' = .int k ∨ d' = .str ((hget hd k).getD "") := by simpa using h'
        rcases h2 with e | e
        · rw [e]; exact (shp_s 0).2.2.1 _
        · rw [e]
          obtain ⟨x, hx⟩ := hget_in (srt_mem.mp hk)
          rw [hx]
          unfold hget at hx
          obtain ⟨pp, e1, e2⟩ := Option.map_eq_some_iff.mp hx
          refine shp_str (n := 100) ?_
          show TxtOk 100 x
          rw [← e2]
          exact th pp (List.mem_of_find?_eq_some e1)
      · rw [← ar6.length, srt_length, List.length_map]; omega
      · intro H7 s7
        rw [if_neg (by omega), dat_lst (s7 _ _ (s6 _ _ hD5)), pairs_dat (n := 6) (ar5.mono fun k y pa => pa.mono (s6.trans s7))]
        rfl
    · intro j0 j1
      exact after _ H5 (Same.refl _) (fun e => by omega) (fun _ => rfl)
  · rintro σ H5 ⟨⟨u5, u6, u7, u8, u9, rfl⟩, f5, os5, ho5, oo5, l5⟩
    refine h_c _ _ ?_
    clear h_c
    simp only [RDa, RDb, RDv, RDk, RDx, RDe, RDd, RDp, RDq, List.getElem?_cons_zero, List.getElem?_cons_succ, List.set_cons_zero, List.set_cons_succ, List.cons.injEq, List.cons_ne_nil, reduceCtorEq, exists_eq_left', exists_eq_left, exists_and_left, and_assoc, exists_const, true_and, and_true, if_true, if_false, false_and, and_false, exists_false, false_or, or_false, true_implies, false_implies, implies_true, forall_eq, forall_eq', Bool.false_eq_true, if_neg, decide_eq_true_eq, Bool.not_eq_true', decide_eq_false_iff_not, Bool.not_true, Bool.not_false, List.length_cons, List.length_nil, sizeLine_eq, Nat.reduceAdd, Nat.reduceLeDiff, Nat.reduceLT, Int.reduceLT, Int.reduceLE, Int.emod_nonneg, ne_eq, Int.reduceEq, not_false_eq_true, not_true_eq_false]
    exact q H5 os5 ((Fr.of (s13.trans s_H4)).trans f5) ho5 oo5 l5
end RP

namespace RP
open PySem PySem.Spec PyProof.Rows L2
theorem hget_mem {hd : List (Int × Str)} {k : Int} {x : Str} (h : hget hd k = some x) : ∃ p ∈ hd, p.2 = x := by
  unfold hget at h
  obtain ⟨p, e, rfl⟩ := Option.map_eq_some_iff.mp h
  exact ⟨p, List.mem_of_find?_eq_some e, rfl⟩
theorem drain_inv (P : Str → Prop) : ∀ (f : Nat) (w : Int) (g : List Str) (h : List (Int × Str)) (w2 : Int) (g2 : List Str) (h2 : List (Int × Str)), drain f w g h = (w2, g2, h2) → (∀ x ∈ g, P x) → (∀ y ∈ h, P y.2) →
    w2 - w = (g2.length : Int) - g.length ∧ g2.length + h2.length ≤ g.length + h.length ∧ g.length ≤ g2.length ∧ (∀ x ∈ g2, P x) ∧ (∀ y ∈ h2, P y.2)
  | 0, w, g, h, w2, g2, h2, e, pg, ph => by
    unfold drain at e
    cases e
    exact ⟨by omega, by omega, by omega, pg, ph⟩
  | f + 1, w, g, h, w2, g2, h2, e, pg, ph => by
    unfold drain at e
    cases hg : hget h w with
    | none =>
      rw [hg] at e
      cases e
      exact ⟨by omega, by omega, by omega, pg, ph⟩
    | some x =>
      rw [hg] at e
      have l := hdrop_lt hg
      obtain ⟨p, hp, rfl⟩ := hget_mem hg
      obtain ⟨a1, a2, a3, a4, a5⟩ := drain_inv P f _ _ _ _ _ _ e (fun z hz => by
        rcases List.mem_append.mp hz with q | q
        · exact pg z q
        · rw [List.mem_singleton.mp q]; exact ph p hp) (fun y hy => ph y (List.mem_filter.mp hy).1)
      rw [List.length_append, List.length_singleton] at a1 a2 a3
      exact ⟨by omega, by omega, by omega, a4, a5⟩
theorem came_inv (P : Str → Prop) {room ring w n : Int} {g : List Str} {hd : List (Int × Str)} {x : Str} {w2 : Int} {g2 : List Str} {h2 : List (Int × Str)} (e : tkCame room ring w g hd n x = (w2, g2, h2)) (pg : ∀ x ∈ g, P x) (ph : ∀ y ∈ hd, P y.2) (px : P x) :
    w2 - w = (g2.length : Int) - g.length ∧ g2.length + h2.length ≤ g.length + hd.length + 1 ∧ g.length ≤ g2.length ∧ (∀ x ∈ g2, P x) ∧ (∀ y ∈ h2, P y.2) := by
  have l := tkPut_le room ring w hd n x
  obtain ⟨a1, a2, a3, a4, a5⟩ := drain_inv P _ _ _ _ _ _ _ e pg (fun y hy => by
    unfold tkPut at hy
    split at hy
    · rcases List.mem_append.mp hy with q | q
      · exact ph y q
      · rw [List.mem_singleton.mp q]; exact px
    · exact ph y hy)
  exact ⟨a1, by omega, a3, a4, a5⟩
abbrev s_law : Stmt := top 10
abbrev N_law : List Str := ["_law_script", "_law_one", "_law_room", "_law_ring", "_law_texts_here", "_law_m", "_law_taker", "_law_other", "_law_olds", "_law_cell", "_law_number", "_law_text", "_law_found", "_law_old", "_law_due"]
theorem sc_law : FnScope N_law ["_law_script"] (defScope s_law) := ⟨rfl, rfl, rfl, by decide +kernel, rfl, by decide +kernel, by decide +kernel⟩
structure K03 (K : PySem.W.Frag) (H : Hp) (p tx hx m mg mk ol o otx ohx : Addr) (room ring w : Int) (g : List Str) (hd : List (Int × Str)) (os : List V) : Prop where
  bo : Both K H p tx hx m mg mk room ring w g hd
  ot : TkAt K H o otx ohx room ring 0 [] []
  lo : H ol = some (.lst os)
  old : OldOk [p, tx, hx, m, mg, mk, ol] H os
  on : ∀ c ∈ [o, otx, ohx], c ∉ [p, tx, hx, m, mg, mk, ol]
  n1 : hx ≠ m
  n2 : hx ≠ mk
  n3 : tx ≠ mg
  n4 : ol ≠ tx
  n5 : ol ≠ mg
theorem cut_len {xs : List V} {lo hi : Nat} (h : lo ≤ hi) : (cutV xs (some (lo : Int)) (some (hi : Int))).length ≤ hi - lo := by
  unfold cutV
  rw [List.length_take, List.length_drop, HT.sIx_nat, HT.sIx_nat]
  omega
theorem K03.stands {K : PySem.W.Frag} {H : Hp} {p tx hx m mg mk ol o otx ohx : Addr} {room ring w : Int} {g : List Str} {hd : List (Int × Str)} {os : List V} {Q : VK} {E : XK} (k : K03 K H p tx hx m mg mk ol o otx ohx room ring w g hd os) {way : Int} (w0 : 0 ≤ way) (w1 : way < 4) (hl : hd.length < 64) (gl : g.length < 1000) (ol1 : os.length < 100000)
    (tg : ∀ x ∈ g, TxtOk 100 x) (th : ∀ y ∈ hd, TxtOk 100 y.2) (hq : ∀ H' os', Fr [p, tx, hx, m, mg, mk, ol] H H' → K03 K H' p tx hx m mg mk ol o otx ohx room ring w g hd os' → os'.length ≤ os.length + 6 → Q (.bl true) H') : sp__law_stands K [.ref p, .ref m, .ref ol, .int way] H Q E := by
  refine ⟨way, p, tx, hx, m, mg, mk, ol, room, ring, w, g, hd, os, rfl, k.bo, hl, gl, w0, w1, k.lo, k.old, ol1, tg, th, k.n4, k.n5, fun H' os' f lo old l => ?_⟩
  have np : ∀ c ∈ [p, tx, hx, m, mg, mk], c ∉ [ol] := by
    obtain ⟨dx, e1⟩ := k.bo.t.ins
    intro c hc
    have z : c ≠ ol := by
      simp only [List.mem_cons, List.not_mem_nil, or_false] at hc
      rcases hc with rfl | rfl | rfl | rfl | rfl | rfl
      · exact ne_of_obj e1 k.lo (by simp)
      · exact Ne.symm k.n4
      · exact ne_of_obj k.bo.t.hel k.lo (by simp)
      · exact ne_of_obj k.bo.m.dic k.lo (by simp)
      · exact Ne.symm k.n5
      · exact ne_of_obj k.bo.m.hel k.lo (by simp)
    simpa using z
  have no : ∀ c ∈ [o, otx, ohx], c ∉ [ol] := fun c hc hd => k.on c hc (by rw [List.mem_singleton.mp hd]; simp)
  exact hq H' os' (f.mono (by simp)) ⟨⟨k.bo.t.fr f (np _ (by simp)) (np _ (by simp)) (np _ (by simp)), k.bo.m.fr f (np _ (by simp)) (np _ (by simp)) (np _ (by simp))⟩, k.ot.fr f (no _ (by simp)) (no _ (by simp)) (no _ (by simp)), lo, old, k.on, k.n1, k.n2, k.n3, k.n4, k.n5⟩ l
/-- a letter comes, on both sides -/
theorem K03.came {K : PySem.W.Frag} {H H1 H2 : Hp} {p tx hx m mg mk ol o otx ohx : Addr} {room ring w w2 : Int} {g g2 : List Str} {hd h2 : List (Int × Str)} {os : List V} (k : K03 K H p tx hx m mg mk ol o otx ohx room ring w g hd os) (f1 : Fr [p, tx, hx] H H1) (t1 : TkAt K H1 p tx hx room ring w2 g2 h2)
    (f2 : Fr [m, mg, mk] H1 H2) (m2 : M3 H2 m mg mk room ring w2 g2 h2) : Fr [p, tx, hx, m, mg, mk, ol] H H2 ∧ K03 K H2 p tx hx m mg mk ol o otx ohx room ring w2 g2 h2 os := by
  have fa : Fr [p, tx, hx, m, mg, mk, ol] H H2 := (f1.mono (by simp)).trans (f2.mono (by simp))
  obtain ⟨dx, e1⟩ := t1.ins
  obtain ⟨dx0, e0⟩ := k.bo.t.ins
  have lo1 : H1 ol = some (.lst os) := f1 _ _ (by
    have a := ne_of_obj k.lo e0 (by simp)
    have b := ne_of_obj k.lo k.bo.t.hel (by simp)
    simp [a, b, k.n4]) k.lo
  have lo2 : H2 ol = some (.lst os) := f2 _ _ (by
    have md := f1 _ _ (by
      have a := ne_of_obj k.bo.m.dic e0 (by simp)
      have b := ne_of_obj k.bo.m.dic k.bo.t.txt (by simp)
      simp [a, b, Ne.symm k.n1]) k.bo.m.dic
    have kd := f1 _ _ (by
      have a := ne_of_obj k.bo.m.hel e0 (by simp)
      have b := ne_of_obj k.bo.m.hel k.bo.t.txt (by simp)
      simp [a, b, Ne.symm k.n2]) k.bo.m.hel
    have a := ne_of_obj lo1 md (by simp)
    have b := ne_of_obj lo1 kd (by simp)
    simp [a, b, k.n5]) lo1
  have no : ∀ c ∈ [o, otx, ohx], c ∉ [p, tx, hx, m, mg, mk, ol] := k.on
  refine ⟨fa, ⟨⟨t1.fr f2 ?_ ?_ ?_, m2⟩, k.ot.fr fa (no _ (by simp)) (no _ (by simp)) (no _ (by simp)), lo2, k.old.fr fa, k.on, k.n1, k.n2, k.n3, k.n4, k.n5⟩⟩
  · have a := ne_of_obj e0 k.bo.m.dic (by simp)
    have b := ne_of_obj e0 k.bo.m.txt (by simp)
    have c := ne_of_obj e0 k.bo.m.hel (by simp)
    simp [a, b, c]
  · have a := ne_of_obj k.bo.t.txt k.bo.m.dic (by simp)
    have c := ne_of_obj k.bo.t.txt k.bo.m.hel (by simp)
    simp [a, k.n3, c]
  · have b := ne_of_obj k.bo.t.hel k.bo.m.txt (by simp)
    simp [k.n1, b, k.n2]
def sp_law (K : PySem.W.Frag) : Sp := fun vs H Q E => ∃ (a : Addr) (ns : List Int), vs = [.ref a] ∧ SqL K H a (ns.map V.int) ∧ ∀ H', Q (.bl true) H'
theorem ok_law {P : Program} {w : World} {K : PySem.W.Frag} {mg : Str → Option Value} {base : Heap} {f0 : Addr} {fd : FuncData} (F : FunD K "law" "law" (defArgs s_law) (defBody s_law) (defScope s_law) [] [] f0 fd) (bl : Blt mg) (hTaker : TakerF K) (m_Taker_came : MCal P w K mg base 1 (He.ga K "Taker") "came" (sp_Taker_came K)) (m_Taker_gone : MCal P w K mg base 1 (He.ga K "Taker") "gone" (sp_Taker_gone K)) (c_Taker : KCal P w K mg base 1 "Taker" (He.ga K "Taker") (sp_Taker_init K)) (m_Taker_kept : MCal P w K mg base 1 (He.ga K "Taker") "kept" (sp_Taker_kept K)) (m_Taker_want : MCal P w K mg base 1 (He.ga K "Taker") "want" (sp_Taker_want K)) (c__law_at : ∀ (a : Addr) (ns : List Int), Cal P w K mg base 1 "_law_at" (sp__law_at K a ns)) (c__law_came : Cal P w K mg base 1 "_law_came" (sp__law_came K)) (c__law_mixed : Cal P w K mg base 1 "_law_mixed" (sp__law_mixed K)) (c__law_stands : Cal P w K mg base 3 "_law_stands" (sp__law_stands K)) (c__law_texts : Cal P w K mg base 2 "_law_texts" (sp__law_texts K)) (c__law_whole : Cal P w K mg base 1 "_law_whole" (sp__law_whole K)) : FnOk P w K mg base (L2N.CX P w) 4 f0 fd ["_law_script"] (sp_law K) := by
  refine fn_law F sc_law (fun vs H Q E => by walk_at "len") (fun f cdv A outer s H vs Q E hr h => ?_)
  have hu := hu_of hr
  obtain ⟨a, ns, rfl, hS, q⟩ := h
  have L := m3L
  refine ⟨_, (pss_cons (ps_set (i := 1) sc_law.nd rfl (Or.inl rfl) (pe_fn c__law_mixed (hr.mono (by decide)) (L2N.takes_of rfl rfl rfl rfl) (pa_cons (pe_fn (c__law_at a ns) (hr.mono (by decide)) (L2N.takes_of rfl rfl rfl rfl) (pa_cons (pv 0) (pa_cons pe_int pa_nil))) (pa_cons pe_int pa_nil))))
  (pss_cons (ps_set (i := 2) sc_law.nd rfl (Or.inl rfl) (pe_op op_add pe_int (pe_op op_mod (pv 1) (pe_pick (pa_cons pe_int (pa_cons pe_int pa_nil)) (pe_op op_mod (pe_op op_fdiv (pv 1) pe_int) pe_int) (fun _ _ => rfl)))))
  (pss_cons (ps_set (i := 3) sc_law.nd rfl (Or.inl rfl) (pe_op op_add pe_int (pe_op op_mod (pe_fn c__law_mixed (hr.mono (by decide)) (L2N.takes_of rfl rfl rfl rfl) (pa_cons (pe_fn (c__law_at a ns) (hr.mono (by decide)) (L2N.takes_of rfl rfl rfl rfl) (pa_cons (pv 0) (pa_cons pe_int pa_nil))) (pa_cons pe_int pa_nil))) (pe_pick (pa_cons (pe_op op_add (pv 2) pe_int) (pa_cons pe_int pa_nil)) (pe_op op_mod (pe_op op_fdiv (pv 1) pe_int) pe_int) (fun _ _ => rfl)))))
  (pss_cons (ps_set (i := 4) sc_law.nd rfl (Or.inl rfl) (pe_fn c__law_texts (hr.mono (by decide)) (L2N.takes_of rfl rfl rfl rfl) (pa_cons (pe_fn (c__law_at a ns) (hr.mono (by decide)) (L2N.takes_of rfl rfl rfl rfl) (pa_cons (pv 0) (pa_cons pe_int pa_nil))) (pa_cons pe_int (pa_cons (pe_op op_add pe_int (pe_op op_mod (pe_op op_fdiv (pv 1) pe_int) pe_int)) pa_nil)))))
  (pss_cons (ps_set (i := 5) sc_law.nd rfl (Or.inl rfl) (pe_disp (pps_cons pe_str (pv 2) (pps_cons pe_str (pv 3) (pps_cons pe_str pe_int (pps_cons pe_str (pe_lst pa_nil) (pps_cons pe_str pe_dnewK pps_nil))))) (by rfl) (by rfl) (fun z => by cases z) (by decide)))
  (pss_cons (ps_set (i := 6) sc_law.nd rfl (Or.inl rfl) (pe_mk c_Taker (hr.mono (by decide)) (L2N.takes_of rfl rfl rfl rfl) (pa_cons (pv 2) (pa_cons (pv 3) pa_nil))))
  (pss_cons (ps_set (i := 7) sc_law.nd rfl (Or.inl rfl) (pe_mk c_Taker (hr.mono (by decide)) (L2N.takes_of rfl rfl rfl rfl) (pa_cons (pv 2) (pa_cons (pv 3) pa_nil))))
  (pss_cons (ps_set (i := 8) sc_law.nd rfl (Or.inl rfl) (pe_lst pa_nil))
  (pss_cons (ps_if (pt_not (pt_val (pe_fn c__law_stands (hr.mono (by decide)) (L2N.takes_of rfl rfl rfl rfl) (pa_cons (pv 6) (pa_cons (pv 5) (pa_cons (pv 8) (pa_cons pe_int pa_nil)))))))
  (pss_one (ps_ret pe_bl))
  pss_nil)
  (pss_cons (ps_for (passes_of rfl) rfl (pi_list (pe_slice sl_list (pv 0) (po_some pe_int) (po_some pe_int))) (pg_name (i := 9) sc_law.nd rfl (Or.inl rfl))
  (pss_cons (ps_set (i := 10) sc_law.nd rfl (Or.inl rfl) (pe_op op_mod (pe_op op_sub (pe_op op_add (pe_getD (by exact hu) (pv 5) pe_str (fun _ _ => rfl)) (pe_op op_mod (pe_op op_fdiv (pv 9) pe_int) (pe_op op_add (pv 2) pe_int))) (pe_callTy call_int1 (by rfl) (bl.int) (by decide +kernel) (pa_cons (pe_cmpR op_eq (pe_op op_mod (pv 9) pe_int) pe_int (nomark _)) pa_nil))) (pv 3)))
  (pss_cons (ps_if (pt_cmpR op_gt (pe_op op_mod (pv 9) pe_int) pe_int (nomark _))
  (pss_one (ps_set (i := 10) sc_law.nd rfl (Or.inl rfl) (pe_pick (pa_cons (pe_op op_mod (pe_getD (by exact hu) (pv 5) pe_str (fun _ _ => rfl)) (pv 3)) (pa_cons (pe_op op_mod (pe_op op_fdiv (pv 9) pe_int) (pv 3)) pa_nil)) (pe_op op_sub (pe_op op_mod (pv 9) pe_int) pe_int) (fun _ _ => rfl))))
  pss_nil)
  (pss_cons (ps_set (i := 11) sc_law.nd rfl (Or.inl rfl) (pe_ix ix_C (pv 4) (pe_op op_mod (pe_op op_fdiv (pv 9) pe_int) pe_int) (fun _ _ => rfl)))
  (pss_cons (ps_set (i := 12) sc_law.nd rfl (Or.inl rfl) (pe_mth (pv 6) m_Taker_came (hr.mono (by decide)) (L2N.takes_of rfl rfl rfl rfl) (pa_cons (pv 10) (pa_cons (pv 11) pa_nil))))
  (pss_cons (ps_expr (pe_fn c__law_came (hr.mono (by decide)) (L2N.takes_of rfl rfl rfl rfl) (pa_cons (pv 5) (pa_cons (pv 10) (pa_cons (pv 11) pa_nil)))))
  (pss_one (ps_if (PW.pt (pw_or (pt_not (pt_val (pe_fn c__law_whole (hr.mono (by decide)) (L2N.takes_of rfl rfl rfl rfl) (pa_cons (pv 12) pa_nil)))) (pw_or (pt_cmpR op_ne (pv 12) (pe_op op_mod (pe_getD (by exact hu) (pv 5) pe_str (fun _ _ => rfl)) (pv 3)) (nomark _)) (pw_or1 (pt_not (pt_val (pe_fn c__law_stands (hr.mono (by decide)) (L2N.takes_of rfl rfl rfl rfl) (pa_cons (pv 6) (pa_cons (pv 5) (pa_cons (pv 8) (pa_cons (pe_op op_mod (pe_op op_fdiv (pv 9) pe_int) pe_int) pa_nil)))))))))))
  (pss_one (ps_ret pe_bl))
  pss_nil))))))))
  (pss_cons (ps_if (pt_not (pt_val (pe_fn c__law_stands (hr.mono (by decide)) (L2N.takes_of rfl rfl rfl rfl) (pa_cons (pv 6) (pa_cons (pv 5) (pa_cons (pv 8) (pa_cons pe_int pa_nil)))))))
  (pss_one (ps_ret pe_bl))
  pss_nil)
  (pss_cons (ps_for (passes_of rfl) rfl (pi_list (pv 8)) (pg_tupC (n := 2) rfl (pgs_cons (pg_name (i := 13) sc_law.nd rfl (Or.inl rfl)) (pgs_cons (pg_name (i := 14) sc_law.nd rfl (Or.inl rfl)) pgs_nil)))
  (pss_one (ps_if (pt_cmpR (op_neC hr.units) (pv 13) (pv 14) (nomark _))
  (pss_one (ps_ret pe_bl))
  pss_nil)))
  (pss_one (ps_ret (pe_and (pe_cmpR (op_eqC hr.units) (pe_mth0 (pv 7) m_Taker_gone (hr.mono (by decide)) (L2N.takes_of rfl rfl rfl rfl)) (pe_lst pa_nil) (nomark _)) (pe_and (pe_cmpR (op_eqC hr.units) (pe_mth0 (pv 7) m_Taker_kept (hr.mono (by decide)) (L2N.takes_of rfl rfl rfl rfl)) (pe_lst pa_nil) (nomark _)) (pe_one (pe_cmpR op_eq (pe_mth0 (pv 7) m_Taker_want (hr.mono (by decide)) (L2N.takes_of rfl rfl rfl rfl)) pe_int (nomark _))))))))))))))))))), ?_⟩
  walk_at "st0"
  refine seq_gen fun N_a h_a => ?_
  simp only [RDa, RDb, RDv, RDk, RDx, RDe, RDd, RDp, RDq, List.getElem?_cons_zero, List.getElem?_cons_succ, List.set_cons_zero, List.set_cons_succ, List.cons.injEq, List.cons_ne_nil, reduceCtorEq, exists_eq_left', exists_eq_left, exists_and_left, and_assoc, exists_const, true_and, and_true, if_true, if_false, false_and, and_false, exists_false, false_or, or_false, true_implies, false_implies, implies_true, forall_eq, forall_eq', Bool.false_eq_true, if_neg, decide_eq_true_eq, Bool.not_eq_true', decide_eq_false_iff_not, Bool.not_true, Bool.not_false, List.length_cons, List.length_nil, sizeLine_eq, Nat.reduceAdd, Nat.reduceLeDiff, Nat.reduceLT, Int.reduceLT, Int.reduceLE, Int.emod_nonneg, ne_eq, Int.reduceEq, not_false_eq_true, not_true_eq_false, hS, sp__law_at, sp__law_mixed]
  refine h_a _ _ ?_
  clear h_a
  generalize eo : mixed (cell ns 0) 0 = one
  have ho : 0 ≤ one := by rw [← eo]; exact mixed_pos _ _
  refine seq_gen fun N_b h_b => ?_
  simp only [RDa, RDb, RDv, RDk, RDx, RDe, RDd, RDp, RDq, List.getElem?_cons_zero, List.getElem?_cons_succ, List.set_cons_zero, List.set_cons_succ, List.cons.injEq, List.cons_ne_nil, reduceCtorEq, exists_eq_left', exists_eq_left, exists_and_left, and_assoc, exists_const, true_and, and_true, if_true, if_false, false_and, and_false, exists_false, false_or, or_false, true_implies, false_implies, implies_true, forall_eq, forall_eq', Bool.false_eq_true, if_neg, decide_eq_true_eq, Bool.not_eq_true', decide_eq_false_iff_not, Bool.not_true, Bool.not_false, List.length_cons, List.length_nil, sizeLine_eq, Nat.reduceAdd, Nat.reduceLeDiff, Nat.reduceLT, Int.reduceLT, Int.reduceLE, Int.emod_nonneg, ne_eq, Int.reduceEq, not_false_eq_true, not_true_eq_false]
  refine ⟨_, pickI2 (by omega) (by omega), _, rfl, by split <;> omega, h_b _ _ ?_⟩
  clear h_b
  generalize er : 1 + one % (if one / 20 % 2 = 0 then 3 else 20) = room
  have hr1 : 1 ≤ room ∧ room ≤ 20 := by split at er <;> omega
  refine seq_gen fun N_c h_c => ?_
  simp only [RDa, RDb, RDv, RDk, RDx, RDe, RDd, RDp, RDq, List.getElem?_cons_zero, List.getElem?_cons_succ, List.set_cons_zero, List.set_cons_succ, List.cons.injEq, List.cons_ne_nil, reduceCtorEq, exists_eq_left', exists_eq_left, exists_and_left, and_assoc, exists_const, true_and, and_true, if_true, if_false, false_and, and_false, exists_false, false_or, or_false, true_implies, false_implies, implies_true, forall_eq, forall_eq', Bool.false_eq_true, if_neg, decide_eq_true_eq, Bool.not_eq_true', decide_eq_false_iff_not, Bool.not_true, Bool.not_false, List.length_cons, List.length_nil, sizeLine_eq, Nat.reduceAdd, Nat.reduceLeDiff, Nat.reduceLT, Int.reduceLT, Int.reduceLE, Int.emod_nonneg, ne_eq, Int.reduceEq, not_false_eq_true, not_true_eq_false, hS, sp__law_at, sp__law_mixed]
  refine ⟨_, pickI2 (by omega) (by omega), _, rfl, by split <;> omega, h_c _ _ ?_⟩
  clear h_c
  generalize er2 : 1 + mixed (cell ns 1) 1 % (if one / 40 % 2 = 0 then room + 4 else 45) = ring
  have hr2 : 1 ≤ ring ∧ ring ≤ 45 := by
    have z1 := md_rng (n := room + 4) (mixed (cell ns 1) 1) (by omega)
    split at er2 <;> omega
  refine seq_gen fun N_d h_d => ?_
  simp only [RDa, RDb, RDv, RDk, RDx, RDe, RDd, RDp, RDq, List.getElem?_cons_zero, List.getElem?_cons_succ, List.set_cons_zero, List.set_cons_succ, List.cons.injEq, List.cons_ne_nil, reduceCtorEq, exists_eq_left', exists_eq_left, exists_and_left, and_assoc, exists_const, true_and, and_true, if_true, if_false, false_and, and_false, exists_false, false_or, or_false, true_implies, false_implies, implies_true, forall_eq, forall_eq', Bool.false_eq_true, if_neg, decide_eq_true_eq, Bool.not_eq_true', decide_eq_false_iff_not, Bool.not_true, Bool.not_false, List.length_cons, List.length_nil, sizeLine_eq, Nat.reduceAdd, Nat.reduceLeDiff, Nat.reduceLT, Int.reduceLT, Int.reduceLE, Int.emod_nonneg, ne_eq, Int.reduceEq, not_false_eq_true, not_true_eq_false, hS, sp__law_at, sp__law_texts]
  refine ⟨by omega, by omega, fun tl H1 nl s1 a1 => h_d _ _ ?_⟩
  clear h_d
  have hts : (lawTexts (mixed (cell ns 2) 5) (3 + one / 80 % 9) (Int.toNat 12)).length = 12 := by
    unfold lawTexts
    rw [List.length_map, List.length_range]
    rfl
  have htx : ∀ t ∈ lawTexts (mixed (cell ns 2) 5) (3 + one / 80 % 9) (Int.toNat 12), TxtOk 100 t := fun t ht => by
    obtain ⟨k, _, rfl⟩ := List.mem_map.mp ht
    exact (lawTxt_ok (by omega) (by omega) k).mono (by decide)
  generalize lawTexts (mixed (cell ns 2) 5) (3 + one / 80 % 9) (Int.toNat 12) = ts at a1 hts htx
  refine seq_gen fun N_e h_e => ?_
  simp only [RDa, RDb, RDv, RDk, RDx, RDe, RDd, RDp, RDq, List.getElem?_cons_zero, List.getElem?_cons_succ, List.set_cons_zero, List.set_cons_succ, List.cons.injEq, List.cons_ne_nil, reduceCtorEq, exists_eq_left', exists_eq_left, exists_and_left, and_assoc, exists_const, true_and, and_true, if_true, if_false, false_and, and_false, exists_false, false_or, or_false, true_implies, false_implies, implies_true, forall_eq, forall_eq', Bool.false_eq_true, if_neg, decide_eq_true_eq, Bool.not_eq_true', decide_eq_false_iff_not, Bool.not_true, Bool.not_false, List.length_cons, List.length_nil, sizeLine_eq, Nat.reduceAdd, Nat.reduceLeDiff, Nat.reduceLT, Int.reduceLT, Int.reduceLE, Int.emod_nonneg, ne_eq, Int.reduceEq, not_false_eq_true, not_true_eq_false]
  intro m n_m
  generalize e_H2 : upd H1 m (.dK []) = H2
  have a_H2 : H2 m = some (.dK []) := by rw [← e_H2]; exact upd_same
  have s_H2 : Same H1 H2 := by rw [← e_H2]; exact same_new n_m
  intro mgo n_mgo
  generalize e_H3 : upd H2 mgo (.lst []) = H3
  have a_H3 : H3 mgo = some (.lst []) := by rw [← e_H3]; exact upd_same
  have s_H3 : Same H2 H3 := by rw [← e_H3]; exact same_new n_mgo
  intro mk n_mk
  generalize e_H4 : upd H3 mk (.dK []) = H4
  have a_H4 : H4 mk = some (.dK []) := by rw [← e_H4]; exact upd_same
  have s_H4 : Same H3 H4 := by rw [← e_H4]; exact same_new n_mk
  have hm4 := s_H4 _ _ (s_H3 _ _ a_H2)
  refine ⟨hm4, m3 room ring 0 mgo mk, rfl, (by show (5 : Nat) ≤ 15; decide), h_e _ _ ?_⟩
  clear h_e
  have em : mergeK [] (m3 room ring 0 mgo mk) = m3 room ring 0 mgo mk := by rfl
  rw [em]
  have d1 : m ≠ mgo := ne_of_none a_H2 n_mgo
  have d2 : m ≠ mk := ne_of_none (s_H3 _ _ a_H2) n_mk
  have d3 : mgo ≠ mk := ne_of_none a_H3 n_mk
  have s5 : Same H1 (upd H4 m (.dK (m3 room ring 0 mgo mk))) := fun c o e => by
    rw [upd_ne (ne_of_none e n_m)]
    exact s_H4 _ _ (s_H3 _ _ (s_H2 _ _ e))
  have m5 : M3 (upd H4 m (.dK (m3 room ring 0 mgo mk))) m mgo mk room ring 0 [] [] := ⟨upd_same, by rw [upd_ne (Ne.symm d1)]; exact s_H4 _ _ a_H3, by rw [upd_ne (Ne.symm d2)]; exact a_H4⟩
  generalize upd H4 m (.dK (m3 room ring 0 mgo mk)) = H5 at s5 m5
  clear hm4 em
  refine seq_gen fun N_f h_f => ?_
  simp only [RDa, RDb, RDv, RDk, RDx, RDe, RDd, RDp, RDq, List.getElem?_cons_zero, List.getElem?_cons_succ, List.set_cons_zero, List.set_cons_succ, List.cons.injEq, List.cons_ne_nil, reduceCtorEq, exists_eq_left', exists_eq_left, exists_and_left, and_assoc, exists_const, true_and, and_true, if_true, if_false, false_and, and_false, exists_false, false_or, or_false, true_implies, false_implies, implies_true, forall_eq, forall_eq', Bool.false_eq_true, if_neg, decide_eq_true_eq, Bool.not_eq_true', decide_eq_false_iff_not, Bool.not_true, Bool.not_false, List.length_cons, List.length_nil, sizeLine_eq, Nat.reduceAdd, Nat.reduceLeDiff, Nat.reduceLT, Int.reduceLT, Int.reduceLE, Int.emod_nonneg, ne_eq, Int.reduceEq, not_false_eq_true, not_true_eq_false]
  refine mk_Taker (Q := fun v H => N_f [some (.ref a), some (.int one), some (.int room), some (.int ring), some (.ref tl), some (.ref m), some v, none, none, none, none, none, none, none, none] H) fun p tx hx H6 np ntx nhx s6 t6 => h_f _ _ ?_
  clear h_f
  refine seq_gen fun N_g h_g => ?_
  simp only [RDa, RDb, RDv, RDk, RDx, RDe, RDd, RDp, RDq, List.getElem?_cons_zero, List.getElem?_cons_succ, List.set_cons_zero, List.set_cons_succ, List.cons.injEq, List.cons_ne_nil, reduceCtorEq, exists_eq_left', exists_eq_left, exists_and_left, and_assoc, exists_const, true_and, and_true, if_true, if_false, false_and, and_false, exists_false, false_or, or_false, true_implies, false_implies, implies_true, forall_eq, forall_eq', Bool.false_eq_true, if_neg, decide_eq_true_eq, Bool.not_eq_true', decide_eq_false_iff_not, Bool.not_true, Bool.not_false, List.length_cons, List.length_nil, sizeLine_eq, Nat.reduceAdd, Nat.reduceLeDiff, Nat.reduceLT, Int.reduceLT, Int.reduceLE, Int.emod_nonneg, ne_eq, Int.reduceEq, not_false_eq_true, not_true_eq_false]
  refine mk_Taker (Q := fun v H => N_g [some (.ref a), some (.int one), some (.int room), some (.int ring), some (.ref tl), some (.ref m), some (.ref p), some v, none, none, none, none, none, none, none] H) fun o otx ohx H7 no notx nohx s7 o7 => h_g _ _ ?_
  clear h_g
  refine seq_gen fun N_h h_h => ?_
  simp only [RDa, RDb, RDv, RDk, RDx, RDe, RDd, RDp, RDq, List.getElem?_cons_zero, List.getElem?_cons_succ, List.set_cons_zero, List.set_cons_succ, List.cons.injEq, List.cons_ne_nil, reduceCtorEq, exists_eq_left', exists_eq_left, exists_and_left, and_assoc, exists_const, true_and, and_true, if_true, if_false, false_and, and_false, exists_false, false_or, or_false, true_implies, false_implies, implies_true, forall_eq, forall_eq', Bool.false_eq_true, if_neg, decide_eq_true_eq, Bool.not_eq_true', decide_eq_false_iff_not, Bool.not_true, Bool.not_false, List.length_cons, List.length_nil, sizeLine_eq, Nat.reduceAdd, Nat.reduceLeDiff, Nat.reduceLT, Int.reduceLT, Int.reduceLE, Int.emod_nonneg, ne_eq, Int.reduceEq, not_false_eq_true, not_true_eq_false]
  intro ol n_ol
  generalize e_H8 : upd H7 ol (.lst []) = H8
  have a_H8 : H8 ol = some (.lst []) := by rw [← e_H8]; exact upd_same
  have s_H8 : Same H7 H8 := by rw [← e_H8]; exact same_new n_ol
  refine h_h _ _ ?_
  clear h_h
  have t8 := (t6.same s7).same s_H8
  have m8 := ((m5.same s6).same s7).same s_H8
  have o8 := o7.same s_H8
  have k8 : K03 K H8 p tx hx m mgo mk ol o otx ohx room ring 0 [] [] [] := by
    have z6 : ∀ c ∈ [m, mgo, mk], H5 c ≠ none := by
      intro c hc
      simp only [List.mem_cons, List.not_mem_nil, or_false] at hc
      rcases hc with rfl | rfl | rfl
      · rw [m5.dic]; simp
      · rw [m5.txt]; simp
      · rw [m5.hel]; simp
    have z7 : ∀ c ∈ [p, tx, hx, m, mgo, mk], H6 c ≠ none := by
      obtain ⟨dx, e1⟩ := t6.ins
      intro c hc
      simp only [List.mem_cons, List.not_mem_nil, or_false] at hc
      rcases hc with rfl | rfl | rfl | rfl | rfl | rfl
      · rw [e1]; simp
      · rw [t6.txt]; simp
      · rw [t6.hel]; simp
      · rw [s6 _ _ m5.dic]; simp
      · rw [s6 _ _ m5.txt]; simp
      · rw [s6 _ _ m5.hel]; simp
    refine ⟨⟨t8, m8⟩, o8, a_H8, fun _ h => (by cases h), ?_, fun e => ?_, fun e => ?_, fun e => ?_, fun e => ?_, fun e => ?_⟩
    · intro c hc hd
      have nc : H6 c = none := by
        simp only [List.mem_cons, List.not_mem_nil, or_false] at hc
        rcases hc with rfl | rfl | rfl
        · exact no
        · exact notx
        · exact nohx
      have n8 : H7 c ≠ none := by
        obtain ⟨dx, e1⟩ := o7.ins
        simp only [List.mem_cons, List.not_mem_nil, or_false] at hc
        rcases hc with rfl | rfl | rfl
        · rw [e1]; simp
        · rw [o7.txt]; simp
        · rw [o7.hel]; simp
      by_cases e : c = ol
      · rw [e] at n8
        exact n8 n_ol
      · have h2 : c ∈ [p, tx, hx, m, mgo, mk] ++ [ol] := hd
        rcases List.mem_append.mp h2 with z | z
        · exact z7 c z nc
        · exact e (by simpa using z)
    · exact z6 m (by simp) (e ▸ nhx)
    · exact z6 mk (by simp) (e ▸ nhx)
    · exact z6 mgo (by simp) (e ▸ ntx)
    · have := s7 _ _ t6.txt
      rw [← e, n_ol] at this
      cases this
    · have := s7 _ _ (s6 _ _ m5.txt)
      rw [← e, n_ol] at this
      cases this
  have s18 : Same H1 H8 := ((s5.trans s6).trans s7).trans s_H8
  have hS8 : SqL K H8 a (ns.map V.int) := (s1.trans s18).seq hS
  have tl8 := s18 _ _ a1
  have nA : ∀ c o, H1 c = some o → c ∉ [p, tx, hx, m, mgo, mk, ol] := by
    intro c u a1
    have e5 := s5 _ _ a1
    have e6 := s6 _ _ e5
    intro hc
    simp only [List.mem_cons, List.not_mem_nil, or_false] at hc
    rcases hc with e | e | e | e | e | e | e
    · exact ne_of_none e5 np e
    · exact ne_of_none e5 ntx e
    · exact ne_of_none e5 nhx e
    · exact ne_of_none a1 n_m e
    · exact ne_of_none (s_H2 _ _ a1) n_mgo e
    · exact ne_of_none (s_H3 _ _ (s_H2 _ _ a1)) n_mk e
    · exact ne_of_none (s7 _ _ e6) n_ol e
  have ntl := nA _ _ a1
  refine seq_gen fun N_i h_i => ?_
  simp only [RDa, RDb, RDv, RDk, RDx, RDe, RDd, RDp, RDq, List.getElem?_cons_zero, List.getElem?_cons_succ, List.set_cons_zero, List.set_cons_succ, List.cons.injEq, List.cons_ne_nil, reduceCtorEq, exists_eq_left', exists_eq_left, exists_and_left, and_assoc, exists_const, true_and, and_true, if_true, if_false, false_and, and_false, exists_false, false_or, or_false, true_implies, false_implies, implies_true, forall_eq, forall_eq', Bool.false_eq_true, if_neg, decide_eq_true_eq, Bool.not_eq_true', decide_eq_false_iff_not, Bool.not_true, Bool.not_false, List.length_cons, List.length_nil, sizeLine_eq, Nat.reduceAdd, Nat.reduceLeDiff, Nat.reduceLT, Int.reduceLT, Int.reduceLE, Int.emod_nonneg, ne_eq, Int.reduceEq, not_false_eq_true, not_true_eq_false]
  refine k8.stands (by decide) (by decide) (by decide) (by decide) (by decide) (by simp) (by simp) fun H9 os9 f9 k9 l9 => ⟨_, rfl, ?_⟩
  rw [if_neg (by decide)]
  have hS9 : SqL K H9 a (ns.map V.int) := Same.seq (fun c u e => f9 c u (nA c u (s1 _ _ e)) (s18 _ _ (s1 _ _ e))) hS
  refine h_i _ _ ?_
  clear h_i
  refine seq_gen fun N_j h_j => ?_
  have hlen : (cutV (ns.map V.int) (some 3) (some 43)).length ≤ 40 := cut_len (lo := 3) (hi := 43) (by decide)
  refine for_lcut (fun la H4 => Same H9 H4 ∧ H9 la = none ∧ H4 la = some (.lst (cutV (ns.map V.int) (some 3) (some 43)))) (cutV (ns.map V.int) (some 3) (some 43)) (fun Z hZ => ?_)
    (fun la i σ H' => (∃ u9 u10 u11 u12 u13 u14, σ = [some (.ref a), some (.int one), some (.int room), some (.int ring), some (.ref tl), some (.ref m), some (.ref p), some (.ref o), some (.ref ol), u9, u10, u11, u12, u13, u14]) ∧ H9 la = none ∧ H' la = some (.lst (cutV (ns.map V.int) (some 3) (some 43))) ∧
      H' tl = some (.lst (ts.map V.str)) ∧ ∃ g hd os, K03 K H' p tx hx m mgo mk ol o otx ohx room ring (g.length : Int) g hd os ∧ g.length + hd.length ≤ i ∧ os.length ≤ 6 * (i + 1) ∧ (∀ x ∈ g, TxtOk 100 x) ∧ (∀ y ∈ hd, TxtOk 100 y.2)) ?_ ?_ ?_ ?_
  · simp only [RDa, RDb, RDv, RDk, RDx, RDe, RDd, RDp, RDq, List.getElem?_cons_zero, List.getElem?_cons_succ, List.set_cons_zero, List.set_cons_succ, List.cons.injEq, List.cons_ne_nil, reduceCtorEq, exists_eq_left', exists_eq_left, exists_and_left, and_assoc, exists_const, true_and, and_true, if_true, if_false, false_and, and_false, exists_false, false_or, or_false, true_implies, false_implies, implies_true, forall_eq, forall_eq', Bool.false_eq_true, if_neg, decide_eq_true_eq, Bool.not_eq_true', decide_eq_false_iff_not, Bool.not_true, Bool.not_false, List.length_cons, List.length_nil, sizeLine_eq, Nat.reduceAdd, Nat.reduceLeDiff, Nat.reduceLT, Int.reduceLT, Int.reduceLE, Int.emod_nonneg, ne_eq, Int.reduceEq, not_false_eq_true, not_true_eq_false, hS9]
    exact ⟨_, hS9, fun l nl => hZ _ _ ⟨same_new nl, nl, upd_same⟩⟩
  · rintro la H4 ⟨s4, n4, h4⟩
    exact ⟨SqL.of h4, ⟨_, _, _, _, _, _, rfl⟩, n4, h4, s4 _ _ (f9 _ _ ntl tl8), [], [], os9, ⟨⟨k9.bo.t.same s4, k9.bo.m.same s4⟩, k9.ot.same s4, s4 _ _ k9.lo, k9.old.fr (.of s4), k9.on, k9.n1, k9.n2, k9.n3, k9.n4, k9.n5⟩, by simp, by simp at l9; omega, by simp, by simp⟩
  · rintro la i σ H4 _ ⟨_, _, h4, _⟩
    exact SqL.of h4
  · rintro la i x σ H4 hx' ⟨⟨u9, u10, u11, u12, u13, u14, rfl⟩, n4, h4, tl4, g, hd, os, k4, l1, l2, tg, th⟩
    have hi : i < 40 := by
      have := (List.getElem?_eq_some_iff.mp hx').1
      omega
    obtain ⟨c, rfl⟩ := cut_int hx'
    refine seq_gen fun N_k h_k => ?_
    simp only [RDa, RDb, RDv, RDk, RDx, RDe, RDd, RDp, RDq, List.getElem?_cons_zero, List.getElem?_cons_succ, List.set_cons_zero, List.set_cons_succ, List.cons.injEq, List.cons_ne_nil, reduceCtorEq, exists_eq_left', exists_eq_left, exists_and_left, and_assoc, exists_const, true_and, and_true, if_true, if_false, false_and, and_false, exists_false, false_or, or_false, true_implies, false_implies, implies_true, forall_eq, forall_eq', Bool.false_eq_true, if_neg, decide_eq_true_eq, Bool.not_eq_true', decide_eq_false_iff_not, Bool.not_true, Bool.not_false, List.length_cons, List.length_nil, sizeLine_eq, Nat.reduceAdd, Nat.reduceLeDiff, Nat.reduceLT, Int.reduceLT, Int.reduceLE, Int.emod_nonneg, ne_eq, Int.reduceEq, not_false_eq_true, not_true_eq_false, L, k4.bo.m.dic]
    refine ⟨by omega, by omega, h_k _ _ ?_⟩
    clear h_k
    have hn := md_rng ((g.length : Int) + c / 5 % (room + 2) - if c % 5 = 1 then 1 else 0) (show 0 < ring by omega)
    generalize ((g.length : Int) + c / 5 % (room + 2) - if c % 5 = 1 then 1 else 0) % ring = n0 at hn
    refine seq_rel (fun σ1 H1 => H4 = H1 ∧ ∃ n : Int, 0 ≤ n ∧ n < ring ∧ σ1 = [some (.ref a), some (.int one), some (.int room), some (.int ring), some (.ref tl), some (.ref m), some (.ref p), some (.ref o), some (.ref ol), some (.int c), some (.int n), u11, u12, u13, u14]) (fun N_m h_m => ?_) ?_
    · simp only [RDa, RDb, RDv, RDk, RDx, RDe, RDd, RDp, RDq, List.getElem?_cons_zero, List.getElem?_cons_succ, List.set_cons_zero, List.set_cons_succ, List.cons.injEq, List.cons_ne_nil, reduceCtorEq, exists_eq_left', exists_eq_left, exists_and_left, and_assoc, exists_const, true_and, and_true, if_true, if_false, false_and, and_false, exists_false, false_or, or_false, true_implies, false_implies, implies_true, forall_eq, forall_eq', Bool.false_eq_true, if_neg, decide_eq_true_eq, Bool.not_eq_true', decide_eq_false_iff_not, Bool.not_true, Bool.not_false, List.length_cons, List.length_nil, sizeLine_eq, Nat.reduceAdd, Nat.reduceLeDiff, Nat.reduceLT, Int.reduceLT, Int.reduceLE, Int.emod_nonneg, ne_eq, Int.reduceEq, not_false_eq_true, not_true_eq_false, L, k4.bo.m.dic]
      by_cases c1 : 2 < c % 5
      · rw [if_pos c1]
        have m1 := md_rng (g.length : Int) (show 0 < ring by omega)
        have m2 := md_rng (c / 5) (show 0 < ring by omega)
        refine ⟨by omega, by omega, by omega, _, pickI2 (by omega) (by omega), h_m _ _ ⟨rfl, _, ?_, ?_, rfl⟩⟩ <;> (split <;> omega)
      · rw [if_neg c1]
        exact h_m _ _ ⟨rfl, n0, hn.1, hn.2, rfl⟩
    rintro _ _ ⟨rfl, n, hn1, hn2, rfl⟩
    refine seq_gen fun N_o h_o => ?_
    simp only [RDa, RDb, RDv, RDk, RDx, RDe, RDd, RDp, RDq, List.getElem?_cons_zero, List.getElem?_cons_succ, List.set_cons_zero, List.set_cons_succ, List.cons.injEq, List.cons_ne_nil, reduceCtorEq, exists_eq_left', exists_eq_left, exists_and_left, and_assoc, exists_const, true_and, and_true, if_true, if_false, false_and, and_false, exists_false, false_or, or_false, true_implies, false_implies, implies_true, forall_eq, forall_eq', Bool.false_eq_true, if_neg, decide_eq_true_eq, Bool.not_eq_true', decide_eq_false_iff_not, Bool.not_true, Bool.not_false, List.length_cons, List.length_nil, sizeLine_eq, Nat.reduceAdd, Nat.reduceLeDiff, Nat.reduceLT, Int.reduceLT, Int.reduceLE, Int.emod_nonneg, ne_eq, Int.reduceEq, not_false_eq_true, not_true_eq_false, tl4, seqO_lst tl4]
    have h12 := md_rng (c / 60) (show (0 : Int) < 12 by decide)
    obtain ⟨x, hx1, hx2⟩ : ∃ x, atI (ts.map V.str) (c / 60 % 12) = some (.str x) ∧ x ∈ ts := by
      generalize c / 60 % 12 = j at h12
      have e3 : j.toNat < ts.length := by omega
      refine ⟨ts[j.toNat], ?_, List.getElem_mem e3⟩
      have e2 : j = ((j.toNat : Nat) : Int) := by omega
      have e4 : (ts.map V.str)[j.toNat]? = some (.str ts[j.toNat]) := by
        rw [List.getElem?_map, List.getElem?_eq_getElem e3]
        rfl
      have e5 := atI_nat e4
      rw [← e2] at e5
      exact e5
    refine ⟨_, hx1, h_o _ _ ?_⟩
    clear h_o
    obtain ⟨dx4, p4⟩ := k4.bo.t.ins
    refine seq_gen fun N_r h_r => ?_
    simp only [RDa, RDb, RDv, RDk, RDx, RDe, RDd, RDp, RDq, List.getElem?_cons_zero, List.getElem?_cons_succ, List.set_cons_zero, List.set_cons_succ, List.cons.injEq, List.cons_ne_nil, reduceCtorEq, exists_eq_left', exists_eq_left, exists_and_left, and_assoc, exists_const, true_and, and_true, if_true, if_false, false_and, and_false, exists_false, false_or, or_false, true_implies, false_implies, implies_true, forall_eq, forall_eq', Bool.false_eq_true, if_neg, decide_eq_true_eq, Bool.not_eq_true', decide_eq_false_iff_not, Bool.not_true, Bool.not_false, List.length_cons, List.length_nil, sizeLine_eq, Nat.reduceAdd, Nat.reduceLeDiff, Nat.reduceLT, Int.reduceLT, Int.reduceLE, Int.emod_nonneg, ne_eq, Int.reduceEq, not_false_eq_true, not_true_eq_false, hTaker, TakerL, p4]
    refine ⟨p, tx, hx, room, ring, (g.length : Int), g, hd, n, x, rfl, k4.bo.t, by omega, by omega, fun H5 w2 g2 h2 e2 f5 t5 => h_r _ _ ?_⟩
    clear h_r
    have inv := came_inv (fun x => TxtOk 100 x) e2 tg th (htx x hx2)
    obtain rfl : w2 = (g2.length : Int) := by omega
    refine seq_gen fun N_s h_s => ?_
    simp only [RDa, RDb, List.getElem?_cons_zero, List.getElem?_cons_succ, RDv, exists_eq_left']
    have m5 : M3 H5 m mgo mk room ring (g.length : Int) g hd := by
      obtain ⟨dx0, e0⟩ := k4.bo.t.ins
      refine k4.bo.m.fr f5 ?_ ?_ ?_
      · have a := ne_of_obj k4.bo.m.dic e0 (by simp)
        have b := ne_of_obj k4.bo.m.dic k4.bo.t.txt (by simp)
        simp [a, b, Ne.symm k4.n1]
      · have a := ne_of_obj k4.bo.m.txt e0 (by simp)
        have b := ne_of_obj k4.bo.m.txt k4.bo.t.hel (by simp)
        simp [a, b, Ne.symm k4.n3]
      · have a := ne_of_obj k4.bo.m.hel e0 (by simp)
        have b := ne_of_obj k4.bo.m.hel k4.bo.t.txt (by simp)
        simp [a, b, Ne.symm k4.n2]
    refine ⟨m, mgo, mk, room, ring, (g.length : Int), g, hd, n, x, rfl, m5, by omega, hn1, hn2, by omega, by omega, by omega, by omega, by omega, fun H6 w3 g3 h3 e3 f6 m6 => h_s _ _ ?_⟩
    clear h_s
    rw [e2] at e3
    cases e3
    obtain ⟨f46, k6⟩ := k4.came f5 t5 f6 m6
    have wl : ∀ Hh, Kn Hh (.int ((g2.length : Int) % ring)) := fun _ => rfl
    simp only [RDa, RDb, RDv, RDk, RDx, RDe, RDd, RDp, RDq, List.getElem?_cons_zero, List.getElem?_cons_succ, List.set_cons_zero, List.set_cons_succ, List.cons.injEq, List.cons_ne_nil, reduceCtorEq, exists_eq_left', exists_eq_left, exists_and_left, and_assoc, exists_const, true_and, and_true, if_true, if_false, false_and, and_false, exists_false, false_or, or_false, true_implies, false_implies, implies_true, forall_eq, forall_eq', Bool.false_eq_true, if_neg, decide_eq_true_eq, Bool.not_eq_true', decide_eq_false_iff_not, Bool.not_true, Bool.not_false, List.length_cons, List.length_nil, sizeLine_eq, Nat.reduceAdd, Nat.reduceLeDiff, Nat.reduceLT, Int.reduceLT, Int.reduceLE, Int.emod_nonneg, ne_eq, Int.reduceEq, not_false_eq_true, not_true_eq_false, L, m6.dic, sp__law_whole, wl, wholeV]
    refine ⟨by omega, ?_⟩
    refine k6.stands (by omega) (by omega) (by omega) (by omega) (by omega) inv.2.2.2.1 inv.2.2.2.2 fun H7 os7 f7 k7 l7 => ⟨_, rfl, ?_⟩
    rw [if_neg (by decide)]
    have f47 := f46.trans f7
    have lan : la ∉ [p, tx, hx, m, mgo, mk, ol] := fun hc => by
      have z9 : ∀ c ∈ [p, tx, hx, m, mgo, mk, ol], H9 c ≠ none := by
        obtain ⟨dx9, e1⟩ := k9.bo.t.ins
        intro c hc
        simp only [List.mem_cons, List.not_mem_nil, or_false] at hc
        rcases hc with rfl | rfl | rfl | rfl | rfl | rfl | rfl
        · rw [e1]; simp
        · rw [k9.bo.t.txt]; simp
        · rw [k9.bo.t.hel]; simp
        · rw [k9.bo.m.dic]; simp
        · rw [k9.bo.m.txt]; simp
        · rw [k9.bo.m.hel]; simp
        · rw [k9.lo]; simp
      exact z9 la hc n4
    exact ⟨by simp, n4, f47 _ _ lan h4, f47 _ _ ntl tl4, g2, h2, os7, k7, by omega, by omega, inv.2.2.2.1, inv.2.2.2.2⟩
  · rintro la σ H4 ⟨⟨u9, u10, u11, u12, u13, u14, rfl⟩, n4, h4, tl4, g, hd, os, k4, l1, l2, tg, th⟩
    refine h_j _ _ ?_
    clear h_j
    refine seq_gen fun N_l h_l => ?_
    simp only [RDa, RDb, RDv, RDk, RDx, RDe, RDd, RDp, RDq, List.getElem?_cons_zero, List.getElem?_cons_succ, List.set_cons_zero, List.set_cons_succ, List.cons.injEq, List.cons_ne_nil, reduceCtorEq, exists_eq_left', exists_eq_left, exists_and_left, and_assoc, exists_const, true_and, and_true, if_true, if_false, false_and, and_false, exists_false, false_or, or_false, true_implies, false_implies, implies_true, forall_eq, forall_eq', Bool.false_eq_true, if_neg, decide_eq_true_eq, Bool.not_eq_true', decide_eq_false_iff_not, Bool.not_true, Bool.not_false, List.length_cons, List.length_nil, sizeLine_eq, Nat.reduceAdd, Nat.reduceLeDiff, Nat.reduceLT, Int.reduceLT, Int.reduceLE, Int.emod_nonneg, ne_eq, Int.reduceEq, not_false_eq_true, not_true_eq_false]
    refine k4.stands (by decide) (by decide) (by omega) (by omega) (by omega) tg th fun H5 os5 f5 k5 l5 => ⟨_, rfl, ?_⟩
    rw [if_neg (by decide)]
    refine h_l _ _ ?_
    clear h_l
    refine seq_gen fun N_u h_u => ?_
    refine for_lcut (fun a' H1 => a' = ol ∧ H5 = H1) os5 (fun Z hZ => ?_)
      (fun a' i σ H' => (∃ u13 u14, σ = [some (.ref a), some (.int one), some (.int room), some (.int ring), some (.ref tl), some (.ref m), some (.ref p), some (.ref o), some (.ref ol), u9, u10, u11, u12, u13, u14]) ∧ H5 = H' ∧ a' = ol) ?_ ?_ ?_ ?_
    · simp only [RDa, RDb, RDv, RDk, RDx, RDe, RDd, RDp, RDq, List.getElem?_cons_zero, List.getElem?_cons_succ, List.set_cons_zero, List.set_cons_succ, List.cons.injEq, List.cons_ne_nil, reduceCtorEq, exists_eq_left', exists_eq_left, exists_and_left, and_assoc, exists_const, true_and, and_true, if_true, if_false, false_and, and_false, exists_false, false_or, or_false, true_implies, false_implies, implies_true, forall_eq, forall_eq', Bool.false_eq_true, if_neg, decide_eq_true_eq, Bool.not_eq_true', decide_eq_false_iff_not, Bool.not_true, Bool.not_false, List.length_cons, List.length_nil, sizeLine_eq, Nat.reduceAdd, Nat.reduceLeDiff, Nat.reduceLT, Int.reduceLT, Int.reduceLE, Int.emod_nonneg, ne_eq, Int.reduceEq, not_false_eq_true, not_true_eq_false]
      exact hZ _ _ ⟨rfl, rfl⟩
    · rintro a' H6 ⟨rfl, rfl⟩
      exact ⟨SqL.of k5.lo, ⟨_, _, rfl⟩, rfl, rfl⟩
    · rintro a' i σ H6 _ ⟨_, rfl, rfl⟩
      exact SqL.of k5.lo
    · rintro a' i y σ H6 hy ⟨⟨u13', u14', rfl⟩, rfl, rfl⟩
      obtain ⟨q', la', lb', d', rfl, e1, e2, e3, e4⟩ := k5.old _ (List.mem_of_getElem? hy)
      have e1 := hm_same _ _ e1
      have e2 := dat_same hm_same _ _ _ e2
      have e3 := dat_same hm_same _ _ _ e3
      have sh := (e4.mono (show 8 ≤ 64 by decide)).ok
      simp only [RDa, RDb, RDv, RDk, RDx, RDe, RDd, RDp, RDq, List.getElem?_cons_zero, List.getElem?_cons_succ, List.set_cons_zero, List.set_cons_succ, List.cons.injEq, List.cons_ne_nil, reduceCtorEq, exists_eq_left', exists_eq_left, exists_and_left, and_assoc, exists_const, true_and, and_true, if_true, if_false, false_and, and_false, exists_false, false_or, or_false, true_implies, false_implies, implies_true, forall_eq, forall_eq', Bool.false_eq_true, if_neg, decide_eq_true_eq, Bool.not_eq_true', decide_eq_false_iff_not, Bool.not_true, Bool.not_false, List.length_cons, List.length_nil, sizeLine_eq, Nat.reduceAdd, Nat.reduceLeDiff, Nat.reduceLT, Int.reduceLT, Int.reduceLE, Int.emod_nonneg, ne_eq, Int.reduceEq, not_false_eq_true, not_true_eq_false, e1, e2, e3, sh, eqv_self e4.lay]
      simp
    rintro a' σ H6 ⟨⟨u13', u14', rfl⟩, rfl, rfl⟩
    refine h_u _ _ ?_
    obtain ⟨dxo, oo5⟩ := k5.ot.ins
    simp only [RDa, RDb, RDv, RDk, RDx, RDe, RDd, RDp, RDq, List.getElem?_cons_zero, List.getElem?_cons_succ, List.set_cons_zero, List.set_cons_succ, List.cons.injEq, List.cons_ne_nil, reduceCtorEq, exists_eq_left', exists_eq_left, exists_and_left, and_assoc, exists_const, true_and, and_true, if_true, if_false, false_and, and_false, exists_false, false_or, or_false, true_implies, false_implies, implies_true, forall_eq, forall_eq', Bool.false_eq_true, if_neg, decide_eq_true_eq, Bool.not_eq_true', decide_eq_false_iff_not, Bool.not_true, Bool.not_false, List.length_cons, List.length_nil, sizeLine_eq, Nat.reduceAdd, Nat.reduceLeDiff, Nat.reduceLT, Int.reduceLT, Int.reduceLE, Int.emod_nonneg, ne_eq, Int.reduceEq, not_false_eq_true, not_true_eq_false, hTaker, TakerL, oo5]
    have s0 : srt (([] : List (Int × Str)).map (·.1)) = [] := by
      have z := srt_length (([] : List (Int × Str)).map (·.1))
      exact List.length_eq_zero_iff.mp z
    have shn : SeqAt.shaped (.list []) = true := by rfl
    have cln : PyData.canLay0 (.list []) = true := by simp [PyData.canLay0, PyData.canLayAll0]
    refine ⟨o, otx, ohx, room, ring, 0, [], [], rfl, k5.ot, fun l H6 nl s6 a6 => ?_⟩
    intro l2 n_l2
    generalize e_H7 : upd H6 l2 (.lst []) = H7
    have a_H7 : H7 l2 = some (.lst []) := by rw [← e_H7]; exact upd_same
    have s_H7 : Same H6 H7 := by rw [← e_H7]; exact same_new n_l2
    have o7 := (k5.ot.same s6).same s_H7
    obtain ⟨dx7, oo7⟩ := o7.ins
    refine ⟨.list [], dat_lst (s_H7 _ _ a6) 7, .list [], dat_lst a_H7 7, shn, shn, ?_⟩
    rw [eqv_self cln, if_pos rfl]
    refine ⟨_, _, oo7, rfl, o, otx, ohx, room, ring, 0, [], [], rfl, o7, by decide, fun l3 rs3 HA nl3 s8 a8 ar8 => ?_⟩
    rw [s0] at ar8
    cases ar8
    intro l4 n_l4
    generalize e_HB : upd HA l4 (.lst []) = HB
    have a_HB : HB l4 = some (.lst []) := by rw [← e_HB]; exact upd_same
    have s_HB : Same HA HB := by rw [← e_HB]; exact same_new n_l4
    obtain ⟨dx9, oo9⟩ := ((o7.same s8).same s_HB).ins
    refine ⟨.list [], dat_lst (s_HB _ _ a8) 7, .list [], dat_lst a_HB 7, shn, shn, ?_⟩
    rw [eqv_self cln, if_pos rfl]
    refine ⟨_, _, oo9, rfl, o, _, room, ring, 0, otx, ohx, rfl, oo9, rfl, ?_⟩
    exact q _
end RP

namespace RP
open PySem PySem.Spec PyProof.Rows L2 L2H

/-- tests -/
def excB (K : PySem.W.Frag) (D : Addr) : Bool := decide (PySem.W.findIn K (.ref D) "__getattribute__" = some (some (.builtin "BaseException.__getattribute__"))) && (decide (PySem.W.findIn K (.ref D) "__getattr__" = some none) && (decide (PySem.W.subIn K (.ref D) (.type "BaseException") = some true) && (decide (PySem.W.hasDictIn K D = true) &&
  (decide (PySem.W.findIn K (.ref D) "__class__" = some (some (.builtin "object.__class__"))) && (decide (PySem.W.specialIn K (.builtin "object.__class__") "__get__" = some (some (.builtin "getset_descriptor.__get__"))) && (decide (PySem.W.takesIn K (.builtin "object.__class__") = some true) && decide (PySem.W.mroIn K D (.type "object") = some true)))))))
theorem excB_ok {K : PySem.W.Frag} {D : Addr} (h : excB K D = true) : ExcC K D := by
  unfold excB at h
  simp only [Bool.and_eq_true, decide_eq_true_eq] at h
  obtain ⟨h1, h2, h3, h4, h5, h6, h7, h8⟩ := h
  exact ⟨h1, h2, h3, h4, h5, h6, h7, h8⟩
def kitFB (K : PySem.W.Frag) (D : Str) (l : List (Str × Bool)) : Bool := l.all fun q => decide (PySem.W.kitOne K (.ref (He.ga K D)) (.ref (He.ga K q.1)) = some q.2)
theorem kitFB_ok {K : PySem.W.Frag} {D : Str} {l : List (Str × Bool)} (h : kitFB K D l = true) : ∀ q ∈ l, PySem.W.kitOne K (.ref (He.ga K D)) (.ref (He.ga K q.1)) = some q.2 := fun q hq => of_decide_eq_true (List.all_eq_true.mp h q hq)
def d_Taker_init : He.DefD := ⟨("Taker", some "__init__"), "__init__", "Taker.__init__", defArgs s_Taker_init, defBody s_Taker_init, defScope s_Taker_init, [], []⟩
def d_Taker_want : He.DefD := ⟨("Taker", some "want"), "want", "Taker.want", defArgs s_Taker_want, defBody s_Taker_want, defScope s_Taker_want, [], []⟩
def d_Taker_gone : He.DefD := ⟨("Taker", some "gone"), "gone", "Taker.gone", defArgs s_Taker_gone, defBody s_Taker_gone, defScope s_Taker_gone, [], []⟩
def d_Taker_kept : He.DefD := ⟨("Taker", some "kept"), "kept", "Taker.kept", defArgs s_Taker_kept, defBody s_Taker_kept, defScope s_Taker_kept, [], []⟩
def d_Taker_came : He.DefD := ⟨("Taker", some "came"), "came", "Taker.came", defArgs s_Taker_came, defBody s_Taker_came, defScope s_Taker_came, [], []⟩
def d__law_at : He.DefD := ⟨("_law_at", none), "_law_at", "_law_at", defArgs s__law_at, defBody s__law_at, defScope s__law_at, [], []⟩
def d__law_mixed : He.DefD := ⟨("_law_mixed", none), "_law_mixed", "_law_mixed", defArgs s__law_mixed, defBody s__law_mixed, defScope s__law_mixed, [], []⟩
def d__law_whole : He.DefD := ⟨("_law_whole", none), "_law_whole", "_law_whole", defArgs s__law_whole, defBody s__law_whole, defScope s__law_whole, [], []⟩
def d__law_texts : He.DefD := ⟨("_law_texts", none), "_law_texts", "_law_texts", defArgs s__law_texts, defBody s__law_texts, defScope s__law_texts, [], []⟩
def d__law_came : He.DefD := ⟨("_law_came", none), "_law_came", "_law_came", defArgs s__law_came, defBody s__law_came, defScope s__law_came, [], []⟩
def d__law_asked : He.DefD := ⟨("_law_asked", none), "_law_asked", "_law_asked", defArgs s__law_asked, defBody s__law_asked, defScope s__law_asked, [], []⟩
def d__law_stands : He.DefD := ⟨("_law_stands", none), "_law_stands", "_law_stands", defArgs s__law_stands, defBody s__law_stands, defScope s__law_stands, [], []⟩
def d_law : He.DefD := ⟨("law", none), "law", "law", defArgs s_law, defBody s_law, defScope s_law, [], []⟩
def fn : List He.DefD := [d_Taker_init, d_Taker_want, d_Taker_gone, d_Taker_kept, d_Taker_came, d__law_at, d__law_mixed, d__law_whole, d__law_texts, d__law_came, d__law_asked, d__law_stands, d_law]
def fa : List He.Fa := [.free "len", .free "range", .free "min", .free "max", .free "isinstance", .free "int", .free "bool", .free "str", .free "list", .free "tuple", .free "dict", .free "sorted", .free "enumerate", .free "zip", .free "all", .free "ValueError", .glo "Taker", .mkr "Taker", .cls "Taker", .noat "Taker" "room", .noat "Taker" "ring", .noat "Taker" "wanted", .noat "Taker" "texts", .noat "Taker" "held", .meth "Taker" "want", .meth "Taker" "gone", .meth "Taker" "kept", .meth "Taker" "came", .glo "_law_at", .glo "_law_mixed", .glo "_law_whole", .glo "_law_texts", .glo "_law_came", .glo "_law_asked", .glo "_law_stands", .glo "law"]
def exB (K : PySem.W.Frag) : Bool := true
def loose : List Str := ["Taker", "_law_at", "_law_mixed", "_law_whole", "_law_texts", "_law_came", "_law_asked", "_law_stands"]
abbrev PW : Program := (PySem.W.OpenLaw.row PySem.Challenge.rw_ringpost_k03_who_takes).prog
abbrev R : PySem.W.OpenRow := PySem.W.OpenLaw.row PySem.Challenge.rw_ringpost_k03_who_takes
abbrev hk : PySem.W.Hook := He.hookX 5 fa fn [] [] exB
def ob (s : PySem.W.SharedT) : He.AlX := He.obsX 5 fa fn [] [] exB (HandSHeadRun.getT s)
theorem ob_eq (s : PySem.W.SharedT) : ob s = hk.obs s.abs := He.obsX_eq (HandSHeadRun.getT_eq s)
theorem run (w : World) : HandSHeadRun.RunEq R (PySem.W.view R.prog [10]) hk ob 3000 loose w := by
  intro os
  kernel_rfl
theorem facts {w : World} {K : PySem.W.Frag} {h : Heap} {mg : Str → Option Value} {f : Addr} (X : K.In h) (G : h.Ns mainGlobals mg) (hfa : mg ("law" : Str) = some (.ref f)) (c : He.SaysX fa fn [] [] exB w h K) :
    ∃ fd : FuncData, (∀ (s : Shared) (v : Value), BindsTo s fd ⟨[v], []⟩ [("_law_script", v)]) ∧ ∀ base : Heap, K.In base → base.Ns mainGlobals mg → FnOk PW w K mg base (L2N.CX PW w) 4 f fd ["_law_script"] (sp_law K) := by
  have cf : ∀ (i : Nat) {f : He.Fa}, fa[i]? = some f → f.ok K = true := fun i f h => c.t.d.fact i h
  have cd : ∀ {d : He.DefD}, d ∈ fn → ∃ fd, FunD K d.name d.qual d.params d.body d.scope (d.dvs K) (d.kws K) (He.fAd K d.at_) fd := fun h => c.t.d.defs h
  have cx := c.more
  unfold exB at cx
  have bl : Blt mg := ⟨He.free_ok X G (cf 0 (f := .free "len") rfl), He.free_ok X G (cf 1 (f := .free "range") rfl), He.free_ok X G (cf 2 (f := .free "min") rfl), He.free_ok X G (cf 3 (f := .free "max") rfl), He.free_ok X G (cf 4 (f := .free "isinstance") rfl), He.free_ok X G (cf 5 (f := .free "int") rfl), He.free_ok X G (cf 6 (f := .free "bool") rfl), He.free_ok X G (cf 7 (f := .free "str") rfl), He.free_ok X G (cf 8 (f := .free "list") rfl), He.free_ok X G (cf 9 (f := .free "tuple") rfl), He.free_ok X G (cf 10 (f := .free "dict") rfl), He.free_ok X G (cf 11 (f := .free "sorted") rfl), He.free_ok X G (cf 12 (f := .free "enumerate") rfl), He.free_ok X G (cf 13 (f := .free "zip") rfl), He.free_ok X G (cf 14 (f := .free "all") rfl), He.free_ok X G (cf 15 (f := .free "ValueError") rfl)⟩
  have hTaker : TakerF K := ⟨He.cls_ok (cf 18 (f := .cls "Taker") rfl), He.noat_ok (cf 19 (f := .noat "Taker" "room") rfl), He.noat_ok (cf 20 (f := .noat "Taker" "ring") rfl), He.noat_ok (cf 21 (f := .noat "Taker" "wanted") rfl), He.noat_ok (cf 22 (f := .noat "Taker" "texts") rfl), He.noat_ok (cf 23 (f := .noat "Taker" "held") rfl)⟩
  have c_Taker := fun (base : Heap) => ok_Taker_init (P := PW) (w := w) (base := base) (cd (d := d_Taker_init) (by simp [fn])) (He.glo_ok X G (cf 16 (f := .glo "Taker") rfl)) (He.mkr_ok (cf 17 (f := .mkr "Taker") rfl)) bl hTaker
  have m_Taker_want := fun (base : Heap) => ok_Taker_want (P := PW) (w := w) (base := base) (cd (d := d_Taker_want) (by simp [fn])) (He.cls_ok (cf 18 (f := .cls "Taker") rfl)) (He.meth_ok (cf 24 (f := .meth "Taker" "want") rfl)) bl hTaker
  have m_Taker_gone := fun (base : Heap) => ok_Taker_gone (P := PW) (w := w) (base := base) (cd (d := d_Taker_gone) (by simp [fn])) (He.cls_ok (cf 18 (f := .cls "Taker") rfl)) (He.meth_ok (cf 25 (f := .meth "Taker" "gone") rfl)) bl hTaker
  have m_Taker_kept := fun (base : Heap) => ok_Taker_kept (P := PW) (w := w) (base := base) (cd (d := d_Taker_kept) (by simp [fn])) (He.cls_ok (cf 18 (f := .cls "Taker") rfl)) (He.meth_ok (cf 26 (f := .meth "Taker" "kept") rfl)) bl hTaker
  have m_Taker_came := fun (base : Heap) => ok_Taker_came (P := PW) (w := w) (base := base) (cd (d := d_Taker_came) (by simp [fn])) (He.cls_ok (cf 18 (f := .cls "Taker") rfl)) (He.meth_ok (cf 27 (f := .meth "Taker" "came") rfl)) bl hTaker
  have c__law_at := fun (base : Heap) (a : Addr) (ns : List Int) => ok__law_at (P := PW) (w := w) (base := base) (cd (d := d__law_at) (by simp [fn])) (He.glo_ok X G (cf 28 (f := .glo "_law_at") rfl)) bl a ns
  have c__law_mixed := fun (base : Heap) => ok__law_mixed (P := PW) (w := w) (base := base) (cd (d := d__law_mixed) (by simp [fn])) (He.glo_ok X G (cf 29 (f := .glo "_law_mixed") rfl)) bl
  have c__law_whole := fun (base : Heap) => ok__law_whole (P := PW) (w := w) (base := base) (cd (d := d__law_whole) (by simp [fn])) (He.glo_ok X G (cf 30 (f := .glo "_law_whole") rfl)) bl
  have c__law_texts := fun (base : Heap) => ok__law_texts (P := PW) (w := w) (base := base) (cd (d := d__law_texts) (by simp [fn])) (He.glo_ok X G (cf 31 (f := .glo "_law_texts") rfl)) bl (c__law_mixed base)
  have c__law_came := fun (base : Heap) => ok__law_came (P := PW) (w := w) (base := base) (cd (d := d__law_came) (by simp [fn])) (He.glo_ok X G (cf 32 (f := .glo "_law_came") rfl)) bl
  have c__law_asked := fun (base : Heap) => ok__law_asked (P := PW) (w := w) (base := base) (cd (d := d__law_asked) (by simp [fn])) (He.glo_ok X G (cf 33 (f := .glo "_law_asked") rfl)) bl hTaker (m_Taker_gone base) (m_Taker_kept base) (m_Taker_want base)
  have c__law_stands := fun (base : Heap) => ok__law_stands (P := PW) (w := w) (base := base) (cd (d := d__law_stands) (by simp [fn])) (He.glo_ok X G (cf 34 (f := .glo "_law_stands") rfl)) bl (c__law_asked base) (c__law_whole base)
  obtain ⟨fd, FL⟩ := cd (d := d_law) (by simp [fn])
  have e := hfa.symm.trans (He.glo_ok X G (cf 35 (f := .glo "law") rfl))
  have e2 : f = He.fAd K ("law", none) := Value.ref.inj (Option.some.inj e)
  subst e2
  have b := FunD.bindsA (ps := ["_law_script"]) FL fun _ _ _ _ _ _ us hl => match us, hl with | [_], _ => rfl
  exact ⟨fd, fun s v => b s [v] rfl, fun base _ _ => ok_law FL bl hTaker (m_Taker_came base) (m_Taker_gone base) (c_Taker base) (m_Taker_kept base) (m_Taker_want base) (c__law_at base) (c__law_came base) (c__law_mixed base) (c__law_stands base) (c__law_texts base) (c__law_whole base)⟩
end RP
open PySem PySem.W PySem.Calls PyProof.Rows
theorem PySem.Challenge.cw_ringpost_k03_who_takes_holds : PySem.Challenge.rw_ringpost_k03_who_takes.Holds := by
  w_on; o_law
  refine HandSHeadRun.head_any (r := OpenLaw.row PySem.Challenge.rw_ringpost_k03_who_takes) (q := view (OpenLaw.row PySem.Challenge.rw_ringpost_k03_who_takes).prog [10]) (H := RP.hk) (ob := RP.ob) (M := 3000) (loose := RP.loose) (d := HandSHeadRun.topDef (OpenLaw.row PySem.Challenge.rw_ringpost_k03_who_takes).prog 10) (kwd := []) RP.ob_eq
    (by kernel_rfl) (fun s => by kernel_rfl) RP.run (by kernel_rfl) (by kernel_rfl) (by kernel_rfl) (by rfl) (by first | assumption | decide +kernel) (by decide +kernel) ⟨rfl, rfl, rfl, rfl, rfl, by decide +kernel⟩ ?hw ?hc
  case hw => w_witness2
  case hc =>
    refine RP.walk_W (l := PySem.Challenge.rw_ringpost_k03_who_takes) (n := 63) (k := 4) (x := "_law_script") (CX := fun w => L2N.CX RP.PW w) rfl (by decide) (by kernel_rfl) ⟨rfl, by decide, by decide⟩ ?F (fun _ _ _ _ _ z => by
      obtain ⟨_, _, _, _, _, _, _, _, _, _, _, _, q⟩ := z
      exact q)
    intro w mg fa h Y G hmg0
    obtain ⟨K, KX, c⟩ := Y
    have hmg : mg ("law" : PySem.Str) = some (.ref fa) := by
      have e : (HandSHeadRun.topDef (OpenLaw.row PySem.Challenge.rw_ringpost_k03_who_takes).prog 10).name = ("law" : PySem.Str) := by kernel_rfl
      rw [← e]
      exact hmg0
    obtain ⟨fd, hb, hF⟩ := RP.facts (w := w) KX G hmg c
    exact ⟨K, fd, RP.sp_law K, KX, hb, fun H a ns hl hO hS => ⟨a, ns, rfl, hS, fun _ => rfl⟩, hF⟩

