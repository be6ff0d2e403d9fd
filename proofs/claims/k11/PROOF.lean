import PyProof.Rows.All
import Wide.All
import OpenK.AllK
import Wide.FinOn
import HandS.ForMost
import HandS.ForExc
import HandS.TryMany
import HandS.IsInst
import HandS.ExcIs
import HandS.Conv
import HandS.More
import HandS.Zip
import HandS.TupAny
import HandS.TupLen
import HandS.HotCalls
import HandS.HeadHook4
import HandS.HeadEnd
import HandS.Head2
import HandS.ForMost
import HandS.ForExc
import HandS.TryMany
import HandS.IsInst
import HandS.ExcIs
import HandS.Conv
import HandS.More
import HandS.Zip
import HandS.TupAny
import HandS.TupLen
import HandS.HotCalls
import HandS.HeadHook4
import HandS.HeadEnd
import HandS.Head2
import PySem.Challenge.RW_ringpost_k11_whole_broken_by_plain_rows
set_option Elab.async false
set_option linter.all false
set_option maxRecDepth 100000
set_option maxHeartbeats 4000000
open PySem PySem.Spec PyProof.Rows L2
local macro_rules | `(tactic| walk_at "st0") => `(tactic| simp only [L2.start, List.map_cons, List.map_nil, List.length_cons, List.length_nil, List.replicate, List.append_nil, List.cons_append, List.nil_append, Nat.zero_add, Nat.reduceAdd, Nat.reduceSub, Nat.sub_self])
local macro_rules | `(tactic| walk_at "len") => `(tactic| (intro h; first | (obtain ⟨e, _⟩ := h; rw [e]; rfl) | (obtain ⟨_, e, _⟩ := h; rw [e]; rfl) | (obtain ⟨_, _, e, _⟩ := h; rw [e]; rfl) | (obtain ⟨_, _, _, e, _⟩ := h; rw [e]; rfl) | (obtain ⟨_, _, _, _, e, _⟩ := h; rw [e]; rfl) | (obtain ⟨_, _, _, _, _, e, _⟩ := h; rw [e]; rfl) | (obtain ⟨_, _, _, _, _, _, e, _⟩ := h; rw [e]; rfl) | (obtain ⟨_, _, _, _, _, _, _, e, _⟩ := h; rw [e]; rfl) | (obtain ⟨_, _, _, _, _, _, _, _, e, _⟩ := h; rw [e]; rfl) | (obtain ⟨_, _, _, _, _, _, _, _, _, e, _⟩ := h; rw [e]; rfl) | (obtain ⟨_, _, _, _, _, _, _, _, _, _, e, _⟩ := h; rw [e]; rfl) | (obtain ⟨_, _, _, _, _, _, _, _, _, _, _, e, _⟩ := h; rw [e]; rfl) | (obtain ⟨_, _, _, _, _, _, _, _, _, _, _, _, e, _⟩ := h; rw [e]; rfl) | (obtain ⟨_, _, _, _, _, _, _, _, _, _, _, _, _, e, _⟩ := h; rw [e]; rfl) | (obtain ⟨_, _, _, _, _, _, _, _, _, _, _, _, _, _, e, _⟩ := h; rw [e]; rfl) | (obtain ⟨_, _, _, _, _, _, _, _, _, _, _, _, _, _, _, e, _⟩ := h; rw [e]; rfl) | (obtain ⟨_, _, _, _, _, _, _, _, _, _, _, _, _, _, _, _, e, _⟩ := h; rw [e]; rfl) | (obtain ⟨_, _, _, _, _, _, _, _, _, _, _, _, _, _, _, _, _, e, _⟩ := h; rw [e]; rfl) | (obtain ⟨_, _, _, _, _, _, _, _, _, _, _, _, _, _, _, _, _, _, e, _⟩ := h; rw [e]; rfl) | (obtain ⟨_, _, _, _, _, _, _, _, _, _, _, _, _, _, _, _, _, _, _, e, _⟩ := h; rw [e]; rfl) | (obtain ⟨_, _, _, _, _, _, _, _, _, _, _, _, _, _, _, _, _, _, _, _, e, _⟩ := h; rw [e]; rfl) | (obtain ⟨_, _, _, _, _, _, _, _, _, _, _, _, _, _, _, _, _, _, _, _, _, e, _⟩ := h; rw [e]; rfl) | (obtain ⟨_, _, _, _, _, _, _, _, _, _, _, _, _, _, _, _, _, _, _, _, _, _, e, _⟩ := h; rw [e]; rfl) | (obtain ⟨_, _, _, _, _, _, _, _, _, _, _, _, _, _, _, _, _, _, _, _, _, _, _, e, _⟩ := h; rw [e]; rfl) | (obtain ⟨_, _, _, _, _, _, _, _, _, _, _, _, _, _, _, _, _, _, _, _, _, _, _, _, e, _⟩ := h; rw [e]; rfl) | (obtain ⟨_, _, _, _, _, _, _, _, _, _, _, _, _, _, _, _, _, _, _, _, _, _, _, _, _, e, _⟩ := h; rw [e]; rfl)))

namespace RP
open PySem PySem.Spec PyProof.Rows L2

/-! ### a def, a method, a class as callers use them -/
section
variable (P : Program) (w : World) (K : PySem.W.Frag) (mg : Str → Option Value) (base : Heap)
def Cal (k : Nat) (x : Str) (sp : Sp) : Prop :=
  ∃ (f : Addr) (fd : FuncData) (ps : List Str), FnOk P w K mg base (L2N.CX P w) k f fd ps sp ∧ mg x = some (.ref f) ∧ PySem.W.keepIn K (.ref f) = true ∧ Binds K fd ps []
def MCal (k : Nat) (C : Addr) (m : Str) (sp : Sp) : Prop :=
  Cls K C ∧ ∃ (f : Addr) (fd : FuncData) (ps : List Str), FnOk P w K mg base (L2N.CX P w) k f fd ps sp ∧ Meth K C m f ∧ Binds K fd ps []
def KCal (k : Nat) (x : Str) (C : Addr) (sp : Sp) : Prop :=
  ∃ (f : Addr) (fd : FuncData) (ps : List Str), Mk K C f ∧ FnOk P w K mg base (L2N.CX P w) k f fd ps sp ∧ mg x = some (.ref C) ∧ Binds K fd ps []
end
section
variable {X : Cx} {k : Nat} {C : Addr} {sp : Sp} {W : WX} {x m : Str} {p pos apos : Pos} {e o : Expr} {es : List Expr} {ta : TE} {t : TA}
theorem pe_fn (c : Cal X.prog X.w X.K X.mg X.base k x sp) (hr : Room k X.A) (tk : L2N.Takes X W) (ha : PA X (e :: es) t) (hg : Gl X x := by rfl) (hdb : (x == ("__debug__" : Str)) = false := by decide)
    (he : starEach (e :: es) X.env = (false, eval e X.env) :: starEach es X.env := by rfl) (hpl : (backTo pos (starEach es X.env)).any (·.1) = false := by rfl) :
    PE X (.Call (.Name x p) (e :: es) [] pos) (tCallS sp (WE W) t) := by
  obtain ⟨f, fd, ps, F, hm, hk, hb⟩ := c
  exact pe_callS F hr hg hm hk hb (fun σ => L2N.passAt tk σ) ha hdb he hpl
def tMethS (C : Addr) (m : Str) (sp : Sp) (E : L2.St → XK) (ta : TE) (t : TA) : TE := fun σ H Q => ta σ H fun x H1 => ∃ a dx fs, x = .ref a ∧ H1 a = some (.ins C dx fs) ∧ fs.lookup m = none ∧ t σ H1 fun vs H2 => sp (x :: vs) H2 Q (E σ)
theorem pe_mth {pl : Sem Bool} (he : PE X o ta) (c : MCal X.prog X.w X.K X.mg X.base k C m sp) (hr : Room k X.A) (tk : L2N.Takes X W) (ha : PA X (e :: es) t)
    (hst : starEach (e :: es) X.env = (false, eval e X.env) :: starEach es X.env := by rfl) (hpl : (backTo pos (starEach es X.env)).any (·.1) = false := by rfl)
    (ht : eval (.Call (.Attribute o m apos) (e :: es) [] pos) X.env = (do
      let ov ← eval o X.env
      standAt apos.atName
      let (f, first) ← holding [ov] (getMethod ov m pl)
      callWith pos f first (backTo pos (starEach (e :: es) X.env)) (backToKw pos (keywordEach [] X.env))) := by rfl) :
    PE X (.Call (.Attribute o m apos) (e :: es) [] pos) (tMethS C m sp (WE W) ta t) := by
  obtain ⟨cl, f, fd, ps, F, hm, hb⟩ := c
  refine ⟨fun pins s σ H Q I h => ?_⟩
  refine PySem.W.methodCall_KW (pl := pl) (thn (he.run pins s σ H _ I h) fun u s1 ⟨x, H1, I1, rx, a, dx, fs, ex, ea, l, q⟩ => ?_) ht
  subst ex
  obtain rfl : u = Value.ref a := rx
  refine getmeth_ok I1 ea cl hm l ?_
  refine PySem.W.callWith_K (first := [.ref a]) (h₀ := X.base) I.ok.mod.kin hm.kp (thn (ha.run pos pins s1 σ H1 _ I1 q) fun us s2 ⟨vs, H2, I2, r, q2⟩ => ⟨I2.kIn, ?_⟩) hst hpl
  exact run_fnS (us := .ref a :: us) (vs := .ref a :: vs) F hr hb (L2N.passAt tk σ) I2 (.cons rfl r) q2
theorem pe_mth0 {pl : Sem Bool} (he : PE X o ta) (c : MCal X.prog X.w X.K X.mg X.base k C m sp) (hr : Room k X.A) (tk : L2N.Takes X W)
    (ht : eval (.Call (.Attribute o m apos) [] [] pos) X.env = (do
      let ov ← eval o X.env
      standAt apos.atName
      let (f, first) ← holding [ov] (getMethod ov m pl)
      callWith pos f first (backTo pos (starEach [] X.env)) (backToKw pos (keywordEach [] X.env))) := by rfl) :
    PE X (.Call (.Attribute o m apos) [] [] pos) (tMethS C m sp (WE W) ta tNil) := by
  obtain ⟨cl, f, fd, ps, F, hm, hb⟩ := c
  refine ⟨fun pins s σ H Q I h => ?_⟩
  refine PySem.W.methodCall_KW (pl := pl) (thn (he.run pins s σ H _ I h) fun u s1 ⟨x, H1, I1, rx, a, dx, fs, ex, ea, l, q⟩ => ?_) ht
  subst ex
  obtain rfl : u = Value.ref a := rx
  refine getmeth_ok I1 ea cl hm l ?_
  exact PySem.W.callWith_K0 (first := [.ref a]) I1.kIn hm.kp (run_fnS (us := [.ref a]) (vs := [.ref a]) F hr hb (L2N.passAt tk σ) I1 (.cons rfl .nil) q)
def tMakeS (C : Addr) (sp : Sp) (E : L2.St → XK) (t : TA) : TE := fun σ H Q => t σ H fun vs H1 => ∀ x dx, H1 x = none → H1 dx = none → dx ≠ x →
  sp (.ref x :: vs) (upd (upd H1 dx (.own x)) x (.ins C dx [])) (fun v H2 => v = .non ∧ Q (.ref x) H2) (E σ)
theorem run_mkS {pins : List (Addr × Obj)} {σ : L2.St} {H : Hp} {s : Shared} {Q : VK} {us : List Value} {vs : List V} {f : Addr} {fd : FuncData} {ps : List Str} (M : Mk X.K C f) (F : FnOk X.prog X.w X.K X.mg X.base (L2N.CX X.prog X.w) k f fd ps sp) (hr : Room (k + 1) X.A) (hb : Binds X.K fd ps [])
    (tk : L2N.Takes X W) (I : Inv X pins σ H s) (r : Vals vs us)
    (h : ∀ x dx, H x = none → H dx = none → dx ≠ x → sp (.ref x :: vs) (upd (upd H dx (.own x)) x (.ins C dx [])) (fun v H2 => v = .non ∧ Q (.ref x) H2) (WE W σ)) :
    wpAny (model X.prog X.w) X.A (call (.ref C) us) (EP X pins σ Q) X.xe s := by
  have hq := h (s.heap.objs.size + 1) s.heap.objs.size (I.hok.fresh (Nat.le_succ _)) (I.hok.fresh (Nat.le_refl _)) (Nat.ne_of_lt (Nat.lt_succ_self _))
  have I2 := Inv.made (C := C) I
  have r2 : Vals (V.ref (s.heap.objs.size + 1) :: vs) (Value.ref (s.heap.objs.size + 1) :: us) := .cons rfl r
  have hl : (Value.ref (s.heap.objs.size + 1) :: us ++ []).length = ps.length := by
    have e := r2.length
    rw [F.len _ _ _ _ hq] at e
    rw [List.append_nil]
    exact e.symm
  have bb := hb _ (Value.ref (s.heap.objs.size + 1) :: us) I2.kIn hl
  rw [List.append_nil] at bb
  refine wpAny_call (make_map (f := f) I.kIn M.makes M.init (beq_iff_eq.mp M.fn) (codeAny_mono (F.run _ X.stack _ _ ⟨Value.ref (s.heap.objs.size + 1) :: us, []⟩ (Value.ref (s.heap.objs.size + 1) :: us) _ _ (WE W σ) (hr.make C us [])
    (I2.env0.make C us []) bb r2 hq) fun r s' hq' => ?_))
  cases r with
  | error e => exact tk e s' (L2N.XE.of_call I2 (fun _ _ _ h => h) hq')
  | ok fl =>
    cases fl with
    | ret u =>
      obtain ⟨v, H', I3, rv, ev, q3⟩ := I2.after hq'
      subst ev
      exact ⟨rv, ⟨V.ref (s.heap.objs.size + 1), H', I3, rfl, q3⟩⟩
    | next => exact False.elim hq'
    | brk => exact False.elim hq'
    | cont => exact False.elim hq'
theorem pe_mk (c : KCal X.prog X.w X.K X.mg X.base k x C sp) (hr : Room (k + 1) X.A) (tk : L2N.Takes X W) (ha : PA X (e :: es) t) (hg : Gl X x := by rfl) (hdb : (x == ("__debug__" : Str)) = false := by decide)
    (he : starEach (e :: es) X.env = (false, eval e X.env) :: starEach es X.env := by rfl) (hpl : (backTo pos (starEach es X.env)).any (·.1) = false := by rfl) :
    PE X (.Call (.Name x p) (e :: es) [] pos) (tMakeS C sp (WE W) t) := by
  obtain ⟨f, fd, ps, M, F, hm, hb⟩ := c
  refine ⟨fun pins s σ H Q I h => ?_⟩
  refine wpAny_Call_Name_kw (ld_glob I hg hm ?_ hdb)
  refine PySem.W.callWith_K (h₀ := X.base) I.ok.mod.kin M.kp (thn (ha.run pos pins s σ H _ I h) fun us s1 ⟨vs, H1, I1, r, q⟩ => ⟨I1.kIn, ?_⟩) he hpl
  exact run_mkS M F hr hb tk I1 r q
theorem pe_mk0 (c : KCal X.prog X.w X.K X.mg X.base k x C sp) (hr : Room (k + 1) X.A) (tk : L2N.Takes X W) (hg : Gl X x := by rfl) (hdb : (x == ("__debug__" : Str)) = false := by decide) :
    PE X (.Call (.Name x p) [] [] pos) (tMakeS C sp (WE W) tNil) := by
  obtain ⟨f, fd, ps, M, F, hm, hb⟩ := c
  refine ⟨fun pins s σ H Q I h => ?_⟩
  refine wpAny_Call_Name_kw (ld_glob I hg hm ?_ hdb)
  exact PySem.W.callWith_K0 I.kIn M.kp (run_mkS (us := []) M F hr hb tk I .nil h)
end
/-! ### a def by its body -/
/-- the facts of a def of the module | of a method -/
abbrev FnP (K : PySem.W.Frag) (at_ : Str × Option Str) (x qual : Str) (st : Stmt) : Prop := ∃ fd, FunD K x qual (defArgs st) (defBody st) (defScope st) [] [] (He.fAd K at_) fd
section
variable {P : Program} {w : World} {K : PySem.W.Frag} {mg : Str → Option Value} {base : Heap}
theorem fn_cal {x : Str} {st : Stmt} {N ps : List Str} {k : Nat} {sp : Sp} (F : FnP K (x, none) x x st) (hm : mg x = some (.ref (He.ga K x))) (S : FnScope N ps (defScope st)) (len : ∀ vs H Q E, sp vs H Q E → vs.length = ps.length)
    (hbd : ∀ (kV doc pm : Value) (an : Option Addr) (cdv ct : Value) (us : List Value), us.length = ps.length → bindArgs (PySem.W.fnOf x x (defArgs st) (defBody st) (defScope st) .none kV doc pm an cdv ct) ⟨us, []⟩ = pure (ps.zip us))
    (hbody : ∀ (f : Addr) (cdv : Value) (A : Around) (outer : List Env) (s : Shared) (H : Hp) (vs : List V) (Q : VK) (E : XK), Room k (A.deeper (envOfC x (defScope st) s.heap.objs.size f cdv)) → sp vs H Q E →
      ∃ t, PSs (cxOf (L2N.CX P w) P w K mg base N x (defScope st) f cdv A outer s H E) (defBody st) t ∧ t { nx := fun _ H' => Q .non H', rt := Q } (start N vs) H) : Cal P w K mg base (k + 1) x sp := by
  obtain ⟨fd, F⟩ := F
  exact ⟨_, fd, ps, F.ok S len fun cdv A outer s H vs Q E hr h => hbody _ cdv A outer s H vs Q E hr h, hm, F.kp, F.bindsN hbd⟩
theorem fn_mcal {c m qual : Str} {st : Stmt} {N ps : List Str} {k : Nat} {sp : Sp} (F : FnP K (c, some m) m qual st) (hc : Cls K (He.ga K c)) (hm : Meth K (He.ga K c) m (He.ma K (He.ga K c) m)) (S : FnScope N ps (defScope st)) (len : ∀ vs H Q E, sp vs H Q E → vs.length = ps.length)
    (hbd : ∀ (kV doc pm : Value) (an : Option Addr) (cdv ct : Value) (us : List Value), us.length = ps.length → bindArgs (PySem.W.fnOf m qual (defArgs st) (defBody st) (defScope st) .none kV doc pm an cdv ct) ⟨us, []⟩ = pure (ps.zip us))
    (hbody : ∀ (f : Addr) (cdv : Value) (A : Around) (outer : List Env) (s : Shared) (H : Hp) (vs : List V) (Q : VK) (E : XK), Room k (A.deeper (envOfC qual (defScope st) s.heap.objs.size f cdv)) → sp vs H Q E →
      ∃ t, PSs (cxOf (L2N.CX P w) P w K mg base N qual (defScope st) f cdv A outer s H E) (defBody st) t ∧ t { nx := fun _ H' => Q .non H', rt := Q } (start N vs) H) : MCal P w K mg base (k + 1) (He.ga K c) m sp := by
  obtain ⟨fd, F⟩ := F
  exact ⟨hc, _, fd, ps, F.ok S len fun cdv A outer s H vs Q E hr h => hbody _ cdv A outer s H vs Q E hr h, hm, F.bindsN hbd⟩
theorem fn_kcal {c qual : Str} {st : Stmt} {N ps : List Str} {k : Nat} {sp : Sp} (F : FnP K (c, some "__init__") "__init__" qual st) (hm : mg c = some (.ref (He.ga K c))) (M : Mk K (He.ga K c) (He.ma K (He.ga K c) "__init__")) (S : FnScope N ps (defScope st)) (len : ∀ vs H Q E, sp vs H Q E → vs.length = ps.length)
    (hbd : ∀ (kV doc pm : Value) (an : Option Addr) (cdv ct : Value) (us : List Value), us.length = ps.length → bindArgs (PySem.W.fnOf "__init__" qual (defArgs st) (defBody st) (defScope st) .none kV doc pm an cdv ct) ⟨us, []⟩ = pure (ps.zip us))
    (hbody : ∀ (f : Addr) (cdv : Value) (A : Around) (outer : List Env) (s : Shared) (H : Hp) (vs : List V) (Q : VK) (E : XK), Room k (A.deeper (envOfC qual (defScope st) s.heap.objs.size f cdv)) → sp vs H Q E →
      ∃ t, PSs (cxOf (L2N.CX P w) P w K mg base N qual (defScope st) f cdv A outer s H E) (defBody st) t ∧ t { nx := fun _ H' => Q .non H', rt := Q } (start N vs) H) : KCal P w K mg base (k + 1) c (He.ga K c) sp := by
  obtain ⟨fd, F⟩ := F
  exact ⟨_, fd, ps, M, F.ok S len fun cdv A outer s H vs Q E hr h => hbody _ cdv A outer s H vs Q E hr h, hm, F.bindsN hbd⟩
end
/-! ### the built-in names -/
structure Blt (mg : Str → Option Value) : Prop where
  len : mg "len" = none
  range : mg "range" = none
  min : mg "min" = none
  max : mg "max" = none
  isi : mg "isinstance" = none
  int : mg "int" = none
  bool : mg "bool" = none
  str : mg "str" = none
  list : mg "list" = none
  tuple : mg "tuple" = none
  dict : mg "dict" = none
  sorted : mg "sorted" = none
  enumerate : mg "enumerate" = none
  zip : mg "zip" = none
  all : mg "all" = none
  ValueError : mg "ValueError" = none
end RP

/-! ### in an except suite: a def that is handed the caught error -/
namespace RP
open PySem PySem.Spec PyProof.Rows L2 L2H HotX
section
variable {prog : Program} {w : World} {A : Around} {E : Value → Shared → Prop} {s : Shared}
theorem list_end_hot {it l x1 : Addr} {i : Nat} {items} {Q : Option Value → Shared → Prop} (hot : HotAt A x1 s.heap)
    (hit : s.heap.IsListIter it l i) (hl : s.heap.IsList l items) (hx : items[i]? = none) (hne : x1 ≠ it)
    (hQ : ∀ h', (∀ b o, b ≠ it → s.heap.get? b = some o → h'.get? b = some o) → Q none { s with heap := h' }) : wpAny (model prog w) A (pyNext (.ref it)) Q E s := by
  obtain ⟨o, ho, hc, hd⟩ := id hit
  obtain ⟨ol, hol, _, nl, hdl⟩ := hl
  obtain ⟨hh, o1, vs1, h1, d1, c1⟩ := hot
  unfold pyNext
  refine wpAny_bind (wpAny_attempt (wpAny_callSpecial?_slot (name := Str.ofString "__next__") hit.typeIs slot_listiter_next
    (wpAny_call_entry slot_listiter_next hit.typeIs entry_listiter_next ?_ (args_listiter_next _))))
  show wpAny _ _ (field (.ref it) 0 >>= _) _ _ s
  refine wpAny_bind (wpAny_field ho hd (x := .ref l) rfl ?_)
  show wpAny _ _ (if (Value.ref l == Value.none) = true then _ else _) _ _ s
  rw [if_neg (show ¬ ((Value.ref l == Value.none) = true) from Bool.false_ne_true)]
  show wpAny _ _ (field (.ref it) 1 >>= _) _ _ s
  refine wpAny_bind (wpAny_field ho hd (x := .int i 0) rfl ?_)
  show wpAny _ _ (seqItems? (.ref l) >>= _) _ _ s
  refine wpAny_bind (wpAny_seqItems hol hdl ?_)
  simp only [Int.toNat_natCast, hx]
  refine wpAny_bind (wpAny_rule (wpAny_bind (wpAny_setField ho hd (by simp) ?_)))
  show wpAny _ _ (newExc (.type "StopIteration") [] >>= _) _ _ _
  refine wpAny_bind ?_
  simp only [newExc, newTuple]
  refine wpAny_bind (wpAny_newObj_type ?_ (by size_fits))
  refine wpAny_bind (m := firstArgMember _ _) (wpAny_of_eq (a := Value.none) (by first | rfl | (simp only [firstArgMember]; rfl)) ?_)
  refine wpAny_newObj_type ?_ (by size_fits)
  have h1' := (Heap.get?_update_other s.heap (Obj.mapFields (·.setIfInBounds 0 .none)) hne.symm).trans h1
  refine raiseNew_hot ⟨hh, o1, vs1, Heap.get?_push_of_some _ (Heap.get?_push_of_some _ h1'), d1, c1⟩ (Nat.ne_of_lt (Heap.lt_size (Heap.get?_push_of_some _ h1'))) (Heap.get?_push_size _ rfl) rfl (by first | (simp; done) | (simp; omega) | (simp only [Array.size_append]; simp; omega)) ?_
  refine wpAny_bind (wpAny_isInstance (T := "StopIteration") (b := true) ⟨_, Heap.get?_update_self _ (Heap.get?_push_size _ rfl) rfl, rfl⟩ isSubtype_stop ?_)
  refine wpAny_pure (hQ _ fun b o hb e => ?_)
  have e' := (Heap.get?_update_other s.heap (Obj.mapFields (·.setIfInBounds 0 .none)) (Ne.symm hb)).trans e
  rw [Heap.get?_update_other _ _ (Nat.ne_of_gt (Heap.lt_size (Heap.get?_push_of_some _ e')))]
  exact Heap.get?_push_of_some _ (Heap.get?_push_of_some _ e')
end

theorem turn_listH {P : Program} {w : World} {K : PySem.W.Frag} {tg : Expr} (a it : Addr) : TurnH P w K tg (Itl K a) [it] it (fun i h => h.IsListIter it a i) where
  mem := by simp
  obj := fun i h st b hb => by
    have e : b = it := by simpa using hb
    subst e
    obtain ⟨o, e, c, d⟩ := st
    exact ⟨o, e, fun v z => by rw [d] at z; cases z⟩
  keep := fun i h h' st k => st.at fun o e => k it (by simp) o e
  item := by
    intro X hP hw hK hc i pins s σ H E I hf st hg
    subst hP hw hK
    obtain ⟨xs, x, hq, hx⟩ := hg
    obtain ⟨its, rv, p, hz⟩ := I.list hq
    obtain ⟨u, hu, ru⟩ := rv.get hx
    obtain ⟨f0, f1, f2, f3, f4, f5⟩ := hf it (by simp)
    refine wpAny_pyNext_list_item st p.isList (x := u) (by simpa using hu) fun h' st' sb => ?_
    have I1 : Inv X pins σ H { s with heap := h' } := I.turned (t' := s.toks) (fun b o hb e => (sb.2 b hb).trans e) f0 f1 f3 f4 f5
    obtain ⟨o, e, c, d⟩ := id st'
    exact ⟨u, rfl, go_of (s := { s with heap := h' }) e c d (by decide) ⟨x, H, I1, ru, ⟨rfl, fun ys hy => by rw [I.list_inj hy hq]; exact hx⟩, st', fun b hb => (hf b hb).1⟩⟩
  done := by
    intro X hP hw hK hc i pins s σ H E I hf st hg
    subst hP hw hK
    obtain ⟨xs, hq, hx⟩ := hg
    obtain ⟨its, rv, p, hz⟩ := I.list hq
    obtain ⟨f0, f1, f2, f3, f4, f5⟩ := hf it (by simp)
    have hl := rv.length
    obtain ⟨q, ⟨hh, v1, e1, c1⟩, hq1⟩ := hc
    have P1 := I.pin q (List.mem_append_left _ hq1)
    have hne : q.1 ≠ it := f5 q (List.mem_append_left _ hq1)
    refine list_end_hot ⟨hh, q.2, v1, P1.1, e1, c1⟩ st p.isList (by simp; omega) hne fun h' eb => ⟨rfl, I.turned (t' := s.toks) eb f0 f1 f3 f4 f5⟩
  self := fun _ _ _ _ _ st h => wpAny_pyIter_listiter st h

section
variable {X : Cx} {tg : Expr}
theorem pi_listH {l : Expr} {tl : TE} (hl : PE X l tl) : PIH X tg l (iList X.K tl) := by
  refine ⟨fun pins s σ H R I h => thn (hl.run pins s σ H _ I h) fun v s1 ⟨x, H1, I1, r1, a, ex, ⟨xs, hq⟩, q⟩ => ?_⟩
  subst ex
  cases r1
  obtain ⟨its, rv, p, hz⟩ := I1.list hq
  refine wpAny_pyIter_list p.isList ?_
  refine ⟨s1.heap.objs.size, [s1.heap.objs.size], _, _, H1, rfl, I1.kept (t' := s1.toks) fun b o e => Heap.get?_push_of_some _ e, turn_listH a _, ⟨_, Heap.get?_push_size _ rfl, rfl, rfl⟩, fun b hb => ?_, q⟩
  have e : b = s1.heap.objs.size := by simpa using hb
  subst e
  exact I1.fpOk (Nat.le_refl _) (I1.hok.fresh (Nat.le_refl _))
end
/-- what a def promises that is called within a suite: p is the handled exception -/
structure FnE (P : Program) (w : World) (K : PySem.W.Frag) (mg : Str → Option Value) (base : Heap) (k : Nat) (f : Addr) (fd : FuncData) (ps : List Str) (sp : Addr → Value → Option Addr → Sp) : Prop where
  len : ∀ a c d vs H Q E, sp a c d vs H Q E → vs.length = ps.length
  run : ∀ (A : Around) (outer : List Env) (s : Shared) (H : Hp) (args : Args) (us : List Value) (vs : List V) (Q : VK) (E : XK) (p : Addr × Obj) (c : Value) (d : Option Addr), RoomH k A → Hot1 A p → L2N.Zn c d p.2 → PinOk outer H s p → Env0 P w K mg base A outer s H → BindsTo s fd args (ps.zip us) → Vals vs us → sp p.1 c d vs H Q E →
    codeAny (model P w) A (.call (.ref f) args) (CR (L2N.CX P w) outer P w H s Q E) s
theorem fn_ofE {P : Program} {w : World} {K : PySem.W.Frag} {mg : Str → Option Value} {base : Heap} {k : Nat} {f : Addr} {name qual : Str} {params : Arguments} {body : List Stmt} {scope : Scope} {dV kV doc pm cdv ct oc : Value} {an od : Option Addr}
    {osl : Array (Option Value)} {N ps : List Str} {sp : Addr → Value → Option Addr → Sp} (lk : K.lookup f = some ⟨oc, od, .func (PySem.W.fnOf name qual params body scope dV kV doc pm an cdv ct), osl⟩) (hcd : PySem.W.codeIn K cdv qual = true) (S : FnScope N ps scope)
    (len : ∀ a c d vs H Q E, sp a c d vs H Q E → vs.length = ps.length)
    (hbody : ∀ (A : Around) (outer : List Env) (s : Shared) (H : Hp) (vs : List V) (Q : VK) (E : XK) (p : Addr × Obj) (c : Value) (d : Option Addr), Hot1 A p → L2N.Zn c d p.2 → RoomH k (A.deeper (envOfC qual scope s.heap.objs.size f cdv)) → sp p.1 c d vs H Q E →
      ∃ t, PSs (cxH (L2N.CX P w) P w K mg base N qual scope f cdv A outer s H E p) body t ∧ t { nx := fun _ H' => Q .non H', rt := Q } (L2.start N vs) H) :
    FnE P w K mg base (k + 1) f (PySem.W.fnOf name qual params body scope dV kV doc pm an cdv ct) ps sp := by
  constructor
  · exact len
  intro A outer s H args us vs Q E p c d hr hot hz hpin e0 hb r hsp
  have hin : ∀ b o, base.get? b = some o → s.heap.get? b = some o := fun b o e => (e0.bs b o e).1
  have hK : K.In s.heap := PySem.W.Frag.In.keeps e0.mod.kin hin
  have hpar : ∀ y ∈ ps.zip us, scope.names.lookup y.1 = some .local ∨ (scope.names.lookup y.1 = some .cell ∧ ((cellsFrom (s.heap.objs.size + 1) scope.names []).lookup y.1).isSome = true) := by
    rintro ⟨n, v⟩ hy
    have q := S.par n (List.of_mem_zip hy).1
    cases q with
    | inl q => exact Or.inl q
    | inr q => exact Or.inr ⟨q, PySem.W.cellsFrom_some _ _ _ (Or.inl q)⟩
  refine codeAny_call_function hr.depth (hK _ _ lk) rfl S.co S.gen rfl (PySem.W.codeRec_of hK hcd) (hb _ _ _ _ (wpAny_newFunctionEnv_cells S.kind hpar ?_))
  intro env he s1 x
  subst he
  refine ⟨(e0.mod.nolimit.keeps hin).keeps x.toInCall.keep, codeAny_func ?_⟩
  obtain ⟨t, ht, hq⟩ := hbody A outer s H vs Q E p c d hot hz (hr.deeper _) hsp
  have I := inv_startH (CX := L2N.CX P w) (K := K) (mg := mg) (base := base) (N := N) (qual := qual) (f := f) (cd := cdv) (E := E) S hpin e0 (len _ _ _ _ _ _ _ hsp) r x
  refine wpAny_mono (ht.run [] s1 _ H _ I hq) ?_ fun _ _ z => z
  intro fl s' hs
  cases fl with
  | ret u => exact match hs with | ⟨v, _, H', J, rv, q⟩ => ⟨v, H', J.os, J.bare, J.base, J.hok, rv, q⟩
  | next => exact match hs with | ⟨_, H', J, q⟩ => ⟨V.non, H', J.os, J.bare, J.base, J.hok, rfl, q⟩
  | brk => exact match hs with | ⟨_, _, _, q⟩ => q.elim
  | cont => exact match hs with | ⟨_, _, _, q⟩ => q.elim
section
variable {X : Cx} {k : Nat} {sp : Addr → Value → Option Addr → Sp} {cls : Value} {dd : Option Addr} {W : WX} {x m : Str} {pos q : Pos} {e o : Expr} {es : List Expr} {ta : TE} {t : TA} {p : Addr × Obj}
/-- a def of the module, as a suite's call uses it -/
def CalE (P : Program) (w : World) (K : PySem.W.Frag) (mg : Str → Option Value) (base : Heap) (k : Nat) (x : Str) (sp : Addr → Value → Option Addr → Sp) : Prop :=
  ∃ (f : Addr) (fd : FuncData) (ps : List Str), FnE P w K mg base k f fd ps sp ∧ mg x = some (.ref f) ∧ PySem.W.keepIn K (.ref f) = true ∧ L2.Binds K fd ps []
theorem pe_fnE (c : CalE X.prog X.w X.K X.mg X.base k x sp) (hr : RoomH k X.A) {a : Addr} {oe : Obj} (hot : Hot1 X.A (a, oe)) (hz : L2N.Zn cls dd oe) (hp : (a, oe) ∈ X.pn) (tk : L2N.Takes X W) (ha : PA X (e :: es) t) (hg : Gl X x := by rfl) (hdb : (x == ("__debug__" : Str)) = false := by decide)
    (he : starEach (e :: es) X.env = (false, eval e X.env) :: starEach es X.env := by rfl) (hpl : (backTo pos (starEach es X.env)).any (·.1) = false := by rfl) :
    PE X (.Call (.Name x q) (e :: es) [] pos) (tCallS (sp a cls dd) (WE W) t) := by
  obtain ⟨f, fd, ps, F, hm, hk, hb⟩ := c
  constructor
  intro pins s σ H Q I h
  refine wpAny_Call_Name_kw (ld_glob I hg hm ?_ hdb)
  refine PySem.W.callWith_K (h₀ := X.base) I.ok.mod.kin hk (thn (ha.run pos pins s σ H _ I h) ?_) he hpl
  rintro us s1 ⟨vs, H1, I1, r, hsp⟩
  refine ⟨I1.kIn, ?_⟩
  have b := hb s1 us I1.kIn (by rw [List.append_nil, ← r.length]; exact F.len _ _ _ _ _ _ _ hsp)
  rw [List.append_nil] at b
  have P1 := I1.pin (a, oe) (List.mem_append_left _ hp)
  have hpin : PinOk X.stack H1 s1 (a, oe) := ⟨P1.1, P1.2.1, fun hm => (List.mem_cons.mp (I1.stkSub a hm)).elim P1.2.2.1 P1.2.2.2.1, P1.2.2.2.2⟩
  refine wpAny_call (codeAny_mono (F.run X.A X.stack s1 H1 ⟨us, []⟩ us vs Q (WE W σ) (a, oe) cls dd hr hot hz hpin I1.env0 b r hsp) fun rs s' hq => ?_)
  cases rs with
  | error e => exact L2N.passAt tk σ pins H1 s1 e s' I1 hq
  | ok fl => cases fl with
    | ret u => exact I1.after hq
    | next => exact hq.elim
    | brk => exact hq.elim
    | cont => exact hq.elim
def clsOf : V → Option Value
  | .ref a => some (.ref a)
  | .ty n => some (.type n)
  | _ => none
/-- isinstance(e, c), e the handled exception -/
def rIsEC (K : PySem.W.Frag) (a : Addr) (cls : Value) : List V → Hp → VK → Prop := fun xs H Q => ∃ (c : V) (cv : Value) (b : Bool), xs = [.ref a, c] ∧ clsOf c = some cv ∧ PySem.W.kitOne K cls cv = some b ∧ Q (.bl b) H
theorem isE {D a : Addr} {oe : Obj} (C : ExcC X.K D) (hp : (a, oe) ∈ X.pn) (hz : L2N.Zn cls dd oe) (hc : cls = .ref D) (hd : dd = none) (hf : ∃ vs, oe.data = .fields vs) : CallR X (.builtin "isinstance") (rIsEC X.K a cls) := by
  subst hc hd
  rintro pins s σ H xs us Q I r ⟨c, cv, b, rfl, hcv, e, q⟩
  obtain ⟨u1, u2, rfl, r1, r2⟩ := vals2 r
  cases r1
  have ec : u2 = cv := by
    cases c <;> simp only [clsOf, Option.some.injEq, reduceCtorEq] at hcv
    · rw [← hcv]; exact r2
    · rw [← hcv]; exact r2
  subst ec
  have hget := (I.pin (a, oe) (List.mem_append_left _ hp)).1
  have J : PySem.W.InstAt s.heap a oe D none := by
    obtain ⟨oc, od, oda, osl⟩ := oe
    obtain ⟨z1, z2, _⟩ := hz
    obtain ⟨vs, hv⟩ := hf
    dsimp only at z1 z2 hv
    subst z1 z2 hv
    exact ⟨hget, rfl, rfl, trivial⟩
  exact PySem.W.kia_one (PySem.W.handS_kitx_exc C.hg C.hk C.hs C.hd C.ha C.hn C.ht C.hm) I.kIn J e (fun z => nomatch z) fun tk => ⟨.bl b, H, I.kept (t' := tk) fun _ _ z => z, rfl, q⟩
theorem tkN {a' : Addr} {pn' : List (Addr × Obj)} : L2N.Takes (X.suite a' pn') (fun _ _ _ _ => False) := fun _ _ ⟨_, _, _, _, _, _, _, _, _, _, _, _, _, _, _, _, w⟩ => w.elim
theorem tkB {s : Shared} {H : Hp} {sc : Scope} {ce : Env} {fp : List Addr} : L2N.Takes (X.blk s H sc ce fp) (fun _ _ _ _ => False) := fun _ _ ⟨_, _, _, _, _, _, _, _, _, _, _, _, _, _, _, _, w⟩ => w.elim
end
/-- a def of the module for suites, by its body -/
theorem fn_calE {P : Program} {w : World} {K : PySem.W.Frag} {mg : Str → Option Value} {base : Heap} {x : Str} {st : Stmt} {N ps : List Str} {k : Nat} {sp : Addr → Value → Option Addr → Sp} (F : FnP K (x, none) x x st) (hm : mg x = some (.ref (He.ga K x))) (S : FnScope N ps (defScope st))
    (len : ∀ a c d vs H Q E, sp a c d vs H Q E → vs.length = ps.length)
    (hbd : ∀ (kV doc pm : Value) (an : Option Addr) (cdv ct : Value) (us : List Value), us.length = ps.length → bindArgs (PySem.W.fnOf x x (defArgs st) (defBody st) (defScope st) .none kV doc pm an cdv ct) ⟨us, []⟩ = pure (ps.zip us))
    (hbody : ∀ (f : Addr) (cdv : Value) (A : Around) (outer : List Env) (s : Shared) (H : Hp) (vs : List V) (Q : VK) (E : XK) (p : Addr × Obj) (c : Value) (d : Option Addr), Hot1 A p → L2N.Zn c d p.2 → RoomH k (A.deeper (envOfC x (defScope st) s.heap.objs.size f cdv)) → sp p.1 c d vs H Q E →
      ∃ t, PSs (cxH (L2N.CX P w) P w K mg base N x (defScope st) f cdv A outer s H E p) (defBody st) t ∧ t { nx := fun _ H' => Q .non H', rt := Q } (L2.start N vs) H) : CalE P w K mg base (k + 1) x sp := by
  obtain ⟨fd, F⟩ := F
  obtain ⟨oc, od, dV, kV, doc, pm, an, cdv, ct, osl, rfl, lk, hcd, _, _⟩ := F.ex
  exact ⟨_, _, ps, fn_ofE lk hcd S len fun A outer s H vs Q E p c d h1 h2 hr h => hbody _ cdv A outer s H vs Q E p c d h1 h2 hr h, hm, F.kp, F.bindsN hbd⟩
theorem roomS {j k : Nat} {A : Around} {x : Option Value} (hr : Room j A) (h : k ≤ j) : RoomH k (A.mark x) := ⟨(roomH_of (hr.mono h)).dp, (roomH_of (hr.mono h)).un⟩
end RP

/-! ### rules whose readings simp can reckon -/
namespace RP
open PySem PySem.Spec PyProof.Rows L2
section
variable {X : Cx} {e : Expr} {st : Stmt}
theorem pe_imp {t t' : TE} (h : PE X e t) (i : ∀ σ H Q, t' σ H Q → t σ H Q) : PE X e t' := ⟨fun pins s σ H Q I q => h.run pins s σ H Q I (i σ H Q q)⟩
theorem pt_imp {t t' : TT} (h : PT X e t) (i : ∀ σ H Q, t' σ H Q → t σ H Q) : PT X e t' := ⟨fun pins s σ H Q I q => h.run pins s σ H Q I (i σ H Q q)⟩
theorem ps_imp {t t' : TS} (h : PS X st t) (i : ∀ D σ H, t' D σ H → t D σ H) : PS X st t' := ⟨fun pins s σ H D I q => h.run pins s σ H D I (i D σ H q)⟩
theorem call_imp {f : Value} {r r' : List V → Hp → VK → Prop} (h : CallR X f r) (i : ∀ vs H Q, r' vs H Q → r vs H Q) : CallR X f r' := fun pins s σ H xs us Q I v q => h pins s σ H xs us Q I v (i xs H Q q)
theorem op_imp {f : Value → Value → Sem Value} {r r' : R2} (h : OpR X f r) (i : ∀ x y H Q, r' x y H Q → r x y H Q) : OpR X f r' := fun pins s σ H x y v u Q I rx ry q => h pins s σ H x y v u Q I rx ry (i x y H Q q)
theorem ix_imp {r r' : R2} (h : IxR X r) (i : ∀ x y H Q, r' x y H Q → r x y H Q) : IxR X r' := fun a b pins s σ H x y v u Q I rx ry q => h a b pins s σ H x y v u Q I rx ry (i x y H Q q)
end
/-! #### what stands at a value -/
def tyN (H : Hp) : V → Option String
  | .non => some "NoneType"
  | .bl _ => some "bool"
  | .int _ => some "int"
  | .str _ => some "str"
  | .ref a => match H a with
    | some (.lst _) => some "list"
    | some (.tup _) => some "tuple"
    | some (.dK _) => some "dict"
    | _ => none
  | _ => none
def seqO (H : Hp) (a : Addr) : Option (List V) := match H a with
  | some (.lst xs) => some xs
  | some (.tup xs) => some xs
  | some (.frz _ (.lst xs)) => some xs
  | _ => none
def keyV : V → Option Key
  | .int n => some (.inl n)
  | .str x => some (.inr x)
  | _ => none
theorem keyV_eq {v : V} {k : Key} (h : keyV v = some k) : v = kV k := by
  cases v <;> simp only [keyV, Option.some.injEq, reduceCtorEq] at h <;> subst h <;> rfl
theorem tyN_ok {K : PySem.W.Frag} {H : Hp} {x : V} {t : String} (h : tyN H x = some t) : TyX K H x (.type t) := by
  cases x with
  | non => cases h; exact .base .non
  | bl b => cases h; exact .base (.bl b)
  | int i => cases h; exact .base (.int i)
  | str s => cases h; exact .base (.str s)
  | byt b => cases h
  | flt b => cases h
  | ty n => cases h
  | ref a =>
    unfold tyN at h
    dsimp only at h
    split at h
    · cases h; exact .base (.lst (by assumption))
    · cases h; exact .base (.tup (by assumption))
    · cases h; exact .base (.dK (by assumption))
    · cases h
theorem seqO_ok {K : PySem.W.Frag} {H : Hp} {a : Addr} {xs : List V} (h : seqO H a = some xs) : SqL K H a xs ∨ SqT K H a xs := by
  unfold seqO at h
  split at h
  · cases h; exact .inl (SqL.of (by assumption))
  · cases h; exact .inr (SqT.of (by assumption))
  · cases h; exact .inl (.inl (.inr ⟨_, by assumption⟩))
  · cases h
section
variable {X : Cx}
def rIsC : List V → Hp → VK → Prop := fun vs H Q => ∃ x c t b, vs = [x, .ty c] ∧ tyN H x = some t ∧ kitB t c = some b ∧ Q (.bl b) H
theorem call_isC : CallR X (.builtin "isinstance") rIsC := call_imp call_isi fun vs H Q ⟨x, c, t, b, e, h1, h2, q⟩ => ⟨x, .ty c, .type t, .type c, b, e, .ty c, tyN_ok h1, kit_ty h2, q⟩
def lenO (H : Hp) (a : Addr) : Option Nat := match H a with
  | some (.dK kvs) => some kvs.length
  | _ => (seqO H a).map List.length
def rLenC : List V → Hp → VK → Prop := fun vs H Q => ∃ a n, vs = [.ref a] ∧ lenO H a = some n ∧ Q (.int (n : Int)) H
theorem call_lenC : CallR X (.builtin "len") rLenC := by
  intro pins s σ H xs us Q I r h
  obtain ⟨a, n, rfl, e, q⟩ := h
  unfold lenO at e
  split at e
  · cases e
    exact call_lenD pins s σ H _ us Q I r ⟨_, _, rfl, by assumption, q⟩
  · obtain ⟨ys, e1, rfl⟩ := Option.map_eq_some_iff.mp e
    exact call_len_seq pins s σ H _ us Q I r ⟨_, _, rfl, seqO_ok e1, q⟩
def rIxC : R2 := fun x y H Q => ∃ p xs i v, x = .ref p ∧ y = .int i ∧ seqO H p = some xs ∧ atI xs i = some v ∧ Q v H
theorem ix_C : IxR X rIxC := ix_imp (IxR.or ix_list ix_tup) fun x y H Q ⟨p, xs, i, v, e1, e2, h, a, q⟩ => (seqO_ok (K := X.K) h).elim (fun z => .inl ⟨p, xs, i, v, e1, e2, z, a, q⟩) fun z => .inr ⟨p, xs, i, v, e1, e2, z, a, q⟩
def rInC (neg : Bool) : R2 := fun x y H Q => ∃ p xs, y = .ref p ∧ seqO H p = some xs ∧ flatV x = true ∧ xs.all flatV = true ∧ Q (.bl (if neg then !inV x xs else inV x xs)) H
theorem op_inC : OpR X (compareOp .In) (rInC false) := op_imp op_in_seq fun x y H Q ⟨p, xs, e, h, f1, f2, q⟩ => ⟨p, xs, e, seqO_ok h, f1, f2, q⟩
theorem op_notInC : OpR X (compareOp .NotIn) (rInC true) := op_imp op_notIn_seq fun x y H Q ⟨p, xs, e, h, f1, f2, q⟩ => ⟨p, xs, e, seqO_ok h, f1, f2, q⟩
/-! #### dicts with keys that are ints or texts -/
variable {a b o i value : Expr} {pos pos' apos cpos : Pos} {td ty tv te : TE}
def tInD (neg : Bool) (ty td : TE) : TE := fun σ H Q => ty σ H fun y H1 => td σ H1 fun x H2 => ∃ a kvs k, x = .ref a ∧ H2 a = some (.dK kvs) ∧ keyV y = some k ∧ Q (.bl (if neg then !(valV kvs k).isSome else (valV kvs k).isSome)) H2
theorem pc_imp {op : CmpOp} {t t' : TE} (h : PC X op a b t) (i : ∀ σ H Q, t' σ H Q → t σ H Q) : PC X op a b t' := ⟨fun pins s σ H Q I q => h.run pins s σ H Q I (i σ H Q q)⟩
/-- what must hold, by a wish that is less -/
def tMn (t : TE) : TE := fun σ H Q => ∃ R : VK, t σ H R ∧ ∀ x H1, R x H1 → Q x H1
theorem pe_mn {t : TE} (h : PE X a t) : PE X a (tMn t) := ⟨fun pins s σ H Q I ⟨R, r, m⟩ => thn (h.run pins s σ H R I r) fun u s1 ⟨v, H1, I1, rv, q⟩ => ⟨v, H1, I1, rv, m _ _ q⟩⟩
def tMnA (t : TA) : TA := fun σ H Q => ∃ R : List V → Hp → Prop, t σ H R ∧ ∀ x H1, R x H1 → Q x H1
theorem getK {H : Hp} {a : Addr} {kvs : List (Key × V)} {k : Key} {y : V} (e : H a = some (.dK kvs)) (h : keyV y = some k) : DGet H a y (valV kvs k) := by
  rw [keyV_eq h]
  exact DGet.k e
theorem pc_inD (hu : X.A.units + 1 < cLine) (hi : PE X i ty) (ho : PE X o td) : PC X .In i o (tInD false ty td) :=
  pc_imp (pc_din hu (pe_mn hi) (pe_mn ho)) fun σ H Q h => ⟨_, h, fun y H1 q => ⟨_, q, fun x H2 ⟨a, kvs, k, e, ea, ek, q⟩ => ⟨a, _, e, getK ea ek, q⟩⟩⟩
theorem pc_notinD (hu : X.A.units + 1 < cLine) (hi : PE X i ty) (ho : PE X o td) : PC X .NotIn i o (tInD true ty td) :=
  pc_imp (pc_dnotin hu (pe_mn hi) (pe_mn ho)) fun σ H Q h => ⟨_, h, fun y H1 q => ⟨_, q, fun x H2 ⟨a, kvs, k, e, ea, ek, q⟩ => ⟨a, _, e, getK ea ek, q⟩⟩⟩
def tGetD (td ty : TE) : TE := fun σ H Q => td σ H fun x H1 => ty σ H1 fun y H2 => ∃ a kvs k v, x = .ref a ∧ H2 a = some (.dK kvs) ∧ keyV y = some k ∧ valV kvs k = some v ∧ Q v H2
theorem pe_getD (hu : X.A.units + 1 < cLine) (ho : PE X o td) (hi : PE X i ty) (hs : NoSl i) : PE X (.Subscript o i pos) (tGetD td ty) :=
  pe_imp (pe_dget hu (pe_mn ho) (pe_mn hi) hs) fun σ H Q h => ⟨_, h, fun y H1 q => ⟨_, q, fun x H2 ⟨a, kvs, k, v, e, ea, ek, ev, q⟩ => ⟨a, v, e, ev ▸ getK ea ek, q⟩⟩⟩
def sPutD (td ty tv : TE) : TS := fun D σ H => tv σ H fun v H1 => td σ H1 fun x H2 => ty σ H2 fun y H3 => ∃ a kvs k, x = .ref a ∧ H3 a = some (.dK kvs) ∧ keyV y = some k ∧ kvs.length < sizeLine ∧ D.nx σ (upd H3 a (.dK (putK kvs k v)))
theorem ps_putD (hu : X.A.units + 1 < cLine) (ho : PE X o td) (hi : PE X i ty) (hv : PE X value tv) (hs : swapsWith value (some (.Subscript o i pos')) pos.line X.env = pure false) :
    PS X (.Assign [.Subscript o i pos'] value pos) (sPutD td ty tv) :=
  ps_imp (ps_dput hu (pe_mn ho) (pe_mn hi) (pe_mn hv) hs) fun D σ H h => ⟨_, h, fun v H1 q => ⟨_, q, fun x H2 q => ⟨_, q, fun y H3 ⟨a, kvs, k, e, ea, ek, hl, q⟩ => ⟨a, _, e, by rw [keyV_eq ek]; exact DPut.k ea hl, q⟩⟩⟩⟩
def tPopD (td ty : TE) : TE := fun σ H Q => td σ H fun x H1 => ∃ a kvs, x = .ref a ∧ H1 a = some (.dK kvs) ∧ ty σ H1 fun y H2 => ∃ kvs k v, H2 a = some (.dK kvs) ∧ keyV y = some k ∧ valV kvs k = some v ∧ Q v (upd H2 a (.dK (dropK kvs k)))
theorem pe_popD (ho : PE X o td) (he : PE X e ty) (m : M1 X o "pop" apos e cpos) : PE X (.Call (.Attribute o "pop" apos) [e] [] cpos) (tPopD td ty) :=
  pe_imp (pe_dpop1 (pe_mn ho) (pe_mn he) m) fun σ H Q h => ⟨_, h, fun x H1 ⟨a, kvs, e, ea, q⟩ => ⟨a, e, (.inl ⟨kvs, .inl ea⟩), ⟨_, q, fun y H2 ⟨kvs, k, v, e2, ek, ev, q⟩ => ⟨kvs, k, v, e2, keyV_eq ek, ev, q⟩⟩⟩⟩
/-! #### lists -/
variable {tl : TE} {t : TA} {es : List Expr}
def tAppC (tl te : TE) : TE := fun σ H Q => tl σ H fun x H1 => ∃ l ys, x = .ref l ∧ H1 l = some (.lst ys) ∧ te σ H1 fun y H2 => ∃ xs, H2 l = some (.lst xs) ∧ xs.length < sizeLine ∧ Q .non (upd H2 l (.lst (xs ++ [y])))
theorem pe_app (hl : PE X o tl) (he : PE X e te) (hbase : attributeBase o "append" X.env (eval o X.env) = eval o X.env := by rfl)
    (hfew : ((backTo cpos (starEach [e] X.env)).all (fun x => !x.1) && (backToKw cpos (keywordEach [] X.env)).all (fun x => x.1.isSome) && decide (([e] : List Expr).length + ([] : List Keyword).length + (if ([] : List Keyword).isEmpty then 0 else 1) < 30)) = true := by rfl)
    (hline : (apos.endLine == cpos.line) = true := by rfl) (hs : starEach [e] X.env = (false, eval e X.env) :: starEach [] X.env := by rfl) (hplain : (backTo cpos (starEach [] X.env)).any (·.1) = false := by rfl) :
    PE X (.Call (.Attribute o "append" apos) [e] [] cpos) (tAppC tl te) :=
  pe_imp (pe_bm PySem.F.plainAttrs_list PySem.F.slot_list_append PySem.F.type_list_append mt_append (pe_mn hl) (pa_cons (pe_mn he) pa_nil hs) hbase hfew hline hs hplain)
    fun σ H Q h => ⟨_, h, fun x H1 ⟨l, ys, e1, e2, q⟩ => ⟨by rw [e1]; exact .inl ⟨rfl, _, SqL.of e2⟩, ⟨_, q, fun y H2 ⟨xs, e3, z, q⟩ => ⟨l, xs, y, e1, rfl, e3, z, q⟩⟩⟩⟩
/-! #### data, compared -/
def mapO (f : V → Option PyData) : List V → Option (List PyData)
  | [] => some []
  | v :: r => match f v, mapO f r with
    | some d, some ds => some (d :: ds)
    | _, _ => none
def dat (H : Hp) : Nat → V → Option PyData
  | _, .non => some .none
  | _, .bl b => some (.bool b)
  | _, .int i => some (.int i)
  | _, .str x => some (.str x)
  | n + 1, .ref a => match H a with
    | some (.lst xs) => (mapO (dat H n) xs).map PyData.list
    | some (.tup xs) => (mapO (dat H n) xs).map PyData.tuple
    | some (.frz _ (.lst xs)) => (mapO (dat H n) xs).map PyData.list
    | _ => none
  | _, _ => none
theorem mapO_ok {K : PySem.W.Frag} {H : Hp} {f : V → Option PyData} (hf : ∀ v d, f v = some d → Dp K H v d) : ∀ {xs : List V} {ds : List PyData}, mapO f xs = some ds → DpAll K H xs ds
  | [], ds, h => by cases h; exact .nil
  | v :: r, ds, h => by
    unfold mapO at h
    split at h
    · rename_i d ds' h1 h2
      cases h
      exact .cons (hf _ _ h1) (mapO_ok hf h2)
    · cases h
theorem dat_ok {K : PySem.W.Frag} {H : Hp} : ∀ (n : Nat) (v : V) (d : PyData), dat H n v = some d → Dp K H v d
  | _, .non, d, h => by
    unfold dat at h
    cases h
    exact .non
  | _, .bl b, d, h => by
    unfold dat at h
    cases h
    exact .bl b
  | _, .int i, d, h => by
    unfold dat at h
    cases h
    exact .int i
  | _, .str x, d, h => by
    unfold dat at h
    cases h
    exact .str x
  | 0, .ref a, d, h => by
    unfold dat at h
    cases h
  | n + 1, .ref a, d, h => by
    unfold dat at h
    split at h
    · obtain ⟨ds, e, rfl⟩ := Option.map_eq_some_iff.mp h
      exact .lst (SqL.of (by assumption)) (mapO_ok (dat_ok n) e)
    · obtain ⟨ds, e, rfl⟩ := Option.map_eq_some_iff.mp h
      exact .tup (SqT.of (by assumption)) (mapO_ok (dat_ok n) e)
    · obtain ⟨ds, e, rfl⟩ := Option.map_eq_some_iff.mp h
      exact .lst (.inl (.inr ⟨_, by assumption⟩)) (mapO_ok (dat_ok n) e)
    · cases h
  | 0, .byt b, d, h => by unfold dat at h; cases h
  | 0, .flt b, d, h => by unfold dat at h; cases h
  | 0, .ty n, d, h => by unfold dat at h; cases h
  | _ + 1, .byt b, d, h => by unfold dat at h; cases h
  | _ + 1, .flt b, d, h => by unfold dat at h; cases h
  | _ + 1, .ty n, d, h => by unfold dat at h; cases h
def rEqC (neg : Bool) : R2 := fun x y H Q => ∃ d e, dat H 8 x = some d ∧ dat H 8 y = some e ∧ SeqAt.shaped d = true ∧ SeqAt.shaped e = true ∧ Q (.bl (if neg then !PyData.eqv d e else PyData.eqv d e)) H
theorem op_eqC (hu : X.A.units + 64 < cLine) : OpR X (compareOp .Eq) (rEqC false) := op_imp (op_eqD hu) fun x y H Q ⟨d, e, h1, h2, s1, s2, q⟩ => ⟨d, e, dat_ok _ _ _ h1, dat_ok _ _ _ h2, s1, s2, q⟩
theorem op_neC (hu : X.A.units + 64 < cLine) : OpR X (compareOp .NotEq) (rEqC true) := op_imp (op_neD hu) fun x y H Q ⟨d, e, h1, h2, s1, s2, q⟩ => ⟨d, e, dat_ok _ _ _ h1, dat_ok _ _ _ h2, s1, s2, q⟩
/-! #### text * int -/
theorem op_mul_str : OpR X (binaryOp .Mult) (fun x y H Q => ∃ z n, x = .str z ∧ y = .int n ∧ MulOk z n ∧ Q (.str (Txt.mul z n)) H) := by
  rintro pins s σ H x y v u Q I rx ry ⟨z, n, rfl, rfl, hz, q⟩
  obtain ⟨t, rfl⟩ := rx
  obtain ⟨t', rfl⟩ := ry
  exact SB.mul hz fun t1 k => ⟨.str (Txt.mul z n), H, I.tok _, ⟨_, rfl⟩, q⟩
/-! #### is, is not of truth values -/
end
/-! #### min of three, of four -/
section
variable {prog : Program} {w : World} {A : Around} {E : Value → Shared → Prop} {s : Shared}
theorem call_min_of {us : List Value} (hsz : sizeOk (.seq us.toArray)) (ha : argsOk "min" ⟨us, []⟩) (hp : ∀ s : Shared, (Builtin.Builtins.bindParams "min" ["key", "default"] 0 ⟨[], []⟩) = pure [none, none]) {a b : Value} {r : List Value} (hus : us = a :: b :: r) {Q : Value → Shared → Prop}
    (h : wpAny (model prog w) A.in1 (pyIter (.ref s.heap.objs.size)) (fun it s₂ => ∃ I fp wr n P St bt, it = .ref I ∧ Walks prog w A.in1 I fp wr n P St ∧ St 0 s₂.heap ∧ (∀ b ∈ fp, b < s₂.heap.objs.size) ∧ 0 < n ∧ CmpOf prog w A.in1 .Lt P bt ∧
      ∀ v h' tk, P (argBest bt (n - 1)) v → (∀ b o, b ∉ wr → s₂.heap.get? b = some o → h'.get? b = some o) → Q v { s₂ with heap := h', toks := tk }) E
      { s with heap := s.heap.push { cls := .type "tuple", data := .seq us.toArray } }) :
    wpAny (model prog w) A (call (.builtin "min") us) Q E s := by
  subst hus
  have hname : (toString "min" ++ toString ".loop" : String) = "min.loop" := by decide
  refine call_function_tree F.kind_min F.plain_min F.entry_min ha ?_
  show wpAny _ A.in1 (Builtin.Builtins.bindParams "min" ["key", "default"] 0 ⟨[], []⟩ >>= _) _ _ s
  refine wpAny_bind (wpAny_of_eq (hp s) ?_)
  show wpAny _ A.in1 (newTuple (a :: b :: r) >>= _) _ _ s
  refine wpAny_bind (wpAny_newObj_type ?_ hsz)
  refine wpAny_bind (wpAny_mono h (fun it s₂ h₂ => ?_) fun _ _ e => e)
  obtain ⟨I, fp, wr, n, P, St, bt, rfl, W, hst, hfp, hn, hcmp, hQ⟩ := h₂
  refine wpAny_bind (wpAny_newObj_type ?_)
  have hSf : s₂.heap.objs.size ∉ fp := fun hm => Nat.lt_irrefl _ (hfp _ hm)
  rw [hname]
  refine wpAny_pure ⟨plainId_quiet F.plain_min_loop _, codeAny_min_loop_first W bt hcmp s₂.heap.objs.size hSf hn (W.frame _ _ _ hst fun b _ o e => Heap.get?_push_of_some _ e) (Heap.get?_push_size _ rfl) fun v h' tk hP hk => ?_⟩
  exact hQ v h' tk hP fun b o hbw e => hk b o hbw (Nat.ne_of_lt (Heap.lt_size e)) (Heap.get?_push_of_some _ e)
theorem min_walk {xs : Array (Int × Tok)} {us : List Value} (hxs : (intItems xs).toList = us) (hsz : sizeOk (.seq us.toArray)) (ha : argsOk "min" ⟨us, []⟩) {a b : Value} {r : List Value} (hus : us = a :: b :: r) (hh : A.handled = none) {Q : Value → Shared → Prop}
    (h : ∀ v h' tk, (intItems xs)[argBest (fun i j => decide (numAt xs i < numAt xs j)) (xs.size - 1)]? = some v → (∀ c o, s.heap.get? c = some o → h'.get? c = some o) → Q v { s with heap := h', toks := tk }) :
    wpAny (model prog w) A (call (.builtin "min") us) Q E s := by
  have hu : us.toArray = intItems xs := by rw [← hxs]
  have hT : (s.heap.push { cls := .type "tuple", data := .seq us.toArray }).IsTuple s.heap.objs.size (intItems xs) := ⟨_, Heap.get?_push_size _ rfl, rfl, 0, by rw [hu]⟩
  have hn : 0 < (intItems xs).size := by rw [← hu, hus]; simp
  refine call_min_of hsz ha (fun _ => rfl) hus (wpAny_pyIter_tuple hT ?_)
  have hs1 : (s.heap.push { cls := .type "tuple", data := .seq us.toArray }).objs.size = s.heap.objs.size + 1 := Heap.size_push ..
  refine ⟨_, [_, s.heap.objs.size], [_], _, _, _, _, rfl, Walks.tuple (A := A.in1) hh _ s.heap.objs.size (by rw [hs1]; exact Nat.ne_of_lt (Nat.lt_succ_self _)) (intItems xs),
    ⟨⟨_, Heap.get?_push_size _ rfl, rfl, rfl⟩, hT.push _⟩, fun c hc => ?_, hn, CmpOf.ints_lt (numAt xs) (fun _ _ => intItems_at), fun v h' tk hP hk => ?_⟩
  · show c < ((s.heap.push _).push _).objs.size
    rw [Heap.size_push, hs1]
    simp only [List.mem_cons, List.not_mem_nil, or_false, hs1] at hc
    rcases hc with rfl | rfl
    · exact Nat.lt_succ_self _
    · exact Nat.lt_succ_of_lt (Nat.lt_succ_self _)
  · refine h v h' tk (by simpa [intItems] using hP) fun c o e => hk c o (fun hm => ?_) (Heap.get?_push_of_some _ (Heap.get?_push_of_some _ e))
    have hlt := Heap.lt_size e
    simp only [List.mem_cons, List.not_mem_nil, or_false, hs1] at hm
    rw [hm] at hlt
    exact Nat.lt_irrefl _ (Nat.lt_of_succ_lt hlt)
def mn2 (a b : Int) : Int := if b < a then b else a
theorem args_min3 (a b c : Value) : argsOk "min" ⟨[a, b, c], []⟩ := by unfold argsOk; kernel_rfl
theorem args_min4 (a b c d : Value) : argsOk "min" ⟨[a, b, c, d], []⟩ := by unfold argsOk; kernel_rfl
theorem min_three {a b c : Int} {t u v : Tok} {Q : Value → Shared → Prop} (hh : A.handled = none)
    (h : ∀ h' tk z, (∀ c o, s.heap.get? c = some o → h'.get? c = some o) → Q (.int (mn2 (mn2 a b) c) z) { s with heap := h', toks := tk }) :
    wpAny (model prog w) A (call (.builtin "min") [.int a t, .int b u, .int c v]) Q E s := by
  refine min_walk (us := [.int a t, .int b u, .int c v]) (xs := #[(a, t), (b, u), (c, v)]) (by simp [intItems]) (by size_fits) (args_min3 _ _ _) rfl hh fun r h' tk hr hk => ?_
  have e : ∃ z, r = .int (mn2 (mn2 a b) c) z := by
    unfold mn2
    by_cases h1 : b < a <;> by_cases h2 : c < b <;> by_cases h3 : c < a <;> simp [intItems, argBest, numAt, h1, h2, h3] at hr ⊢ <;> subst hr <;> exact ⟨_, rfl⟩
  obtain ⟨z, rfl⟩ := e
  exact h h' tk z hk
theorem min_four {a b c d : Int} {t u v y : Tok} {Q : Value → Shared → Prop} (hh : A.handled = none)
    (h : ∀ h' tk z, (∀ c o, s.heap.get? c = some o → h'.get? c = some o) → Q (.int (mn2 (mn2 (mn2 a b) c) d) z) { s with heap := h', toks := tk }) :
    wpAny (model prog w) A (call (.builtin "min") [.int a t, .int b u, .int c v, .int d y]) Q E s := by
  refine min_walk (us := [.int a t, .int b u, .int c v, .int d y]) (xs := #[(a, t), (b, u), (c, v), (d, y)]) (by simp [intItems]) (by size_fits) (args_min4 _ _ _ _) rfl hh fun r h' tk hr hk => ?_
  have e : ∃ z, r = .int (mn2 (mn2 (mn2 a b) c) d) z := by
    unfold mn2
    by_cases h1 : b < a <;> by_cases h2 : c < b <;> by_cases h3 : c < a <;> by_cases h4 : d < a <;> by_cases h5 : d < b <;> by_cases h6 : d < c <;> simp [intItems, argBest, numAt, h1, h2, h3, h4, h5, h6] at hr ⊢ <;> subst hr <;> exact ⟨_, rfl⟩
  obtain ⟨z, rfl⟩ := e
  exact h h' tk z hk
end
section
variable {X : Cx}
theorem call_min3 (hc : X.calm = true) : CallR X (.builtin "min") (fun xs H Q => ∃ i j k, xs = [.int i, .int j, .int k] ∧ Q (.int (mn2 (mn2 i j) k)) H) := by
  rintro pins s σ H xs us Q I r ⟨i, j, k, rfl, q⟩
  cases r with
  | cons r1 r => cases r with
    | cons r2 r => cases r with
      | cons r3 r =>
        cases r
        obtain ⟨t1, rfl⟩ := r1
        obtain ⟨t2, rfl⟩ := r2
        obtain ⟨t3, rfl⟩ := r3
        exact min_three (I.ok.hd hc) fun h' tk z kp => ⟨.int _, H, I.kept kp, ⟨_, rfl⟩, q⟩
theorem call_min4 (hc : X.calm = true) : CallR X (.builtin "min") (fun xs H Q => ∃ i j k l, xs = [.int i, .int j, .int k, .int l] ∧ Q (.int (mn2 (mn2 (mn2 i j) k) l)) H) := by
  rintro pins s σ H xs us Q I r ⟨i, j, k, l, rfl, q⟩
  cases r with
  | cons r1 r => cases r with
    | cons r2 r => cases r with
      | cons r3 r => cases r with
        | cons r4 r =>
          cases r
          obtain ⟨t1, rfl⟩ := r1
          obtain ⟨t2, rfl⟩ := r2
          obtain ⟨t3, rfl⟩ := r3
          obtain ⟨t4, rfl⟩ := r4
          exact min_four (I.ok.hd hc) fun h' tk z kp => ⟨.int _, H, I.kept kp, ⟨_, rfl⟩, q⟩
end
end RP

/-! ### readings, reckoned by simp: one theorem of equations -/
namespace RP
open PySem PySem.Spec PyProof.Rows L2
theorem RDa :
    (∀ (i : Nat) (σ : L2.St) (H : Hp) (Q : VK), tVar i σ H Q = ∃ v, σ[i]? = some (some v) ∧ Q v H) ∧
    (∀ (v : V) (σ : L2.St) (H : Hp) (Q : VK), tC v σ H Q = Q v H) ∧
    (∀ (r : R2) (ta tb : TE) (σ : L2.St) (H : Hp) (Q : VK), tOp r ta tb σ H Q = ta σ H fun x H1 => tb σ H1 fun y H2 => r x y H2 Q) ∧
    (∀ (r : V → Hp → VK → Prop) (ta : TE) (σ : L2.St) (H : Hp) (Q : VK), tUn r ta σ H Q = ta σ H fun x H1 => r x H1 Q) ∧
    (∀ (C : Int → Int → Prop) (g : Int → Int → V) (x y : V) (H : Hp) (Q : VK), rI C g x y H Q = ∃ i j, x = .int i ∧ y = .int j ∧ C i j ∧ Q (g i j) H) ∧
    (∀ (g : Int → Int → V) (x y : V) (H : Hp) (Q : VK), rI0 g x y H Q = ∃ i j, x = .int i ∧ y = .int j ∧ Q (g i j) H) ∧
    (∀ (g : Int → V) (x : V) (H : Hp) (Q : VK), rU g x H Q = ∃ i, x = .int i ∧ Q (g i) H) ∧
    (∀ (t : TE) (σ : L2.St) (H : Hp) (Q : Bool → Hp → Prop), tB t σ H Q = t σ H fun x H1 => ∃ c, x = .bl c ∧ Q c H1) ∧
    (∀ (t : TE) (σ : L2.St) (H : Hp) (Q : Bool → Hp → Prop), tTest t σ H Q = t σ H fun x H1 => ∃ c, x = .bl c ∧ Q c H1) ∧
    (∀ (t u : TT) (σ : L2.St) (H : Hp) (Q : Bool → Hp → Prop), tAnd t u σ H Q = t σ H fun c H1 => if c = true then u σ H1 Q else Q false H1) ∧
    (∀ (t u : TT) (σ : L2.St) (H : Hp) (Q : Bool → Hp → Prop), tOr t u σ H Q = t σ H fun c H1 => if c = true then Q true H1 else u σ H1 Q) ∧
    (∀ (t : TT) (σ : L2.St) (H : Hp) (Q : Bool → Hp → Prop), tNot t σ H Q = t σ H fun c H1 => Q (!c) H1) ∧
    (∀ (ta tb : TE) (σ : L2.St) (H : Hp) (Q : VK), tAndV ta tb σ H Q = ta σ H fun x H1 => ∃ c, x = .bl c ∧ if c = true then tb σ H1 Q else Q (.bl false) H1) ∧
    (∀ (ta tb : TE) (σ : L2.St) (H : Hp) (Q : VK), tOrV ta tb σ H Q = ta σ H fun x H1 => ∃ c, x = .bl c ∧ if c = true then Q (.bl true) H1 else tb σ H1 Q) ∧
    (∀ (ta : TE) (σ : L2.St) (H : Hp) (Q : VK), tNotV ta σ H Q = ta σ H fun x H1 => ∃ c, x = .bl c ∧ Q (.bl (!c)) H1) ∧
    (∀ (t : TT) (ta tb : TE) (σ : L2.St) (H : Hp) (Q : VK), tIf t ta tb σ H Q = t σ H fun c H1 => if c = true then ta σ H1 Q else tb σ H1 Q) ∧
    (∀ (r r' : R2) (ta tb tc : TE) (σ : L2.St) (H : Hp) (Q : VK), tChain r r' ta tb tc σ H Q = ta σ H fun x H1 => tb σ H1 fun y H2 => r x y H2 fun z H3 => ∃ k, z = .bl k ∧ (if k = true then tc σ H3 fun w' H4 => r' y w' H4 Q else Q (.bl false) H3)) ∧
    (∀ (D : Ends) (σ : L2.St) (H : Hp), tNext D σ H = D.nx σ H) ∧
    (∀ (t u : TS) (D : Ends) (σ : L2.St) (H : Hp), tSeq t u D σ H = t { D with nx := u D } σ H) ∧
    (∀ (te : TE) (D : Ends) (σ : L2.St) (H : Hp), tDrop te D σ H = te σ H fun _ H1 => D.nx σ H1) ∧
    (∀ (te : TE) (D : Ends) (σ : L2.St) (H : Hp), tRet te D σ H = te σ H D.rt) ∧
    (∀ (D : Ends) (σ : L2.St) (H : Hp), tRetN D σ H = D.rt .non H) ∧
    (∀ (c : TT) (t u : TS) (D : Ends) (σ : L2.St) (H : Hp), tIfS c t u D σ H = c σ H fun b H1 => if b = true then t D σ H1 else u D σ H1) ∧
    (∀ (te : TE) (g : TG) (D : Ends) (σ : L2.St) (H : Hp), tAsg te g D σ H = te σ H fun x H1 => g x σ H1 D.nx) ∧
    (∀ (i : Nat) (v : V) (σ : L2.St) (H : Hp) (Q : L2.St → Hp → Prop), gName i v σ H Q = Q (σ.set i (some v)) H) ∧
    (∀ (vs : List V) (σ : L2.St) (H : Hp) (Q : L2.St → Hp → Prop), gNil vs σ H Q = (vs = [] ∧ Q σ H)) ∧
    (∀ (t : TG) (u : TGs) (vs : List V) (σ : L2.St) (H : Hp) (Q : L2.St → Hp → Prop), gCons t u vs σ H Q = ∃ v r, vs = v :: r ∧ t v σ H fun σ' H' => u r σ' H' Q) ∧
    (∀ (to ti : TE) (t : TSet) (v : V) (σ : L2.St) (H : Hp) (Q : L2.St → Hp → Prop), gSub to ti t v σ H Q = to σ H fun o H1 => ti σ H1 fun i H2 => t o i v H2 fun H3 => Q σ H3) :=
  ⟨fun _ _ _ _ => rfl, fun _ _ _ _ => rfl, fun _ _ _ _ _ _ => rfl, fun _ _ _ _ _ => rfl, fun _ _ _ _ _ _ => rfl, fun _ _ _ _ _ => rfl, fun _ _ _ _ => rfl, fun _ _ _ _ => rfl, fun _ _ _ _ => rfl, fun _ _ _ _ _ => rfl, fun _ _ _ _ _ => rfl, fun _ _ _ _ => rfl, fun _ _ _ _ _ => rfl,
   fun _ _ _ _ _ => rfl, fun _ _ _ _ => rfl, fun _ _ _ _ _ _ => rfl, fun _ _ _ _ _ _ _ _ => rfl, fun _ _ _ => rfl, fun _ _ _ _ _ => rfl, fun _ _ _ _ => rfl, fun _ _ _ _ => rfl, fun _ _ _ => rfl, fun _ _ _ _ _ _ => rfl, fun _ _ _ _ _ => rfl, fun _ _ _ _ _ => rfl, fun _ _ _ _ => rfl, fun _ _ _ _ _ _ => rfl, fun _ _ _ _ _ _ _ => rfl⟩
theorem RDb :
    (∀ (K : PySem.W.Frag) (ta : TE) (f : Str) (σ : L2.St) (H : Hp) (Q : VK), tFld K ta f σ H Q = ta σ H fun x H1 => ∃ a C dx fs v, x = .ref a ∧ H1 a = some (.ins C dx fs) ∧ Cls K C ∧ NoAttr K C f ∧ fs.lookup f = some v ∧ Q v H1) ∧
    (∀ (K : PySem.W.Frag) (ta tv : TE) (f : Str) (D : Ends) (σ : L2.St) (H : Hp), sFld K ta tv f D σ H = tv σ H fun y H1 => ta σ H1 fun x H2 => ∃ a C dx fs, x = .ref a ∧ H2 a = some (.ins C dx fs) ∧ Cls K C ∧ NoAttr K C f ∧ fs.length < 1000 ∧ D.nx σ (upd H2 a (.ins C dx (putF f y fs)))) ∧
    (∀ (σ : L2.St) (H : Hp) (Q : List V → Hp → Prop), tNil σ H Q = Q [] H) ∧
    (∀ (ta : TE) (tr : TA) (σ : L2.St) (H : Hp) (Q : List V → Hp → Prop), tCons ta tr σ H Q = ta σ H fun x H1 => tr σ H1 fun xs H2 => Q (x :: xs) H2) ∧
    (∀ (t : TA) (σ : L2.St) (H : Hp) (Q : VK), tTup t σ H Q = t σ H fun xs H1 => xs.length ≤ sizeLine ∧ ∀ p, H1 p = none → Q (.ref p) (upd H1 p (.tup xs))) ∧
    (∀ (t : TA) (σ : L2.St) (H : Hp) (Q : VK), tLst t σ H Q = t σ H fun xs H1 => xs.length ≤ sizeLine ∧ ∀ p, H1 p = none → Q (.ref p) (upd H1 p (.lst xs))) ∧
    (∀ (r : List V → Hp → VK → Prop) (t : TA) (σ : L2.St) (H : Hp) (Q : VK), tCB r t σ H Q = t σ H fun vs H1 => r vs H1 Q) ∧
    (∀ (sp : Sp) (E : L2.St → XK) (t : TA) (σ : L2.St) (H : Hp) (Q : VK), tCallS sp E t σ H Q = t σ H fun vs H1 => sp vs H1 Q (E σ)) ∧
    (∀ (C : Addr) (m : Str) (sp : Sp) (E : L2.St → XK) (ta : TE) (t : TA) (σ : L2.St) (H : Hp) (Q : VK), tMethS C m sp E ta t σ H Q = ta σ H fun x H1 => ∃ a dx fs, x = .ref a ∧ H1 a = some (.ins C dx fs) ∧ fs.lookup m = none ∧ t σ H1 fun vs H2 => sp (x :: vs) H2 Q (E σ)) ∧
    (∀ (C : Addr) (sp : Sp) (E : L2.St → XK) (t : TA) (σ : L2.St) (H : Hp) (Q : VK), tMakeS C sp E t σ H Q = t σ H fun vs H1 => ∀ x dx, H1 x = none → H1 dx = none → dx ≠ x → sp (.ref x :: vs) (upd (upd H1 dx (.own x)) x (.ins C dx [])) (fun v H2 => v = .non ∧ Q (.ref x) H2) (E σ)) ∧
    (∀ (x y : V) (H : Hp) (Q : VK), rEq x y H Q = (scal x y = true ∧ Q (.bl (decide (x = y))) H)) ∧
    (∀ (x y : V) (H : Hp) (Q : VK), rNe x y H Q = (scal x y = true ∧ Q (.bl (!decide (x = y))) H)) ∧
    (∀ (i j : Int), scal (.int i) (.int j) = true) ∧ (∀ (i j : Str), scal (.str i) (.str j) = true) ∧ (∀ (i j : Bool), scal (.bl i) (.bl j) = true) ∧
    (∀ (vs : List V) (H : Hp) (Q : VK), rIsC vs H Q = ∃ x c t b, vs = [x, .ty c] ∧ tyN H x = some t ∧ kitB t c = some b ∧ Q (.bl b) H) ∧
    (∀ (vs : List V) (H : Hp) (Q : VK), rLenC vs H Q = ∃ a n, vs = [.ref a] ∧ lenO H a = some n ∧ Q (.int (n : Int)) H) ∧
    (∀ (x y : V) (H : Hp) (Q : VK), rIxC x y H Q = ∃ p xs i v, x = .ref p ∧ y = .int i ∧ seqO H p = some xs ∧ atI xs i = some v ∧ Q v H) ∧
    (∀ (neg : Bool) (x y : V) (H : Hp) (Q : VK), rInC neg x y H Q = ∃ p xs, y = .ref p ∧ seqO H p = some xs ∧ flatV x = true ∧ xs.all flatV = true ∧ Q (.bl (if neg then !inV x xs else inV x xs)) H) ∧
    (∀ (neg : Bool) (x y : V) (H : Hp) (Q : VK), rEqC neg x y H Q = ∃ d e, dat H 8 x = some d ∧ dat H 8 y = some e ∧ SeqAt.shaped d = true ∧ SeqAt.shaped e = true ∧ Q (.bl (if neg then !PyData.eqv d e else PyData.eqv d e)) H) ∧
    (∀ (neg : Bool) (ty td : TE) (σ : L2.St) (H : Hp) (Q : VK), tInD neg ty td σ H Q = ty σ H fun y H1 => td σ H1 fun x H2 => ∃ a kvs k, x = .ref a ∧ H2 a = some (.dK kvs) ∧ keyV y = some k ∧ Q (.bl (if neg then !(valV kvs k).isSome else (valV kvs k).isSome)) H2) ∧
    (∀ (td ty : TE) (σ : L2.St) (H : Hp) (Q : VK), tGetD td ty σ H Q = td σ H fun x H1 => ty σ H1 fun y H2 => ∃ a kvs k v, x = .ref a ∧ H2 a = some (.dK kvs) ∧ keyV y = some k ∧ valV kvs k = some v ∧ Q v H2) ∧
    (∀ (td ty tv : TE) (D : Ends) (σ : L2.St) (H : Hp), sPutD td ty tv D σ H = tv σ H fun v H1 => td σ H1 fun x H2 => ty σ H2 fun y H3 => ∃ a kvs k, x = .ref a ∧ H3 a = some (.dK kvs) ∧ keyV y = some k ∧ kvs.length < sizeLine ∧ D.nx σ (upd H3 a (.dK (putK kvs k v)))) ∧
    (∀ (td ty : TE) (σ : L2.St) (H : Hp) (Q : VK), tPopD td ty σ H Q = td σ H fun x H1 => ∃ a kvs, x = .ref a ∧ H1 a = some (.dK kvs) ∧ ty σ H1 fun y H2 => ∃ kvs k v, H2 a = some (.dK kvs) ∧ keyV y = some k ∧ valV kvs k = some v ∧ Q v (upd H2 a (.dK (dropK kvs k)))) ∧
    (∀ (tl te : TE) (σ : L2.St) (H : Hp) (Q : VK), tAppC tl te σ H Q = tl σ H fun x H1 => ∃ l ys, x = .ref l ∧ H1 l = some (.lst ys) ∧ te σ H1 fun y H2 => ∃ xs, H2 l = some (.lst xs) ∧ xs.length < sizeLine ∧ Q .non (upd H2 l (.lst (xs ++ [y])))) ∧
    (∀ (σ : L2.St) (H : Hp) (Q : Option Int → Hp → Prop), tNoPart σ H Q = Q none H) ∧
    (∀ (t : TE) (σ : L2.St) (H : Hp) (Q : Option Int → Hp → Prop), tPart t σ H Q = t σ H fun x H1 => ∃ i, x = .int i ∧ Q (some i) H1) ∧
    (∀ (r : V → Option Int → Option Int → Hp → VK → Prop) (te : TE) (tl th : TO) (σ : L2.St) (H : Hp) (Q : VK), tSl r te tl th σ H Q = te σ H fun x H1 => tl σ H1 fun l H2 => th σ H2 fun u H3 => r x l u H3 Q) :=
  ⟨fun _ _ _ _ _ _ => rfl, fun _ _ _ _ _ _ _ => rfl, fun _ _ _ => rfl, fun _ _ _ _ _ => rfl, fun _ _ _ _ => rfl, fun _ _ _ _ => rfl, fun _ _ _ _ _ => rfl, fun _ _ _ _ _ _ => rfl, fun _ _ _ _ _ _ _ _ _ => rfl, fun _ _ _ _ _ _ _ => rfl, fun _ _ _ _ => rfl, fun _ _ _ _ => rfl,
   fun _ _ => rfl, fun _ _ => rfl, fun _ _ => rfl, fun _ _ _ => rfl, fun _ _ _ => rfl, fun _ _ _ _ => rfl, fun _ _ _ _ _ => rfl, fun _ _ _ _ _ => rfl, fun _ _ _ _ _ _ => rfl, fun _ _ _ _ _ => rfl, fun _ _ _ _ _ _ => rfl, fun _ _ _ _ _ => rfl, fun _ _ _ _ _ => rfl, fun _ _ _ => rfl, fun _ _ _ _ => rfl, fun _ _ _ _ _ _ _ => rfl⟩
theorem RDk :
    kitB "int" "int" = some true ∧ kitB "bool" "int" = some true ∧ kitB "str" "int" = some false ∧ kitB "NoneType" "int" = some false ∧ kitB "list" "int" = some false ∧ kitB "tuple" "int" = some false ∧ kitB "dict" "int" = some false ∧
    kitB "int" "bool" = some false ∧ kitB "bool" "bool" = some true ∧ kitB "str" "bool" = some false ∧ kitB "NoneType" "bool" = some false ∧ kitB "list" "bool" = some false ∧ kitB "tuple" "bool" = some false ∧ kitB "dict" "bool" = some false ∧
    kitB "int" "str" = some false ∧ kitB "bool" "str" = some false ∧ kitB "str" "str" = some true ∧ kitB "NoneType" "str" = some false ∧ kitB "list" "str" = some false ∧ kitB "tuple" "str" = some false ∧ kitB "dict" "str" = some false ∧
    kitB "int" "tuple" = some false ∧ kitB "bool" "tuple" = some false ∧ kitB "str" "tuple" = some false ∧ kitB "NoneType" "tuple" = some false ∧ kitB "list" "tuple" = some false ∧ kitB "tuple" "tuple" = some true ∧ kitB "dict" "tuple" = some false ∧
    kitB "int" "list" = some false ∧ kitB "bool" "list" = some false ∧ kitB "str" "list" = some false ∧ kitB "NoneType" "list" = some false ∧ kitB "list" "list" = some true ∧ kitB "tuple" "list" = some false ∧ kitB "dict" "list" = some false := by
  decide +kernel
theorem RDv :
    (∀ (i j : Int), (V.int i = V.int j) = (i = j)) ∧ (∀ (i j : Str), (V.str i = V.str j) = (i = j)) ∧ (∀ (i j : Bool), (V.bl i = V.bl j) = (i = j)) ∧ (∀ (i j : Addr), (V.ref i = V.ref j) = (i = j)) ∧ (∀ (i j : String), (V.ty i = V.ty j) = (i = j)) ∧
    (∀ (α : Type) (i j : α), (some i = some j) = (i = j)) ∧
    (∀ H, tyN H .non = some "NoneType") ∧ (∀ H b, tyN H (.bl b) = some "bool") ∧ (∀ H b, tyN H (.int b) = some "int") ∧ (∀ H b, tyN H (.str b) = some "str") ∧
    (∀ n, keyV (.int n) = some (.inl n)) ∧ (∀ n, keyV (.str n) = some (.inr n)) ∧
    (∀ (C dx : Addr) (fs : List (Str × V)) (C' dx' : Addr) (fs' : List (Str × V)), (HO.ins C dx fs = HO.ins C' dx' fs') = (C = C' ∧ dx = dx' ∧ fs = fs')) ∧
    (∀ xs ys, (HO.lst xs = HO.lst ys) = (xs = ys)) ∧ (∀ xs ys, (HO.tup xs = HO.tup ys) = (xs = ys)) ∧ (∀ xs ys, (HO.dK xs = HO.dK ys) = (xs = ys)) := by
  refine ⟨?_, ?_, ?_, ?_, ?_, ?_, fun _ => rfl, fun _ _ => rfl, fun _ _ => rfl, fun _ _ => rfl, fun _ => rfl, fun _ => rfl, ?_, ?_, ?_, ?_⟩ <;> intros <;> simp
theorem datE (H : Hp) :
    (∀ n, dat H n .non = some .none) ∧ (∀ n b, dat H n (.bl b) = some (.bool b)) ∧ (∀ n b, dat H n (.int b) = some (.int b)) ∧ (∀ n b, dat H n (.str b) = some (.str b)) ∧
    (∀ n a xs, H a = some (.lst xs) → dat H (n + 1) (.ref a) = (mapO (dat H n) xs).map PyData.list) ∧ (∀ n a xs, H a = some (.tup xs) → dat H (n + 1) (.ref a) = (mapO (dat H n) xs).map PyData.tuple) := by
  refine ⟨fun n => ?_, fun n b => ?_, fun n b => ?_, fun n b => ?_, fun n a xs h => ?_, fun n a xs h => ?_⟩
  · cases n <;> rfl
  · cases n <;> rfl
  · cases n <;> rfl
  · cases n <;> rfl
  · conv => lhs; unfold dat
    rw [h]
  · conv => lhs; unfold dat
    rw [h]
theorem RDx :
    (∀ (CX : CXT) (P : Program) (w : World) (K : PySem.W.Frag) (mg : Str → Option Value) (base : Heap) (N : List Str) (q : Str) (sc : Scope) (f : Addr) (cd : Value) (A : Around) (o : List Env) (s : Shared) (H : Hp) (E : XK), (cxOf CX P w K mg base N q sc f cd A o s H E).K = K) ∧
    (∀ (CX : CXT) (P : Program) (w : World) (K : PySem.W.Frag) (mg : Str → Option Value) (base : Heap) (N : List Str) (q : Str) (sc : Scope) (f : Addr) (cd : Value) (A : Around) (o : List Env) (s : Shared) (H : Hp) (E : XK) (p : Addr × Obj), (L2H.cxH CX P w K mg base N q sc f cd A o s H E p).K = K) ∧
    (∀ (X : Cx) (pn : List (Addr × Obj)) (xe : Value → Shared → Prop), (X.tr pn xe).K = X.K) ∧
    (∀ (X : Cx) (a : Addr) (pn : List (Addr × Obj)), (X.suite a pn).K = X.K) ∧
    (∀ (X : Cx) (s : Shared) (H : Hp) (sc : Scope) (ce : Env) (fp : List Addr), (X.blk s H sc ce fp).K = X.K) ∧
    (∀ (X : Cx), X.nox.K = X.K) := ⟨fun _ _ _ _ _ _ _ _ _ _ _ _ _ _ _ _ => rfl, fun _ _ _ _ _ _ _ _ _ _ _ _ _ _ _ _ _ => rfl, fun _ _ _ => rfl, fun _ _ _ => rfl, fun _ _ _ _ _ _ => rfl, fun _ => rfl⟩
theorem RDe :
    (∀ (K : PySem.W.Frag) (c : Value) (i : Nat) (ts : Addr → Value → Option Addr → TS) (Wout : WX) (D : Ends) (cls : Value) (d : Option Addr) (σ : L2.St) (H : Hp), wAs K c i ts Wout D cls d σ H =
      ∃ b, PySem.W.exmOne K cls c = some b ∧ (b = true → ∀ a, H a = none → ts a cls d { nx := fun σ' H' => D.nx (σ'.set i none) H', rt := D.rt, bk := fun σ' H' => D.bk (σ'.set i none) H', ct := fun σ' H' => D.ct (σ'.set i none) H' } (σ.set i (some (.ref a))) H) ∧ (b = false → Wout cls d σ H)) ∧
    (∀ (K : PySem.W.Frag) (Wout : WX) (D : Ends), L2.wMany K Wout D [] = Wout) ∧
    (∀ (K : PySem.W.Frag) (Wout : WX) (D : Ends) (c : Value) (ts : Addr → Value → Option Addr → TS) (r : List (Value × (Addr → Value → Option Addr → TS))) (cls : Value) (d : Option Addr) (σ : L2.St) (H : Hp), L2.wMany K Wout D ((c, ts) :: r) cls d σ H =
      ∃ b, PySem.W.exmOne K cls c = some b ∧ (b = true → ∀ a, H a = none → ts a cls d D σ H) ∧ (b = false → L2.wMany K Wout D r cls d σ H)) ∧
    (∀ (K : PySem.W.Frag) (a : Addr) (cls : Value) (xs : List V) (H : Hp) (Q : VK), rIsEC K a cls xs H Q = ∃ (c : V) (cv : Value) (b : Bool), xs = [.ref a, c] ∧ clsOf c = some cv ∧ PySem.W.kitOne K cls cv = some b ∧ Q (.bl b) H) ∧
    (∀ a, clsOf (.ref a) = some (.ref a)) ∧ (∀ n, clsOf (.ty n) = some (.type n)) :=
  ⟨fun _ _ _ _ _ _ _ _ _ _ => rfl, fun _ _ _ => rfl, fun _ _ _ _ _ _ _ _ _ _ => rfl, fun _ _ _ _ _ _ => rfl, fun _ => rfl, fun _ => rfl⟩
/-! #### texts -/
theorem mul_one (z : Str) : Txt.mul z 1 = z := by unfold Txt.mul; rw [if_neg (by decide), if_pos (by simp)]
theorem mul_zero (z : Str) : Txt.mul z 0 = Str.empty := by unfold Txt.mul; rw [if_pos (by decide)]
theorem mulOk_one (z : Str) : MulOk z 1 := ⟨by decide, fun _ h => by simp at h, fun _ h => by simp at h⟩
theorem mulOk_zero (z : Str) : MulOk z 0 := ⟨by decide, fun h => absurd (by decide) h, fun h => absurd (by decide) h⟩
theorem str_ext {x y : Str} (h : x.cps.toList = y.cps.toList) : x = y := by
  obtain ⟨a⟩ := x
  obtain ⟨b⟩ := y
  congr
  exact Array.toList_inj.mp h
theorem app_empty (z : Str) : z ++ Str.empty = z := by
  refine str_ext ?_
  show (z.cps ++ #[]).toList = _
  simp
/-! #### loops, by what their walked thing gives -/
section
variable {K : PySem.W.Frag} {tl : TE} {g : TG} {tb : TS} {D : Ends} {σ : L2.St} {H : Hp}
theorem for_lcut (G : Addr → Hp → Prop) (xs : List V) (h1 : ∀ Z : VK, (∀ a H1, G a H1 → Z (.ref a) H1) → tl σ H Z) (Pv : Addr → Nat → L2.St → Hp → Prop) (h0 : ∀ a H1, G a H1 → SqL K H1 a xs ∧ Pv a 0 σ H1) (hl : ∀ a i σ H, i ≤ xs.length → Pv a i σ H → SqL K H a xs)
    (hs : ∀ a i x σ H, xs[i]? = some x → Pv a i σ H → g x σ H fun σ2 H2 => tb { D with nx := Pv a (i + 1), ct := Pv a (i + 1), bk := D.nx } σ2 H2) (hd : ∀ a σ H, Pv a xs.length σ H → D.nx σ H) : tFor (iList K tl) g tb D σ H :=
  h1 _ fun a H1 q => ⟨a, rfl, ⟨xs, (h0 a H1 q).1⟩, for_list (Pv a) (h0 a H1 q).2 (hl a) (hs a) (hd a)⟩
end
theorem same_new {H : Hp} {p : Addr} {o : HO} (h : H p = none) : Same H (upd H p o) := fun b u e => by rw [upd_ne (ne_of_none e h)]; exact e
theorem same_sql {K : PySem.W.Frag} {H H' : Hp} {a : Addr} {xs : List V} (e : Same H H') (h : SqL K H a xs) : SqL K H' a xs := e.seq h
theorem bl3 {i : Nat} {x : V} (h : ([V.bl false, V.bl false, V.bl false] : List V)[i]? = some x) : x = .bl false := by
  match i, h with
  | 0, h => exact (Option.some.inj h).symm
  | 1, h => exact (Option.some.inj h).symm
  | 2, h => exact (Option.some.inj h).symm
  | n + 3, h => cases h
/-! #### data as it is compared -/
theorem seqO_tup {H : Hp} {a : Addr} {xs : List V} (h : H a = some (.tup xs)) : seqO H a = some xs := by unfold seqO; rw [h]
theorem seqO_lst {H : Hp} {a : Addr} {xs : List V} (h : H a = some (.lst xs)) : seqO H a = some xs := by unfold seqO; rw [h]
theorem tyN_tup {H : Hp} {a : Addr} {xs : List V} (h : H a = some (.tup xs)) : tyN H (.ref a) = some "tuple" := by unfold tyN; dsimp only; rw [h]
theorem tyN_lst {H : Hp} {a : Addr} {xs : List V} (h : H a = some (.lst xs)) : tyN H (.ref a) = some "list" := by unfold tyN; dsimp only; rw [h]
theorem tyN_dK {H : Hp} {a : Addr} {xs : List (Key × V)} (h : H a = some (.dK xs)) : tyN H (.ref a) = some "dict" := by unfold tyN; dsimp only; rw [h]
theorem lenO_tup {H : Hp} {a : Addr} {xs : List V} (h : H a = some (.tup xs)) : lenO H a = some xs.length := by unfold lenO seqO; rw [h]; rfl
theorem lenO_lst {H : Hp} {a : Addr} {xs : List V} (h : H a = some (.lst xs)) : lenO H a = some xs.length := by unfold lenO seqO; rw [h]; rfl
theorem lenO_dK {H : Hp} {a : Addr} {xs : List (Key × V)} (h : H a = some (.dK xs)) : lenO H a = some xs.length := by unfold lenO; rw [h]
theorem dat_tup {H : Hp} {a : Addr} {xs : List V} (h : H a = some (.tup xs)) (n : Nat) : dat H (n + 1) (.ref a) = (mapO (dat H n) xs).map PyData.tuple := (datE H).2.2.2.2.2 n a xs h
theorem dat_lst {H : Hp} {a : Addr} {xs : List V} (h : H a = some (.lst xs)) (n : Nat) : dat H (n + 1) (.ref a) = (mapO (dat H n) xs).map PyData.list := (datE H).2.2.2.2.1 n a xs h
theorem RDd :
    (∀ f, mapO f [] = some []) ∧ (∀ f v r, mapO f (v :: r) = match f v, mapO f r with | some d, some ds => some (d :: ds) | _, _ => none) ∧
    (∀ H n, dat H n .non = some .none) ∧ (∀ H n b, dat H n (.bl b) = some (.bool b)) ∧ (∀ H n b, dat H n (.int b) = some (.int b)) ∧ (∀ H n b, dat H n (.str b) = some (.str b)) ∧
    (∀ (α : Type) (x : α) xs, atI (x :: xs) 0 = some x) ∧ (∀ (α : Type) (x y : α) xs, atI (x :: y :: xs) 1 = some y) ∧ (∀ (α : Type) (x y z : α) xs, atI (x :: y :: z :: xs) 2 = some z) ∧ (∀ (α : Type) (x y z u : α) xs, atI (x :: y :: z :: u :: xs) 3 = some u) ∧
    (∀ H, Option.map PyData.list (some H) = some (PyData.list H)) ∧ (∀ H, Option.map PyData.tuple (some H) = some (PyData.tuple H)) := by
  have at_ : ∀ (α : Type) (xs : List α) (k : Nat) (x : α), xs[k]? = some x → atI xs (k : Int) = some x := fun α xs k x h => by
    unfold atI ixN
    obtain ⟨hk, _⟩ := List.getElem?_eq_some_iff.mp h
    rw [if_pos (by omega), if_pos (by omega), Option.bind_some, Int.toNat_natCast, h]
  refine ⟨fun _ => rfl, fun _ _ _ => rfl, fun H => (datE H).1, fun H => (datE H).2.1, fun H => (datE H).2.2.1, fun H => (datE H).2.2.2.1, fun α x xs => at_ α _ 0 x rfl, fun α x y xs => at_ α _ 1 y rfl, fun α x y z xs => at_ α _ 2 z rfl, fun α x y z u xs => at_ α _ 3 u rfl, fun _ => rfl, fun _ => rfl⟩
/-- data of at most n levels that can be compared -/
def Shp (n : Nat) (d : PyData) : Prop := d.canLay0 = true ∧ d.depth ≤ n
theorem Shp.ok {d : PyData} (h : Shp 64 d) : SeqAt.shaped d = true := by
  unfold SeqAt.shaped
  rw [h.1, Bool.true_and]
  exact decide_eq_true h.2
theorem Shp.mono {n m : Nat} {d : PyData} (h : Shp n d) (l : n ≤ m) : Shp m d := ⟨h.1, Nat.le_trans h.2 l⟩
theorem shp_all {n : Nat} : ∀ {ds : List PyData}, (∀ d ∈ ds, Shp n d) → PyData.canLayAll0 ds = true ∧ PyData.depthAll ds ≤ n
  | [], _ => ⟨by simp [PyData.canLayAll0], by simp [PyData.depthAll]⟩
  | d :: r, h => by
    have h1 := h d List.mem_cons_self
    have h2 := shp_all (ds := r) fun e he => h e (List.mem_cons_of_mem _ he)
    constructor
    · rw [PyData.canLayAll0, h1.1, h2.1]; rfl
    · rw [PyData.depthAll]; exact Nat.max_le.mpr ⟨h1.2, h2.2⟩
theorem shp_list {n : Nat} {ds : List PyData} (h : ∀ d ∈ ds, Shp n d) : Shp (n + 1) (.list ds) := by
  obtain ⟨a, b⟩ := shp_all h
  exact ⟨by rw [PyData.canLay0]; exact a, by rw [PyData.depth]; omega⟩
theorem shp_tuple {n : Nat} {ds : List PyData} (h : ∀ d ∈ ds, Shp n d) : Shp (n + 1) (.tuple ds) := by
  obtain ⟨a, b⟩ := shp_all h
  exact ⟨by rw [PyData.canLay0]; exact a, by rw [PyData.depth]; omega⟩
theorem shp_s (n : Nat) : Shp n .none ∧ (∀ b, Shp n (.bool b)) ∧ (∀ i, Shp n (.int i)) ∧ (∀ x, PyData.strOk x = true → Shp n (.str x)) :=
  ⟨⟨by simp [PyData.canLay0], by simp [PyData.depth]⟩, fun _ => ⟨by simp [PyData.canLay0], by simp [PyData.depth]⟩, fun _ => ⟨by simp [PyData.canLay0], by simp [PyData.depth]⟩, fun _ h => ⟨by simpa [PyData.canLay0] using h, by simp [PyData.depth]⟩⟩
theorem sh1 {d : PyData} (h : d.canLay0 = true) (h2 : d.depth = 0) : SeqAt.shaped (.tuple [d]) = true ∧ SeqAt.shaped (.tuple [d]) = true := ⟨Shp.ok ⟨by simp [PyData.canLay0, PyData.canLayAll0, h], by simp [PyData.depth, PyData.depthAll, h2]⟩, Shp.ok ⟨by simp [PyData.canLay0, PyData.canLayAll0, h], by simp [PyData.depth, PyData.depthAll, h2]⟩⟩
theorem eqv_self {d : PyData} (h : d.canLay0 = true) : PyData.eqv d d = true := SeqAt.eqv_refl d h
end RP

/-! ### things made for one use only: no trace in what is tracked -/
namespace RP
open PySem PySem.Spec PyProof.Rows L2
section
variable {X : Cx} {b l : Expr} {es : List Expr} {t : TA} {tb tl : TE} {pos pos1 : Pos}
/-- [e, ..][b] -/
def tPick (t : TA) (tb : TE) : TE := fun σ H Q => t σ H fun vs H1 => vs.length ≤ 1000 ∧ tb σ H1 fun y H2 => ∃ k v, y = .int k ∧ 0 ≤ k ∧ atI vs k = some v ∧ Q v H2
theorem pe_pick (he : PA X es t) (hi : PE X b tb) (hs : PlainIx b) : PE X (.Subscript (.List es pos1) b pos) (tPick t tb) := by
  constructor
  intro pins s σ H Q I h
  refine Subscript_ (wpAny_List_spliced (thn (he.run pos1 pins s σ H _ I h) ?_))
  rintro us s1 ⟨vs, H1, I1, r, z, q⟩
  have z1 : us.length ≤ 1000 := by rw [← r.length]; exact z
  refine ⟨Nat.le_trans z1 (by decide), ?_⟩
  have kp : ∀ (b : Addr) (o : Obj), s1.heap.get? b = some o → (s1.heap.push { cls := .type "list", data := .seq us.toArray }).get? b = some o := fun b o e => Heap.get?_push_of_some _ e
  have gL : (s1.heap.push { cls := .type "list", data := .seq us.toArray }).get? s1.heap.objs.size = some { cls := .type "list", data := .seq us.toArray } := Heap.get?_push_size _ rfl
  have I2 : Inv X pins σ H1 { s1 with heap := s1.heap.push { cls := .type "list", data := .seq us.toArray } } := I1.kept (t' := s1.toks) kp
  have I3 := I2.pinned (fp := [s1.heap.objs.size]) (fun b hb => by
    have e : b = s1.heap.objs.size := by simpa using hb
    rw [e]
    exact I1.fpOk (Nat.le_refl _) (I1.hok.fresh (Nat.le_refl _))) (fun b hb => by
    have e : b = s1.heap.objs.size := by simpa using hb
    rw [e]
    exact ⟨_, gL, fun v w => by cases w⟩)
  refine thn (hi.run _ _ σ H1 _ I3 q) ?_
  rintro u s2 ⟨y, H2, I4, ry, k, v, rfl, h0, ha, qv⟩
  have g2 := (I4.pin (s1.heap.objs.size, { cls := .type "list", data := .seq us.toArray }) (List.mem_append_right _ (List.mem_append_right _ (mem_pinsAt (by simp) gL)))).1
  obtain ⟨tk, rfl⟩ := ry
  obtain ⟨j, h1, h2, h3, h4, h5⟩ := atI_get ha
  obtain ⟨w, ew, rw'⟩ := r.get h2
  have hl := r.length
  have hj : k.toNat = j := by
    rw [seqIndex_of h0 h5] at h1
    exact Option.some.inj h1
  have pl : PlainL s2.heap s1.heap.objs.size us.toArray := ⟨_, _, g2, rfl, rfl, rfl⟩
  exact item_listR pl.isList h0 (by omega) (by rw [hj]; simpa using ew) ⟨v, H2, I4.unpinned, rw', qv⟩ (hs _ _)
/-- l == (e, ..), l != (e, ..) -/
def tEqT (neg : Bool) (tl : TE) (t : TA) : TE := fun σ H Q => tl σ H fun x H1 => t σ H1 fun vs H2 => vs.length ≤ 1000 ∧ ∃ d ds, dat H2 8 x = some d ∧ mapO (dat H2 7) vs = some ds ∧ SeqAt.shaped d = true ∧ SeqAt.shaped (.tuple ds) = true ∧ Q (.bl (if neg then !PyData.eqv d (.tuple ds) else PyData.eqv d (.tuple ds))) H2
theorem dat_new {H : Hp} {p : Addr} {o : HO} (hp : H p = none) : ∀ (n : Nat) (v : V) (d : PyData), dat H n v = some d → dat (upd H p o) n v = some d := by
  have key : ∀ (f f' : V → Option PyData), (∀ v d, f v = some d → f' v = some d) → ∀ (xs : List V) (ds : List PyData), mapO f xs = some ds → mapO f' xs = some ds := by
    intro f f' hf xs
    induction xs with
    | nil => intro ds h; exact h
    | cons v r ih =>
      intro ds h
      unfold mapO at h ⊢
      split at h
      · rename_i d ds' h1 h2
        cases h
        rw [hf _ _ h1, ih _ h2]
      · cases h
  intro n
  induction n with
  | zero =>
    intro v d h
    cases v <;> exact h
  | succ n ih =>
    intro v d h
    cases v with
    | ref a =>
      have e : ∀ u, H a = some u → upd H p o a = some u := fun u e => by rw [upd_ne (ne_of_none e hp)]; exact e
      unfold dat at h ⊢
      split at h
      · rename_i xs e1
        obtain ⟨ds, e2, rfl⟩ := Option.map_eq_some_iff.mp h
        rw [e _ e1]
        dsimp only
        rw [key _ _ ih _ _ e2]
        rfl
      · rename_i xs e1
        obtain ⟨ds, e2, rfl⟩ := Option.map_eq_some_iff.mp h
        rw [e _ e1]
        dsimp only
        rw [key _ _ ih _ _ e2]
        rfl
      · rename_i ob xs e1
        obtain ⟨ds, e2, rfl⟩ := Option.map_eq_some_iff.mp h
        rw [e _ e1]
        dsimp only
        rw [key _ _ ih _ _ e2]
        rfl
      · cases h
    | _ => exact h
theorem eqT_run {neg : Bool} {op : CmpOp} (hop : op = if neg then .NotEq else .Eq) (hu : X.A.units + 64 < cLine) (hl : PE X l tl) (he : PA X es t) {x1 : Nat} {pins : List (Addr × Obj)} {s : Shared} {σ : L2.St} {H : Hp} {Q : VK} (I : Inv X pins σ H s) (h : tEqT neg tl t σ H Q) :
    wpAny (model X.prog X.w) X.A (eval l X.env) (fun v s1 => wpAny (model X.prog X.w) X.A (eval (.Tuple es x1 pos1) X.env) (fun u s2 => wpAny (model X.prog X.w) X.A (compareOp op v u) (EP X pins σ Q) X.xe s2) X.xe s1) X.xe s := by
  refine thn (hl.run pins s σ H _ I h) ?_
  rintro v s1 ⟨x, H1, I1, rx, q1⟩
  refine wpAny_Tuple_spliced (thn (he.run pos1 pins s1 σ H1 _ I1 q1) ?_)
  rintro us s2 ⟨vs, H2, I2, r, z, d, ds, h1, h2, sd, se, q⟩
  have z1 : us.length ≤ sizeLine := by rw [← r.length]; exact Nat.le_trans z (by decide)
  refine ⟨z1, ?_⟩
  have hf : H2 s2.heap.objs.size = none := I2.hok.fresh (Nat.le_refl _)
  have kp : ∀ (b : Addr) (o : Obj), s2.heap.get? b = some o → (s2.heap.push { cls := .type "tuple", data := .seq us.toArray }).get? b = some o := fun b o e => Heap.get?_push_of_some _ e
  have IU : Inv X pins σ H2 { s2 with heap := s2.heap.push { cls := .type "tuple", data := .seq us.toArray } } := I2.kept (t' := s2.toks) kp
  have IT : Inv X pins σ (upd H2 s2.heap.objs.size (.tup vs)) { s2 with heap := s2.heap.push { cls := .type "tuple", data := .seq us.toArray } } :=
    I2.laid (t' := s2.toks) kp (Nat.le_refl _) ⟨Nat.le_trans z (by decide), us, r, ⟨_, Heap.get?_push_size _ rfl, rfl, _, rfl⟩⟩
  obtain ⟨as, r1⟩ := Dp.reads IT d x v (dat_ok _ _ _ (dat_new hf _ _ _ h1)) rx
  have h3 : dat (upd H2 s2.heap.objs.size (.tup vs)) 8 (.ref s2.heap.objs.size) = some (.tuple ds) := by
    rw [dat_tup upd_same]
    have key : ∀ (xs : List V) (ds : List PyData), mapO (dat H2 7) xs = some ds → mapO (dat (upd H2 s2.heap.objs.size (.tup vs)) 7) xs = some ds := by
      intro xs
      induction xs with
      | nil => intro ds h; exact h
      | cons v r ih =>
        intro ds h
        unfold mapO at h ⊢
        split at h
        · rename_i d ds' h1 h2
          cases h
          rw [dat_new hf _ _ _ h1, ih _ h2]
        · cases h
    rw [key _ _ h2]
    rfl
  obtain ⟨bs, r2⟩ := Dp.reads IT (.tuple ds) (.ref s2.heap.objs.size) (.ref s2.heap.objs.size) (dat_ok _ _ _ h3) rfl
  subst hop
  cases neg with
  | true => exact SeqAt.compareNe_shaped r1 r2 sd se hu ⟨.bl _, H2, IU, rfl, q⟩
  | false => exact SeqAt.compareEq_shaped r1 r2 sd se hu ⟨.bl _, H2, IU, rfl, q⟩
theorem pc_eqT {x1 : Nat} (hu : X.A.units + 64 < cLine) (hl : PE X l tl) (he : PA X es t) : PC X .Eq l (.Tuple es x1 pos1) (tEqT false tl t) := ⟨fun pins s σ H Q I h => eqT_run (neg := false) rfl hu hl he I h⟩
theorem pc_neT {x1 : Nat} (hu : X.A.units + 64 < cLine) (hl : PE X l tl) (he : PA X es t) : PC X .NotEq l (.Tuple es x1 pos1) (tEqT true tl t) := ⟨fun pins s σ H Q I h => eqT_run (neg := true) rfl hu hl he I h⟩
/-- l in (e, ..), l not in (e, ..): flat things -/
def tInT (neg : Bool) (tl : TE) (t : TA) : TE := fun σ H Q => tl σ H fun x H1 => t σ H1 fun vs H2 => vs.length ≤ 1000 ∧ flatV x = true ∧ vs.all flatV = true ∧ Q (.bl (if neg then !inV x vs else inV x vs)) H2
theorem inT_run {neg : Bool} {op : CmpOp} (hop : op = if neg then .NotIn else .In) (hl : PE X l tl) (he : PA X es t) {x1 : Nat} {pins : List (Addr × Obj)} {s : Shared} {σ : L2.St} {H : Hp} {Q : VK} (I : Inv X pins σ H s) (h : tInT neg tl t σ H Q) :
    wpAny (model X.prog X.w) X.A (eval l X.env) (fun v s1 => wpAny (model X.prog X.w) X.A (eval (.Tuple es x1 pos1) X.env) (fun u s2 => wpAny (model X.prog X.w) X.A (compareOp op v u) (EP X pins σ Q) X.xe s2) X.xe s1) X.xe s := by
  refine thn (hl.run pins s σ H _ I h) ?_
  rintro v s1 ⟨x, H1, I1, rx, q1⟩
  refine wpAny_Tuple_spliced (thn (he.run pos1 pins s1 σ H1 _ I1 q1) ?_)
  rintro us s2 ⟨vs, H2, I2, r, z, f1, f2, q⟩
  have z1 : us.length ≤ sizeLine := by rw [← r.length]; exact Nat.le_trans z (by decide)
  refine ⟨z1, ?_⟩
  have hf : H2 s2.heap.objs.size = none := I2.hok.fresh (Nat.le_refl _)
  have kp : ∀ (b : Addr) (o : Obj), s2.heap.get? b = some o → (s2.heap.push { cls := .type "tuple", data := .seq us.toArray }).get? b = some o := fun b o e => Heap.get?_push_of_some _ e
  have IU : Inv X pins σ H2 { s2 with heap := s2.heap.push { cls := .type "tuple", data := .seq us.toArray } } := I2.kept (t' := s2.toks) kp
  have IT : Inv X pins σ (upd H2 s2.heap.objs.size (.tup vs)) { s2 with heap := s2.heap.push { cls := .type "tuple", data := .seq us.toArray } } :=
    I2.laid (t' := s2.toks) kp (Nat.le_refl _) ⟨Nat.le_trans z (by decide), us, r, ⟨_, Heap.get?_push_size _ rfl, rfl, _, rfl⟩⟩
  obtain ⟨its, r', pl, hz⟩ := IT.tuple (SqT.of (K := X.K) (upd_same (a := s2.heap.objs.size) (o := .tup vs)))
  subst hop
  cases neg with
  | true =>
    refine SeqAt.notIn_tupleAt (eqU x) pl (fun w hw => mem_eqAt rx f1 r' f2 w (by simpa using hw)) ⟨.bl _, H2, IU, rfl, ?_⟩
    rw [show its.toArray.any (eqU x) = its.any (eqU x) by simp, any_eqU r' f2]
    exact q
  | false =>
    refine SeqAt.in_tupleAt (eqU x) pl (fun w hw => mem_eqAt rx f1 r' f2 w (by simpa using hw)) ⟨.bl _, H2, IU, rfl, ?_⟩
    rw [show its.toArray.any (eqU x) = its.any (eqU x) by simp, any_eqU r' f2]
    exact q
theorem pc_inT {x1 : Nat} (hl : PE X l tl) (he : PA X es t) : PC X .In l (.Tuple es x1 pos1) (tInT false tl t) := ⟨fun pins s σ H Q I h => inT_run (neg := false) rfl hl he I h⟩
theorem pc_notInT {x1 : Nat} (hl : PE X l tl) (he : PA X es t) : PC X .NotIn l (.Tuple es x1 pos1) (tInT true tl t) := ⟨fun pins s σ H Q I h => inT_run (neg := true) rfl hl he I h⟩
end
theorem RDp :
    (∀ (t : TA) (tb : TE) (σ : L2.St) (H : Hp) (Q : VK), tPick t tb σ H Q = t σ H fun vs H1 => vs.length ≤ 1000 ∧ tb σ H1 fun y H2 => ∃ k v, y = .int k ∧ 0 ≤ k ∧ atI vs k = some v ∧ Q v H2) ∧
    (∀ (neg : Bool) (tl : TE) (t : TA) (σ : L2.St) (H : Hp) (Q : VK), tEqT neg tl t σ H Q = tl σ H fun x H1 => t σ H1 fun vs H2 => vs.length ≤ 1000 ∧ ∃ d ds, dat H2 8 x = some d ∧ mapO (dat H2 7) vs = some ds ∧ SeqAt.shaped d = true ∧ SeqAt.shaped (.tuple ds) = true ∧ Q (.bl (if neg then !PyData.eqv d (.tuple ds) else PyData.eqv d (.tuple ds))) H2) ∧
    (∀ (neg : Bool) (tl : TE) (t : TA) (σ : L2.St) (H : Hp) (Q : VK), tInT neg tl t σ H Q = tl σ H fun x H1 => t σ H1 fun vs H2 => vs.length ≤ 1000 ∧ flatV x = true ∧ vs.all flatV = true ∧ Q (.bl (if neg then !inV x vs else inV x vs)) H2) ∧
    (∀ i j : Int, CDiv i j = (0 < j ∧ j < 1073741824)) ∧ (∀ i j : Int, CPow i j = (0 ≤ j ∧ j ≤ 1000000 ∧ i.natAbs < 2 ^ 64)) :=
  ⟨fun _ _ _ _ _ => rfl, fun _ _ _ _ _ _ => rfl, fun _ _ _ _ _ _ => rfl, fun _ _ => rfl, fun _ _ => rfl⟩
theorem seq_gen {t u : TS} {D : Ends} {σ : L2.St} {H : Hp} (h : ∀ N : L2.St → Hp → Prop, (∀ σ H, u D σ H → N σ H) → t { D with nx := N } σ H) : tSeq t u D σ H := h _ fun _ _ z => z
theorem cut_int {ns : List Int} {lo hi : Option Int} {i : Nat} {x : V} (h : (cutV (ns.map V.int) lo hi)[i]? = some x) : ∃ c, x = .int c := by
  have h1 : x ∈ cutV (ns.map V.int) lo hi := List.mem_of_getElem? h
  unfold cutV at h1
  have h2 := List.mem_of_mem_drop (List.mem_of_mem_take h1)
  obtain ⟨c, _, e⟩ := List.mem_map.mp h2
  exact ⟨c, e.symm⟩
theorem ite_merge {α : Sort _} {P R : Prop} [Decidable P] [Decidable R] {x y : α} : (if P then (if R then x else y) else y) = if P ∧ R then x else y := by
  by_cases p : P <;> by_cases r : R <;> simp [p, r]
theorem ite_or' {α : Sort _} {P R : Prop} [Decidable P] [Decidable R] {x y : α} : (if P then x else (if R then x else y)) = if P ∨ R then x else y := by
  by_cases p : P <;> by_cases r : R <;> simp [p, r]
theorem getD_all {α : Type} {p : α → Prop} {xs : List α} {d : α} (h : ∀ x ∈ xs, p x) (hd : p d) (i : Nat) : p (xs.getD i d) := by
  rw [List.getD_eq_getElem?_getD]
  cases e : xs[i]? with
  | none => exact hd
  | some x => exact h x (List.mem_of_getElem? e)
theorem md_rng {n : Int} (x : Int) (h : 0 < n) : 0 ≤ x % n ∧ x % n < n := ⟨Int.emod_nonneg _ (by omega), Int.emod_lt_of_pos _ h⟩
theorem pick2 {x y : V} {k : Int} (h0 : 0 ≤ k) (h1 : k < 2) : atI [x, y] k = some (if k = 0 then x else y) := by
  rcases (show k = 0 ∨ k = 1 by omega) with rfl | rfl
  · rfl
  · rfl
theorem pickI2 {x y k : Int} (h0 : 0 ≤ k) (h1 : k < 2) : atI [V.int x, V.int y] k = some (.int (if k = 0 then x else y)) := by
  rcases (show k = 0 ∨ k = 1 by omega) with rfl | rfl
  · rfl
  · rfl
/-- an item of a list of whole numbers -/
theorem atInt {xs : List Int} {k : Int} (h0 : 0 ≤ k) (h1 : k < (xs.length : Int)) : atI (xs.map V.int) k = some (.int (xs.getD k.toNat 0)) := by
  have e2 : k = ((k.toNat : Nat) : Int) := by omega
  have e3 : k.toNat < xs.length := by omega
  rw [e2]
  refine atI_nat ?_
  rw [List.getElem?_map, List.getElem?_eq_getElem e3, List.getD_eq_getElem?_getD, Int.toNat_natCast, List.getElem?_eq_getElem e3]
  rfl
/-- the law's own def -/
theorem fn_law {P : Program} {w : World} {K : PySem.W.Frag} {mg : Str → Option Value} {base : Heap} {x : Str} {st : Stmt} {N ps : List Str} {k : Nat} {sp : Sp} {f0 : Addr} {fd : FuncData} (F : FunD K x x (defArgs st) (defBody st) (defScope st) [] [] f0 fd) (S : FnScope N ps (defScope st)) (len : ∀ vs H Q E, sp vs H Q E → vs.length = ps.length)
    (hbody : ∀ (f : Addr) (cdv : Value) (A : Around) (outer : List Env) (s : Shared) (H : Hp) (vs : List V) (Q : VK) (E : XK), Room k (A.deeper (envOfC x (defScope st) s.heap.objs.size f cdv)) → sp vs H Q E →
      ∃ t, PSs (cxOf (L2N.CX P w) P w K mg base N x (defScope st) f cdv A outer s H E) (defBody st) t ∧ t { nx := fun _ H' => Q .non H', rt := Q } (start N vs) H) : FnOk P w K mg base (L2N.CX P w) (k + 1) f0 fd ps sp :=
  F.ok S len fun cdv A outer s H vs Q E hr h => hbody _ cdv A outer s H vs Q E hr h
/-- the end of a law, its air leaning on the world -/
theorem walk_W {l : PySem.W.OpenLaw} {n k : Nat} {q : Program} {loose : List Str} {XP : (Str → Option Value) → Heap → Prop} {YP : World → Heap → Prop} {d : DefRec} {CX : World → CXT} {x : Str}
    (hn : l.most = some n) (hn2 : n ≤ sizeLine) (hdf : d.params.defaults = []) (hr : Room k callerA)
    (F : ∀ (w : World) (mg : Str → Option Value) (fa : Addr) (h : Heap), YP w h → h.Ns mainGlobals mg → mg d.name = some (.ref fa) →
      ∃ (K : PySem.W.Frag) (fd : FuncData) (sp : Sp), K.In h ∧ (∀ (s : Shared) (u : Value), BindsTo s fd ⟨[u], []⟩ [(x, u)]) ∧
        (∀ (H : Hp) (a : Addr) (ns : List Int), ns.length ≤ n → Only H → SqL K H a (ns.map V.int) → sp [.ref a] H (fun v _ => v = .bl true) fun _ _ _ => False) ∧
        ∀ base : Heap, K.In base → base.Ns mainGlobals mg → FnOk l.prog w K mg base (CX w) k fa fd [x] sp)
    (hCX : ∀ (w : World) (H : Hp) (s : Shared) (e : Value) (s' : Shared), CX w [] H s (fun _ _ _ => False) e s' → False) :
    PySem.W.WalkO q loose XP YP l.row.toRowW d [] (fun f vs => PySem.call f vs) := by
  refine Att.attach_call hn hdf fun w s₀ s₁ mg mb fa o pm cd doc a vs ns G Y ho hd hcd hmg hobj hints hlen hg => ?_
  obtain ⟨K, fd, sp, KX, hb, hsp, hF⟩ := F w mg fa _ Y G.T.g hmg
  exact law_call KX G.T.g G.T.b G.T.builtins G.T.nolimit hg hobj hints (Nat.le_trans hlen hn2) hr hF hb (fun H hO hS => hsp H a ns hlen hO hS) fun H e s' => hCX w H s₁ e s'
/-- a whole number between two -/
def amongV (x : V) (lo hi : Int) : Bool := match x with
  | .int n => decide (lo ≤ n) && decide (n ≤ hi)
  | _ => false
/-- things that may be handed in anywhere -/
def Kn (H : Hp) (x : V) : Prop := (tyN H x).isSome = true
theorem Kn.cases {H : Hp} {x : V} (h : Kn H x) : x = .non ∨ (∃ b, x = .bl b) ∨ (∃ n, x = .int n) ∨ (∃ z, x = .str z) ∨ ∃ a t, x = .ref a ∧ tyN H (.ref a) = some t ∧ (t = "list" ∨ t = "tuple" ∨ t = "dict") := by
  unfold Kn at h
  cases x with
  | non => exact .inl rfl
  | bl b => exact .inr (.inl ⟨b, rfl⟩)
  | int n => exact .inr (.inr (.inl ⟨n, rfl⟩))
  | str z => exact .inr (.inr (.inr (.inl ⟨z, rfl⟩)))
  | byt b => cases h
  | flt b => cases h
  | ty n => cases h
  | ref a =>
    refine .inr (.inr (.inr (.inr ?_)))
    unfold tyN at h
    dsimp only at h
    split at h
    · rename_i xs e
      exact ⟨a, "list", rfl, by unfold tyN; dsimp only; rw [e], .inl rfl⟩
    · rename_i xs e
      exact ⟨a, "tuple", rfl, by unfold tyN; dsimp only; rw [e], .inr (.inl rfl)⟩
    · rename_i xs e
      exact ⟨a, "dict", rfl, by unfold tyN; dsimp only; rw [e], .inr (.inr rfl)⟩
    · cases h
end RP

/-! ### frames, comprehensions by what they give, texts -/
namespace RP
open PySem PySem.Spec PyProof.Rows L2
/-- what is outside A stays -/
def Fr (A : List Addr) (H H' : Hp) : Prop := ∀ b o, b ∉ A → H b = some o → H' b = some o
theorem Fr.refl (A : List Addr) (H : Hp) : Fr A H H := fun _ _ _ h => h
theorem Fr.trans {A : List Addr} {H H1 H2 : Hp} (a : Fr A H H1) (b : Fr A H1 H2) : Fr A H H2 := fun c o n h => b c o n (a c o n h)
theorem Fr.of {A : List Addr} {H H1 : Hp} (a : Same H H1) : Fr A H H1 := fun c o _ h => a c o h
theorem Fr.upd {A : List Addr} {H H1 : Hp} {p : Addr} {o : HO} (a : Fr A H H1) (m : p ∈ A) : Fr A H (L2.upd H1 p o) := fun c u n h => by
  rw [upd_ne (fun e => n (by rw [e]; exact m))]
  exact a c u n h
theorem Fr.new {A : List Addr} {H H1 : Hp} {p : Addr} {o : HO} (a : Fr A H H1) (m : H1 p = none) : Fr A H (L2.upd H1 p o) := a.trans (.of (same_new m))
theorem Fr.mono {A B : List Addr} {H H1 : Hp} (a : Fr A H H1) (s : ∀ x ∈ A, x ∈ B) : Fr B H H1 := fun c o n h => a c o (fun m => n (s c m)) h
theorem Same.fr {H H1 : Hp} (a : Fr [] H H1) : Same H H1 := fun c o h => a c o (by simp) h
theorem ne_of_obj {H : Hp} {a b : Addr} {o u : HO} (h : H a = some o) (h2 : H b = some u) (n : o ≠ u) : a ≠ b := fun e => by
  rw [e, h2] at h
  exact n (Option.some.inj h).symm
/-- two lists, item by item -/
inductive All2 {α β : Type} (R : α → β → Prop) : List α → List β → Prop
  | nil : All2 R [] []
  | cons {x y xs ys} : R x y → All2 R xs ys → All2 R (x :: xs) (y :: ys)
theorem All2.mono {α β : Type} {R S : α → β → Prop} (i : ∀ x y, R x y → S x y) : ∀ {xs : List α} {ys : List β}, All2 R xs ys → All2 S xs ys
  | _, _, .nil => .nil
  | _, _, .cons h t => .cons (i _ _ h) (t.mono i)
theorem All2.snoc {α β : Type} {R : α → β → Prop} {x : α} {y : β} (h : R x y) : ∀ {xs : List α} {ys : List β}, All2 R xs ys → All2 R (xs ++ [x]) (ys ++ [y])
  | _, _, .nil => .cons h .nil
  | _, _, .cons h1 t => .cons h1 (t.snoc h)
theorem All2.length {α β : Type} {R : α → β → Prop} : ∀ {xs : List α} {ys : List β}, All2 R xs ys → xs.length = ys.length
  | _, _, .nil => rfl
  | _, _, .cons _ t => by rw [List.length_cons, List.length_cons, t.length]
theorem All2.get {α β : Type} {R : α → β → Prop} : ∀ {xs : List α} {ys : List β} {i : Nat} {y : β}, All2 R xs ys → ys[i]? = some y → ∃ x, xs[i]? = some x ∧ R x y
  | _, _, 0, y, .cons h _, e => ⟨_, rfl, by cases e; exact h⟩
  | _, _, i + 1, y, .cons _ t, e => by
    obtain ⟨x, e1, r⟩ := t.get (i := i) (by simpa using e)
    exact ⟨x, by simpa using e1, r⟩
  | _, _, i, y, .nil, e => by simp at e
theorem All2.getL {α β : Type} {R : α → β → Prop} : ∀ {xs : List α} {ys : List β} {i : Nat} {x : α}, All2 R xs ys → xs[i]? = some x → ∃ y, ys[i]? = some y ∧ R x y
  | _, _, 0, y, .cons h _, e => ⟨_, rfl, by cases e; exact h⟩
  | _, _, i + 1, y, .cons _ t, e => by
    obtain ⟨x, e1, r⟩ := t.getL (i := i) (by simpa using e)
    exact ⟨x, by simpa using e1, r⟩
  | _, _, i, y, .nil, e => by simp at e
theorem All2.of_map {α β : Type} {R : α → β → Prop} {f : α → β} (h : ∀ x, R x (f x)) : ∀ (xs : List α), All2 R xs (xs.map f)
  | [] => .nil
  | x :: r => .cons (h x) (All2.of_map h r)
theorem All2.map_eq {α β : Type} {f : α → β} : ∀ {xs : List α} {ys : List β}, All2 (fun x y => y = f x) xs ys → ys = xs.map f
  | _, _, .nil => rfl
  | _, _, .cons h t => by rw [h, t.map_eq]; rfl
theorem All2.map_l {α β γ : Type} {f : γ → α} {R : α → β → Prop} : ∀ {xs : List γ} {ys : List β}, All2 R (xs.map f) ys → All2 (fun x y => R (f x) y) xs ys
  | [], _, .nil => .nil
  | _ :: _, _, .cons h t => .cons h t.map_l
theorem All2.mapO_eq {f : V → Option PyData} {g : α → PyData} : ∀ {xs : List α} {ys : List V}, All2 (fun x y => f y = some (g x)) xs ys → mapO f ys = some (xs.map g)
  | _, _, .nil => rfl
  | _, _, .cons h t => by
    unfold mapO
    rw [h, t.mapO_eq]
    rfl
/-- what stays told, whatever becomes of the new list -/
def Keeps (R : Hp → α → V → Prop) : Prop := ∀ H H' D xs x y, H D = some (.lst xs) → Fr [D] H H' → R H x y → R H' x y
theorem keeps_pure {R : α → V → Prop} : Keeps (fun _ => R) := fun _ _ _ _ _ _ _ _ r => r
theorem keeps_tup {f : α → List V} : Keeps (fun H x y => ∃ q, y = .ref q ∧ H q = some (.tup (f x))) := fun H H' D xs x y hD fr ⟨q, e, h⟩ =>
  ⟨q, e, fr q _ (fun m => by
    have e2 : q = D := by simpa using m
    rw [e2, hD] at h
    cases h) h⟩
section
variable {K : PySem.W.Frag} {tl te : TE} {ta : TA} {g : TG} {tb : TS} {D : Ends} {σ : L2.St} {H : Hp} {vs : List Nat} {Q : VK}
/-- [e for x in a list] -/
theorem lcut {tl : TE} (G : Addr → Hp → Prop) (R : Hp → V → V → Prop) (xs : List V) (hk : Keeps R) (h1 : ∀ Z : VK, (∀ a H1, G a H1 → Z (.ref a) H1) → tl σ H Z) (h0 : ∀ a H1, G a H1 → SqL K H1 a xs) (hlen : xs.length ≤ sizeLine)
    (hs : ∀ a H1 H2 (i : Nat) x (Z : VK), G a H1 → xs[i]? = some x → Same H1 H2 → (∀ y H3, Same H2 H3 → R H3 x y → Z y H3) → g x (wipe σ vs) H2 fun σ2 H3' => wipe σ2 vs = wipe σ vs ∧ te σ2 H3' Z)
    (hd : ∀ a H1 H3 D rs, G a H1 → H1 D = none → Same H1 H3 → H3 D = some (.lst rs) → All2 (R H3) xs rs → Q (.ref D) H3) : tLc (iList K tl) g tYes te vs σ H Q := by
  refine h1 _ fun a H1 hG => ⟨a, rfl, ⟨xs, h0 a H1 hG⟩, fun D nD => ?_⟩
  refine lc_list (xs := xs) (fun i H' => Same H1 H' ∧ ∃ rs, H' D = some (.lst rs) ∧ All2 (R H') (xs.take i) rs) ⟨same_new nD, [], upd_same, by rw [List.take_zero]; exact .nil⟩ (fun i H' _ h => h.1.seq (h0 a H1 hG)) ?_ ?_
  · rintro i x H' hx ⟨s1, rs, hD, ar⟩
    obtain ⟨hi, hx2⟩ := List.getElem?_eq_some_iff.mp hx
    simp only [tYes, if_true]
    refine hs a H1 H' i x _ hG hx s1 fun y H3 s3 r3 => ?_
    have hl : rs.length < sizeLine := by
      rw [← ar.length, List.length_take]
      omega
    refine ⟨rs, s3 _ _ hD, hl, fun c o ec => ?_, rs ++ [y], upd_same, ?_⟩
    · rw [upd_ne (ne_of_none ec nD)]
      exact s3 _ _ (s1 _ _ ec)
    · have f3 : Fr [D] H3 (upd H3 D (.lst (rs ++ [y]))) := (Fr.refl _ _).upd (by simp)
      have e : xs.take (i + 1) = xs.take i ++ [x] := by rw [List.take_succ, hx]; rfl
      rw [e]
      exact (ar.mono fun u v r => hk _ _ D _ u v (s3 _ _ hD) f3 (hk _ _ D _ u v hD (.of s3) r)).snoc (hk _ _ D _ x y (s3 _ _ hD) f3 r3)
  · rintro H' ⟨s1, rs, hD, ar⟩
    rw [List.take_length] at ar
    exact hd a H1 H' D rs hG nD s1 hD ar
/-- [e for x in range(n)] -/
theorem rcut {wi : TI} (lo : Int) (n : Nat) (G : Hp → Prop) (R : Hp → Nat → V → Prop) (hk : Keeps R) (h1 : ∀ Z : It → Hp → Prop, (∀ H1, G H1 → Z (Itr lo n) H1) → wi σ H Z) (hlen : n ≤ sizeLine)
    (hs : ∀ H1 H2 i (Z : VK), G H1 → i < n → Same H1 H2 → (∀ y H3, Same H2 H3 → R H3 i y → Z y H3) → g (.int (lo + i)) (wipe σ vs) H2 fun σ2 H3' => wipe σ2 vs = wipe σ vs ∧ te σ2 H3' Z)
    (hd : ∀ H1 H3 D rs, G H1 → H1 D = none → Same H1 H3 → H3 D = some (.lst rs) → All2 (R H3) (List.range n) rs → Q (.ref D) H3) : tLc wi g tYes te vs σ H Q := by
  refine h1 _ fun H1 hG => fun D nD => ?_
  refine lc_range (fun i H' => Same H1 H' ∧ ∃ rs, H' D = some (.lst rs) ∧ All2 (R H') (List.range i) rs) ⟨same_new nD, [], upd_same, .nil⟩ ?_ ?_
  · rintro i H' hi ⟨s1, rs, hD, ar⟩
    simp only [tYes, if_true]
    refine hs H1 H' i _ hG hi s1 fun y H3 s3 r3 => ?_
    have hl : rs.length < sizeLine := by
      rw [← ar.length, List.length_range]
      omega
    refine ⟨rs, s3 _ _ hD, hl, fun c o ec => ?_, rs ++ [y], upd_same, ?_⟩
    · rw [upd_ne (ne_of_none ec nD)]
      exact s3 _ _ (s1 _ _ ec)
    · have f3 : Fr [D] H3 (upd H3 D (.lst (rs ++ [y]))) := (Fr.refl _ _).upd (by simp)
      rw [List.range_succ]
      exact (ar.mono fun u v r => hk _ _ D _ u v (s3 _ _ hD) f3 (hk _ _ D _ u v hD (.of s3) r)).snoc (hk _ _ D _ i y (s3 _ _ hD) f3 r3)
  · rintro H' ⟨s1, rs, hD, ar⟩
    exact hd H1 H' D rs hG nD s1 hD ar
/-- [e for i, x in enumerate(a list)] -/
theorem ecut {ta : TA} (G : Addr → Hp → Prop) (R : Hp → Nat × V → V → Prop) (xs : List V) (hk : Keeps R) (h1 : ∀ Z : List V → Hp → Prop, (∀ a H1, G a H1 → Z [.ref a] H1) → ta σ H Z) (h0 : ∀ a H1, G a H1 → SqL K H1 a xs) (hlen : xs.length ≤ sizeLine)
    (hs : ∀ a H1 H2 (i : Nat) x T (Z : VK), G a H1 → xs[i]? = some x → Same H1 H2 → H2 T = some (.tup [.int (i : Nat), x]) → (∀ y H3, Same H2 H3 → R H3 (i, x) y → Z y H3) → g (.ref T) (wipe σ vs) H2 fun σ2 H3' => wipe σ2 vs = wipe σ vs ∧ te σ2 H3' Z)
    (hd : ∀ a H1 H3 D rs, G a H1 → H1 D = none → Same H1 H3 → H3 D = some (.lst rs) → All2 (R H3) ((List.range xs.length).zip xs) rs → Q (.ref D) H3) : tLc (iEnum K ta) g tYes te vs σ H Q := by
  refine h1 _ fun a H1 hG => ⟨a, xs, rfl, h0 a H1 hG, fun D nD => ?_⟩
  refine ⟨fun i m H' => m = xs.length - i ∧ i ≤ xs.length ∧ Same H1 H' ∧ ∃ rs, H' D = some (.lst rs) ∧ All2 (R H') ((List.range i).zip (xs.take i)) rs, ⟨xs.length, by simp, Nat.zero_le _, same_new nD, [], upd_same, .nil⟩, ?_⟩
  rintro i m H' ⟨rfl, hi, s1, rs, hD, ar⟩
  have q := s1.seq (h0 a H1 hG)
  by_cases hlt : i < xs.length
  · refine .inr ⟨⟨xs, xs[i], q, by simp [hlt]⟩, fun H' => i + 1 ≤ xs.length ∧ Same H1 H' ∧ ∃ rs, H' D = some (.lst rs) ∧ All2 (R H') ((List.range (i + 1)).zip (xs.take (i + 1))) rs, fun H' p' => ⟨xs.length - (i + 1), by omega, rfl, hlt, p'.2⟩, fun v H'' y => ?_⟩
    obtain ⟨T, x, rfl, nT, rfl, hx⟩ := y
    have hx := hx xs q
    have sT : Same H' (upd H' T (.tup [.int (i : Nat), x])) := same_new nT
    simp only [tYes, if_true]
    refine hs a H1 _ i x T _ hG hx (s1.trans sT) upd_same fun y H3 s3 r3 => ?_
    have hl : rs.length < sizeLine := by
      rw [← ar.length, List.length_zip, List.length_take, List.length_range]
      omega
    have s4 := sT.trans s3
    refine ⟨rs, s4 _ _ hD, hl, hlt, fun c o ec => ?_, rs ++ [y], upd_same, ?_⟩
    · rw [upd_ne (ne_of_none ec nD)]
      exact s4 _ _ (s1 _ _ ec)
    · have f3 : Fr [D] H3 (upd H3 D (.lst (rs ++ [y]))) := (Fr.refl _ _).upd (by simp)
      have e : xs.take (i + 1) = xs.take i ++ [x] := by rw [List.take_succ, hx]; rfl
      rw [e, List.range_succ, List.zip_append (by rw [List.length_range, List.length_take]; omega)]
      exact (ar.mono fun u v r => hk _ _ D _ u v (s4 _ _ hD) f3 (hk _ _ D _ u v hD (.of s4) r)).snoc (hk _ _ D _ (i, x) y (s4 _ _ hD) f3 r3)
  · have e : i = xs.length := by omega
    subst e
    rw [List.take_length] at ar
    exact .inl ⟨⟨xs, q, Nat.le_refl _⟩, hd a H1 H' D rs hG nD s1 hD ar⟩
/-- [e for x in range(n) if ..] -/
theorem rcutF {tt : TT} {wi : TI} (lo : Int) (n : Nat) (c : Nat → Bool) (G : Hp → Prop) (R : Hp → Nat → V → Prop) (hk : Keeps R) (h1 : ∀ Z : It → Hp → Prop, (∀ H1, G H1 → Z (Itr lo n) H1) → wi σ H Z) (hlen : n ≤ sizeLine)
    (hs : ∀ H1 H2 i (Z : VK) (W : Hp → Prop), G H1 → i < n → Same H1 H2 → (c i = true → ∀ y H3, Same H2 H3 → R H3 i y → Z y H3) → (c i = false → ∀ H3, Same H2 H3 → W H3) → g (.int (lo + i)) (wipe σ vs) H2 fun σ2 H3' => wipe σ2 vs = wipe σ vs ∧ tt σ2 H3' fun b H3 => if b = true then te σ2 H3 Z else W H3)
    (hd : ∀ H1 H3 D rs, G H1 → H1 D = none → Same H1 H3 → H3 D = some (.lst rs) → All2 (R H3) ((List.range n).filter c) rs → Q (.ref D) H3) : tLc wi g tt te vs σ H Q := by
  refine h1 _ fun H1 hG => fun D nD => ?_
  refine lc_range (fun i H' => i ≤ n ∧ Same H1 H' ∧ ∃ rs, H' D = some (.lst rs) ∧ All2 (R H') ((List.range i).filter c) rs) ⟨Nat.zero_le _, same_new nD, [], upd_same, .nil⟩ ?_ ?_
  · rintro i H' hi ⟨_, s1, rs, hD, ar⟩
    refine hs H1 H' i _ _ hG hi s1 (fun hc y H3 s3 r3 => ?_) (fun hc H3 s3 => ?_)
    · have hl : rs.length < sizeLine := by
        rw [← ar.length]
        exact Nat.lt_of_le_of_lt (List.length_filter_le _ _) (by rw [List.length_range]; omega)
      refine ⟨rs, s3 _ _ hD, hl, hi, fun c o ec => ?_, rs ++ [y], upd_same, ?_⟩
      · rw [upd_ne (ne_of_none ec nD)]
        exact s3 _ _ (s1 _ _ ec)
      · have f3 : Fr [D] H3 (upd H3 D (.lst (rs ++ [y]))) := (Fr.refl _ _).upd (by simp)
        rw [List.range_succ, List.filter_append, List.filter_cons, if_pos hc]
        exact (ar.mono fun u v r => hk _ _ D _ u v (s3 _ _ hD) f3 (hk _ _ D _ u v hD (.of s3) r)).snoc (hk _ _ D _ i y (s3 _ _ hD) f3 r3)
    · refine ⟨hi, s1.trans s3, rs, s3 _ _ hD, ?_⟩
      rw [List.range_succ, List.filter_append, List.filter_cons, if_neg (by rw [hc]; exact Bool.false_ne_true), List.filter_nil, List.append_nil]
      exact ar.mono fun u v r => hk _ _ D _ u v hD (.of s3) r
  · rintro H' ⟨_, s1, rs, hD, ar⟩
    exact hd H1 H' D rs hG nD s1 hD ar
/-- [e for x in a list if ..], none of which is taken -/
theorem lcut0 {tt : TT} {tl : TE} (G : Addr → Hp → Prop) (xs : List V) (h1 : ∀ Z : VK, (∀ a H1, G a H1 → Z (.ref a) H1) → tl σ H Z) (h0 : ∀ a H1, G a H1 → SqL K H1 a xs)
    (hs : ∀ a H1 H2 (i : Nat) x (Z : VK) (W : Hp → Prop), G a H1 → xs[i]? = some x → Same H1 H2 → (∀ H3, Same H2 H3 → W H3) → g x (wipe σ vs) H2 fun σ2 H3' => wipe σ2 vs = wipe σ vs ∧ tt σ2 H3' fun b H3 => if b = true then te σ2 H3 Z else W H3)
    (hd : ∀ a H1 H3 D, G a H1 → H1 D = none → Same H1 H3 → H3 D = some (.lst []) → Q (.ref D) H3) : tLc (iList K tl) g tt te vs σ H Q := by
  refine h1 _ fun a H1 hG => ⟨a, rfl, ⟨xs, h0 a H1 hG⟩, fun D nD => ?_⟩
  refine lc_list (xs := xs) (fun i H' => Same H1 H' ∧ H' D = some (.lst [])) ⟨same_new nD, upd_same⟩ (fun i H' _ h => h.1.seq (h0 a H1 hG)) ?_ ?_
  · rintro i x H' hx ⟨s1, hD⟩
    exact hs a H1 H' i x _ _ hG hx s1 fun H3 s3 => ⟨s1.trans s3, s3 _ _ hD⟩
  · rintro H' ⟨s1, hD⟩
    exact hd a H1 H' D hG nD s1 hD
/-- for x in range(..) -/
theorem for_rcut {wi : TI} (lo : Int) (n : Nat) (G : Hp → Prop) (h1 : ∀ Z : It → Hp → Prop, (∀ H1, G H1 → Z (Itr lo n) H1) → wi σ H Z) (Pv : Nat → L2.St → Hp → Prop) (h0 : ∀ H1, G H1 → Pv 0 σ H1)
    (hs : ∀ i σ H, i < n → Pv i σ H → g (.int (lo + i)) σ H fun σ2 H2 => tb { D with nx := Pv (i + 1), ct := Pv (i + 1), bk := D.nx } σ2 H2) (hd : ∀ σ H, Pv n σ H → D.nx σ H) : tFor wi g tb D σ H :=
  h1 _ fun H1 q => for_range Pv (h0 H1 q) hs hd
end
/-! #### sorted of a dict with int keys -/
def srt (ks : List Int) : List Int := ks.mergeSort fun a b => decide (a ≤ b)
theorem srt_perm (ks : List Int) : (srt ks).Perm ks := List.mergeSort_perm ..
theorem srt_mem {ks : List Int} {k : Int} : k ∈ srt ks ↔ k ∈ ks := (srt_perm ks).mem_iff
theorem srt_length (ks : List Int) : (srt ks).length = ks.length := (srt_perm ks).length_eq
theorem call_sortedC {X : Cx} (hcalm : X.calm = true) : CallR X (.builtin "sorted") (fun xs H Q => ∃ (a : Addr) (kvs : List (Key × V)) (ks : List Int), xs = [.ref a] ∧ H a = some (.dK kvs) ∧ kvs.map (·.1) = ks.map Sum.inl ∧ ks.length < 64 ∧
    ∀ p : Addr, H p = none → Q (.ref p) (upd H p (.lst ((srt ks).map V.int)))) :=
  call_imp (call_sortedDI hcalm) fun xs H Q ⟨a, kvs, ks, e, h, hk, l, q⟩ => ⟨a, kvs, ks, e, Rd.of h, hk, l, fun ys p pm so n => by
    have e : ys = srt ks := by
      refine List.Perm.eq_of_pairwise (le := fun a b => a ≤ b) (fun a b _ _ h1 h2 => Int.le_antisymm h1 h2) so ?_ (pm.trans (srt_perm ks).symm)
      have z := List.pairwise_mergeSort (le := fun a b : Int => decide (a ≤ b)) (fun a b c h1 h2 => by simp only [decide_eq_true_eq] at *; omega) (fun a b => by simp only [Bool.or_eq_true, decide_eq_true_eq]; omega) ks
      exact z.imp fun h => of_decide_eq_true h
    rw [e]
    exact q p n⟩
/-! #### texts -/
def TxtOk (n : Nat) (x : Str) : Prop := PyData.strOk x = true ∧ x.length ≤ n
theorem TxtOk.mono {n m : Nat} {x : Str} (h : TxtOk n x) (l : n ≤ m) : TxtOk m x := ⟨h.1, Nat.le_trans h.2 l⟩
theorem strOk_iff {x : Str} : PyData.strOk x = true ↔ ∀ c ∈ x.cps.toList, c < 0x110000 := by
  unfold PyData.strOk
  rw [Array.all_eq_true_iff_forall_mem]
  simp only [decide_eq_true_eq]
  exact ⟨fun h c m => h c (by simpa using m), fun h c m => h c (by simpa using m)⟩
theorem append_cps (x y : Str) : (x ++ y).cps.toList = x.cps.toList ++ y.cps.toList := by
  show (x.cps ++ y.cps).toList = _
  simp
theorem length_append (x y : Str) : (x ++ y).length = x.length + y.length := by
  show (x.cps ++ y.cps).size = _
  rw [Array.size_append]; rfl
theorem TxtOk.app {n m : Nat} {x y : Str} (h : TxtOk n x) (h2 : TxtOk m y) : TxtOk (n + m) (x ++ y) := by
  refine ⟨strOk_iff.mpr fun c hc => ?_, by rw [length_append]; exact Nat.add_le_add h.2 h2.2⟩
  rw [append_cps] at hc
  rcases List.mem_append.mp hc with z | z
  · exact strOk_iff.mp h.1 c z
  · exact strOk_iff.mp h2.1 c z
/-- an attribute, within a block: the reading names no block -/
theorem pe_fldK {X : Cx} {K : PySem.W.Frag} {e : Expr} {ta : TE} {f : Str} {pos : Pos} (hK : X.K = K) (he : PE X e ta) (hb : attributeBase e f X.env (eval e X.env) = eval e X.env) : PE X (.Attribute e f pos) (tFld K ta f) := by
  subst hK
  exact pe_fld he hb
/-- a, b = a tuple -/
def gTupC (n : Nat) (t : TGs) : TG := fun v σ H Q => ∃ a, v = .ref a ∧ ∃ xs, H a = some (.tup xs) ∧ xs.length = n ∧ t xs σ H Q
theorem pg_tupC {X : Cx} {pos : Pos} {es : List Expr} {k : Nat} {t : TGs} {n : Nat} (hc : X.calm = true) (h : PGs X es t)
    (hn : (assignEach es X.env).length = n := by rfl) (hst : (assignEach es X.env).findIdx? (·.1) = none := by rfl) : PG X (.Tuple es k pos) (gTupC n t) :=
  ⟨fun pins s σ H v u Q I r ⟨a, e, xs, ha, hl, q⟩ => (pg_tup hc h hn hst).run pins s σ H v u Q I r ⟨a, xs, e, SqT.of ha, hl, q⟩⟩
/-- b if c else d, as a test -/
def tIfT (c a b : TT) : TT := fun σ H Q => c σ H fun d H1 => if d = true then a σ H1 Q else b σ H1 Q
theorem pt_ifExp {X : Cx} {pos : Pos} {c a b : Expr} {tc ta tb : TT} (hc : PT X c tc) (ha : PT X a ta) (hb : PT X b tb) : PT X (.IfExp c a b pos) (tIfT tc ta tb) := by
  refine ⟨fun pins s σ H Q I h => ?_⟩
  refine PyProof.Rows.isTrue_IfExp (thn (hc.run pins s σ H _ I h) fun d s1 ⟨H1, I1, q1⟩ => ?_)
  cases d with
  | true => exact ha.run pins s1 σ H1 Q I1 q1
  | false => exact hb.run pins s1 σ H1 Q I1 q1
/-- one statement, by where it gets to -/
theorem seq_rel {t u : TS} {D : Ends} {σ : L2.St} {H : Hp} (R : L2.St → Hp → Prop) (h1 : ∀ N : L2.St → Hp → Prop, (∀ σ1 H1, R σ1 H1 → N σ1 H1) → t { D with nx := N } σ H) (h2 : ∀ σ1 H1, R σ1 H1 → u D σ1 H1) : tSeq t u D σ H := h1 _ h2
theorem seq_to {t u : TS} {D : Ends} {σ : L2.St} {H : Hp} (σ1 : L2.St) (H1 : Hp) (h1 : ∀ N : L2.St → Hp → Prop, N σ1 H1 → t { D with nx := N } σ H) (h2 : u D σ1 H1) : tSeq t u D σ H := h1 _ h2
theorem call_listC {X : Cx} : CallR X (.type "list") (fun xs H Q => ∃ p ys, xs = [.ref p] ∧ seqO H p = some ys ∧ ∀ l, H l = none → Q (.ref l) (upd H l (.lst ys))) :=
  call_imp call_list_of fun vs H Q ⟨p, ys, e, h, q⟩ => ⟨p, ys, e, seqO_ok h, q⟩
theorem call_tupleC {X : Cx} : CallR X (.type "tuple") (fun xs H Q => ∃ p ys, xs = [.ref p] ∧ H p = some (.lst ys) ∧ ∀ l, H l = none → Q (.ref l) (upd H l (.tup ys))) :=
  call_imp call_tuple_of fun vs H Q ⟨p, ys, e, h, q⟩ => ⟨p, ys, e, .inl ⟨SqL.of h, q⟩⟩
theorem call_dictC {X : Cx} : CallR X (.type "dict") (fun xs H Q => ∃ p kvs, xs = [.ref p] ∧ H p = some (.dK kvs) ∧ ∀ l : Addr, H l = none → Q (.ref l) (upd H l (.dK kvs))) :=
  call_imp call_dictD fun vs H Q ⟨p, ys, e, h, q⟩ => ⟨p, ys, e, Rd.of h, q⟩
/-- texts: one sign -/
theorem ix_strC {X : Cx} : IxR X (fun x y H Q => ∃ z i, x = .str z ∧ y = .int i ∧ z.length ≤ sizeLine ∧ ∃ c, atI z.cps.toList i = some c ∧ Q (.str ⟨#[c]⟩) H) := ix_imp ix_str fun x y H Q ⟨z, i, e1, e2, l, c, h, q⟩ => ⟨z, i, c, e1, e2, l, h, q⟩
theorem RDq :
    (∀ (σ : L2.St) (H : Hp) (Q : VK), tDNewK σ H Q = ∀ p, H p = none → Q (.ref p) (upd H p (.dK []))) ∧
    (∀ (trs : List (TE × TE)) (σ : L2.St) (H : Hp) (Q : VK), tDisp trs σ H Q = ∀ p, H p = none → tPairs trs σ (upd H p (.dK [])) fun ps H2 => H2 p = some (.dK []) ∧ ∃ kvs : List (Key × V), ps = kvs.map (fun kv => (kV kv.1, kv.2)) ∧ kvs.length ≤ 15 ∧ Q (.ref p) (upd H2 p (.dK (mergeK [] kvs)))) ∧
    (∀ (σ : L2.St) (H : Hp) (Q : List (V × V) → Hp → Prop), tPairs [] σ H Q = Q [] H) ∧
    (∀ (tk tv : TE) (r : List (TE × TE)) (σ : L2.St) (H : Hp) (Q : List (V × V) → Hp → Prop), tPairs ((tk, tv) :: r) σ H Q = tk σ H fun x H1 => tv σ H1 fun y H2 => tPairs r σ H2 fun ps H3 => Q ((x, y) :: ps) H3) ∧
    (∀ (x y : V) (H : Hp) (Q : VK), rCat x y H Q = ∃ l b xs zs, x = .ref l ∧ y = .ref b ∧ H l = some (.lst xs) ∧ H b = some (.lst zs) ∧ xs.length + zs.length ≤ sizeLine ∧ ∀ p, H p = none → Q (.ref p) (upd H p (.lst (xs ++ zs)))) ∧
    (∀ (x y : V) (H : Hp) (Q : VK), rRep x y H Q = ∃ l k xs, x = .ref l ∧ y = .int k ∧ H l = some (.lst xs) ∧ -(2 ^ 63) ≤ k ∧ k < 2 ^ 63 ∧ xs.length * k.toNat ≤ sizeLine ∧ ∀ p, H p = none → Q (.ref p) (upd H p (.lst (List.replicate k.toNat xs).flatten))) ∧
    (∀ (K : PySem.W.Frag) (vs : List V) (H : Hp) (Q : VK), rAll K vs H Q = ∃ (a : Addr) (bs : List Bool), vs = [V.ref a] ∧ SqL K H a (bs.map V.bl) ∧ Q (.bl (bs.all id)) H) ∧
    (∀ (te : L2.St → Hp → (Int → Int → Hp → Prop) → Prop) (σ : L2.St) (H : Hp) (Q : VK), tLstRg te σ H Q = te σ H fun a b H1 => RgOk a b ∧ ∀ q, H1 q = none → Q (.ref q) (upd H1 q (.lst (rgV a b)))) ∧
    (∀ (ta : TE) (σ : L2.St) (H : Hp) (Q : Int → Int → Hp → Prop), tRg1 ta σ H Q = ta σ H fun x H1 => ∃ n, x = .int n ∧ Q 0 n H1) ∧
    (∀ (ta tb : TE) (σ : L2.St) (H : Hp) (Q : Int → Int → Hp → Prop), tRg2 ta tb σ H Q = ta σ H fun x H1 => tb σ H1 fun y H2 => ∃ i j, x = .int i ∧ y = .int j ∧ Q i j H2) ∧
    (∀ (r : V → List V → Hp → VK → Prop) (to te : TE) (σ : L2.St) (H : Hp) (Q : VK), tM1 r to te σ H Q = to σ H fun x H1 => (∃ a, x = .str a) ∧ te σ H1 fun y H2 => r x [y] H2 Q) ∧
    (∀ (x : V) (lo hi : Option Int) (H : Hp) (Q : VK), rSlS x lo hi H Q = ∃ z, x = .str z ∧ z.length ≤ sizeLine ∧ Q (.str (cutS z lo hi)) H) ∧
    (∀ (K : PySem.W.Frag) (x : V) (lo hi : Option Int) (H : Hp) (Q : VK), rSlL K x lo hi H Q = ∃ a xs, x = .ref a ∧ SqL K H a xs ∧ ∀ p, H p = none → Q (.ref p) (upd H p (.lst (cutV xs lo hi)))) ∧
    (∀ (α : Type) (f : α → V), ([] : List α).map f = []) ∧
    (∀ (ta : TA) (σ : L2.St) (H : Hp) (R : It → Hp → Prop), iRng1 ta σ H R = ta σ H fun vs H1 => ∃ j : Int, vs = [.int j] ∧ -(2 ^ 62) ≤ j ∧ j < 2 ^ 62 ∧ R (Itr 0 j.toNat) H1) ∧
    (∀ (ta : TA) (σ : L2.St) (H : Hp) (R : It → Hp → Prop), iRng2 ta σ H R = ta σ H fun vs H1 => ∃ i j : Int, vs = [.int i, .int j] ∧ (-(2 ^ 62) ≤ i ∧ i < 2 ^ 62 ∧ -(2 ^ 62) ≤ j ∧ j < 2 ^ 62) ∧ R (Itr i (j - i).toNat) H1) ∧
    (∀ (n : Nat) (t : TGs) (v : V) (σ : L2.St) (H : Hp) (Q : L2.St → Hp → Prop), gTupC n t v σ H Q = ∃ a, v = .ref a ∧ ∃ xs, H a = some (.tup xs) ∧ xs.length = n ∧ t xs σ H Q) ∧
    (∀ (c a b : TT) (σ : L2.St) (H : Hp) (Q : Bool → Hp → Prop), tIfT c a b σ H Q = c σ H fun d H1 => if d = true then a σ H1 Q else b σ H1 Q) ∧
    (∀ (K : PySem.W.Frag) (neg : Bool) (x y : V) (H : Hp) (Q : VK), rIn K neg x y H Q = ∃ p xs, y = .ref p ∧ (SqL K H p xs ∨ SqT K H p xs) ∧ flatV x = true ∧ xs.all flatV = true ∧ Q (.bl (if neg then !inV x xs else inV x xs)) H) ∧
    (∀ (σ : L2.St), wipe σ [] = σ) ∧ (∀ (σ : L2.St) (v : Nat) (vs : List Nat), wipe σ (v :: vs) = (wipe σ vs).set v none) :=
  ⟨fun _ _ _ => rfl, fun _ _ _ _ => rfl, fun _ _ _ => rfl, fun _ _ _ _ _ _ => rfl, fun _ _ _ _ => rfl, fun _ _ _ _ => rfl, fun _ _ _ _ => rfl, fun _ _ _ _ => rfl, fun _ _ _ _ => rfl, fun _ _ _ _ _ => rfl, fun _ _ _ _ _ _ => rfl, fun _ _ _ _ _ => rfl, fun _ _ _ _ _ _ => rfl, fun _ _ => rfl, fun _ _ _ _ => rfl, fun _ _ _ _ => rfl, fun _ _ _ _ _ _ => rfl, fun _ _ _ _ _ _ => rfl, fun _ _ _ _ _ _ => rfl, fun _ => rfl, fun _ _ _ => rfl⟩
/-! #### data under frames -/
theorem mapO_same {f f' : V → Option PyData} (hf : ∀ v d, f v = some d → f' v = some d) : ∀ (xs : List V) (ds : List PyData), mapO f xs = some ds → mapO f' xs = some ds
  | [], ds, h => h
  | v :: r, ds, h => by
    unfold mapO at h ⊢
    split at h
    · rename_i d ds' h1 h2
      cases h
      rw [hf _ _ h1, mapO_same hf r _ h2]
    · cases h
theorem dat_same {H H' : Hp} (s : Same H H') : ∀ (n : Nat) (v : V) (d : PyData), dat H n v = some d → dat H' n v = some d := by
  intro n
  induction n with
  | zero =>
    intro v d h
    cases v <;> exact h
  | succ n ih =>
    intro v d h
    cases v with
    | ref a =>
      unfold dat at h ⊢
      split at h
      · rename_i xs e1
        obtain ⟨ds, e2, rfl⟩ := Option.map_eq_some_iff.mp h
        rw [s _ _ e1]
        dsimp only
        rw [mapO_same ih _ _ e2]
        rfl
      · rename_i xs e1
        obtain ⟨ds, e2, rfl⟩ := Option.map_eq_some_iff.mp h
        rw [s _ _ e1]
        dsimp only
        rw [mapO_same ih _ _ e2]
        rfl
      · rename_i ob xs e1
        obtain ⟨ds, e2, rfl⟩ := Option.map_eq_some_iff.mp h
        rw [s _ _ e1]
        dsimp only
        rw [mapO_same ih _ _ e2]
        rfl
      · cases h
    | _ => exact h
/-- the heap but for A -/
def hm (A : List Addr) (H : Hp) : Hp := fun c => if c ∈ A then none else H c
theorem hm_in {A : List Addr} {H : Hp} {c : Addr} (h : c ∉ A) : hm A H c = H c := if_neg h
theorem hm_same {A : List Addr} {H : Hp} : Same (hm A H) H := fun c o h => by
  unfold hm at h
  split at h
  · cases h
  · exact h
theorem hm_fr {A : List Addr} {H H' : Hp} (f : Fr A H H') : Same (hm A H) (hm A H') := fun c o h => by
  unfold hm at h ⊢
  split at h
  · cases h
  · rename_i n
    rw [if_neg n]
    exact f c o n h
/-- the data of a list of texts -/
theorem dat_strs (H : Hp) (n : Nat) : ∀ (g : List Str), mapO (dat H n) (g.map V.str) = some (g.map PyData.str)
  | [] => rfl
  | x :: r => by
    have e : dat H n (.str x) = some (.str x) := (datE H).2.2.2.1 n x
    rw [List.map_cons]
    unfold mapO
    rw [e, dat_strs H n r]
    rfl
theorem dat_ints (H : Hp) (n : Nat) : ∀ (g : List Int), mapO (dat H n) (g.map V.int) = some (g.map PyData.int)
  | [] => rfl
  | x :: r => by
    have e : dat H n (.int x) = some (.int x) := (datE H).2.2.1 n x
    rw [List.map_cons]
    unfold mapO
    rw [e, dat_ints H n r]
    rfl
theorem mapO_append {f : V → Option PyData} : ∀ {xs ys : List V} {ds es : List PyData}, mapO f xs = some ds → mapO f ys = some es → mapO f (xs ++ ys) = some (ds ++ es)
  | [], ys, ds, es, h1, h2 => by cases h1; exact h2
  | x :: r, ys, ds, es, h1, h2 => by
    unfold mapO at h1
    split at h1
    · rename_i d ds' e1 e2
      cases h1
      rw [List.cons_append, List.cons_append]
      conv => lhs; unfold mapO
      rw [e1, mapO_append e2 h2]
    · cases h1
theorem shp_str {n m : Nat} {x : Str} (h : TxtOk n x) : Shp m (.str x) := (shp_s m).2.2.2 x h.1
theorem Shp.lay {n : Nat} {d : PyData} (h : Shp n d) : d.canLay0 = true := h.1
def mx2 (a b : Int) : Int := if b > a then b else a
end RP

namespace RP
open PySem PySem.Spec PyProof.Rows L2
def top (i : Nat) : Stmt := PySem.Challenge.pw_ringpost_k11_whole_broken_by_plain_rows.main.body.getD i (.Pass ⟨0, 0, 0, 0⟩)
/-- what the top says of an own error class -/
structure ErrC (K : PySem.W.Frag) (mg : Str → Option Value) (n : Str) : Prop where
  g : mg n = some (.ref (He.ga K n))
  ex : PySem.W.excIn K (He.ga K n) He.veBase "ValueError.__new__" = true
  k : PySem.W.keepIn K (.ref (He.ga K n)) = true
  s : PySem.W.subIn K (.ref (He.ga K n)) (.type "BaseException") = some true
  t : PySem.W.typeIn K (.ref (He.ga K n)) = some (.type "type")
end RP

namespace RP
open PySem PySem.Spec PyProof.Rows L2
abbrev s_is_among : Stmt := top 9
abbrev N_is_among : List Str := ["thing", "least", "most"]
theorem sc_is_among : FnScope N_is_among ["thing", "least", "most"] (defScope s_is_among) := ⟨rfl, rfl, rfl, by decide +kernel, rfl, by decide +kernel, by decide +kernel⟩
def sp_is_among (K : PySem.W.Frag) : Sp := fun vs H Q _ => ∃ x lo hi, vs = [x, .int lo, .int hi] ∧ Kn H x ∧ Q (.bl (amongV x lo hi)) H
theorem ok_is_among {P : Program} {w : World} {K : PySem.W.Frag} {mg : Str → Option Value} {base : Heap} (F : FnP K ("is_among", none) "is_among" "is_among" s_is_among) (hm : mg "is_among" = some (.ref (He.ga K "is_among"))) (bl : Blt mg) : Cal P w K mg base 1 "is_among" (sp_is_among K) := by
  refine fn_cal F hm sc_is_among (fun vs H Q E => by walk_at "len") (fun _ _ _ _ _ _ us hl => match us, hl with | [_, _, _], _ => rfl) (fun f cdv A outer s H vs Q E hr h => ?_)
  have hu := hu_of hr
  obtain ⟨x, lo, hi, rfl, hk, q⟩ := h
  refine ⟨_, (pss_one (ps_ret (pe_and (pe_callB call_isC (by rfl) (bl.isi) (by decide +kernel) (pa_cons (pv 0) (pa_cons (pe_bltn (v := .ty "int") (u := .type "int") rfl (bl.int) (by decide +kernel) rfl) pa_nil))) (pe_and (pe_not (pe_callB call_isC (by rfl) (bl.isi) (by decide +kernel) (pa_cons (pv 0) (pa_cons (pe_bltn (v := .ty "bool") (u := .type "bool") rfl (bl.bool) (by decide +kernel) rfl) pa_nil)))) (pe_one (pe_chain op_le op_le (pv 1) (pv 0) (pv 2))))))), ?_⟩
  walk_at "st0"
  simp only [RDa, RDb, RDv, RDk, RDx, RDe, RDd, RDp, RDq, List.getElem?_cons_zero, List.getElem?_cons_succ, List.set_cons_zero, List.set_cons_succ, List.cons.injEq, List.cons_ne_nil, reduceCtorEq, exists_eq_left', exists_eq_left, exists_and_left, and_assoc, exists_const, true_and, and_true, if_true, if_false, false_and, and_false, exists_false, false_or, or_false, true_implies, false_implies, implies_true, forall_eq, forall_eq', Bool.false_eq_true, if_neg, decide_eq_true_eq, Bool.not_eq_true', decide_eq_false_iff_not, Bool.not_true, Bool.not_false, List.length_cons, List.length_nil, sizeLine_eq, Nat.reduceAdd, Nat.reduceLeDiff, Nat.reduceLT, Int.reduceLT, Int.reduceLE, Int.emod_nonneg, ne_eq, Int.reduceEq, not_false_eq_true, not_true_eq_false]
  rcases hk.cases with rfl | ⟨b, rfl⟩ | ⟨n, rfl⟩ | ⟨z, rfl⟩ | ⟨a, t, rfl, ht, rfl | rfl | rfl⟩
  · simp only [RDa, RDb, RDv, RDk, RDx, RDe, RDd, RDp, RDq, List.getElem?_cons_zero, List.getElem?_cons_succ, List.set_cons_zero, List.set_cons_succ, List.cons.injEq, List.cons_ne_nil, reduceCtorEq, exists_eq_left', exists_eq_left, exists_and_left, and_assoc, exists_const, true_and, and_true, if_true, if_false, false_and, and_false, exists_false, false_or, or_false, true_implies, false_implies, implies_true, forall_eq, forall_eq', Bool.false_eq_true, if_neg, decide_eq_true_eq, Bool.not_eq_true', decide_eq_false_iff_not, Bool.not_true, Bool.not_false, List.length_cons, List.length_nil, sizeLine_eq, Nat.reduceAdd, Nat.reduceLeDiff, Nat.reduceLT, Int.reduceLT, Int.reduceLE, Int.emod_nonneg, ne_eq, Int.reduceEq, not_false_eq_true, not_true_eq_false]
    exact q
  · simp only [RDa, RDb, RDv, RDk, RDx, RDe, RDd, RDp, RDq, List.getElem?_cons_zero, List.getElem?_cons_succ, List.set_cons_zero, List.set_cons_succ, List.cons.injEq, List.cons_ne_nil, reduceCtorEq, exists_eq_left', exists_eq_left, exists_and_left, and_assoc, exists_const, true_and, and_true, if_true, if_false, false_and, and_false, exists_false, false_or, or_false, true_implies, false_implies, implies_true, forall_eq, forall_eq', Bool.false_eq_true, if_neg, decide_eq_true_eq, Bool.not_eq_true', decide_eq_false_iff_not, Bool.not_true, Bool.not_false, List.length_cons, List.length_nil, sizeLine_eq, Nat.reduceAdd, Nat.reduceLeDiff, Nat.reduceLT, Int.reduceLT, Int.reduceLE, Int.emod_nonneg, ne_eq, Int.reduceEq, not_false_eq_true, not_true_eq_false]
    exact q
  · simp only [RDa, RDb, RDv, RDk, RDx, RDe, RDd, RDp, RDq, List.getElem?_cons_zero, List.getElem?_cons_succ, List.set_cons_zero, List.set_cons_succ, List.cons.injEq, List.cons_ne_nil, reduceCtorEq, exists_eq_left', exists_eq_left, exists_and_left, and_assoc, exists_const, true_and, and_true, if_true, if_false, false_and, and_false, exists_false, false_or, or_false, true_implies, false_implies, implies_true, forall_eq, forall_eq', Bool.false_eq_true, if_neg, decide_eq_true_eq, Bool.not_eq_true', decide_eq_false_iff_not, Bool.not_true, Bool.not_false, List.length_cons, List.length_nil, sizeLine_eq, Nat.reduceAdd, Nat.reduceLeDiff, Nat.reduceLT, Int.reduceLT, Int.reduceLE, Int.emod_nonneg, ne_eq, Int.reduceEq, not_false_eq_true, not_true_eq_false]
    unfold amongV at q
    by_cases h1 : lo ≤ n
    · rw [if_pos h1]
      simpa [h1] using q
    · rw [if_neg h1]
      simpa [h1] using q
  · simp only [RDa, RDb, RDv, RDk, RDx, RDe, RDd, RDp, RDq, List.getElem?_cons_zero, List.getElem?_cons_succ, List.set_cons_zero, List.set_cons_succ, List.cons.injEq, List.cons_ne_nil, reduceCtorEq, exists_eq_left', exists_eq_left, exists_and_left, and_assoc, exists_const, true_and, and_true, if_true, if_false, false_and, and_false, exists_false, false_or, or_false, true_implies, false_implies, implies_true, forall_eq, forall_eq', Bool.false_eq_true, if_neg, decide_eq_true_eq, Bool.not_eq_true', decide_eq_false_iff_not, Bool.not_true, Bool.not_false, List.length_cons, List.length_nil, sizeLine_eq, Nat.reduceAdd, Nat.reduceLeDiff, Nat.reduceLT, Int.reduceLT, Int.reduceLE, Int.emod_nonneg, ne_eq, Int.reduceEq, not_false_eq_true, not_true_eq_false]
    exact q
  · simp only [RDa, RDb, RDv, RDk, RDx, RDe, RDd, RDp, RDq, List.getElem?_cons_zero, List.getElem?_cons_succ, List.set_cons_zero, List.set_cons_succ, List.cons.injEq, List.cons_ne_nil, reduceCtorEq, exists_eq_left', exists_eq_left, exists_and_left, and_assoc, exists_const, true_and, and_true, if_true, if_false, false_and, and_false, exists_false, false_or, or_false, true_implies, false_implies, implies_true, forall_eq, forall_eq', Bool.false_eq_true, if_neg, decide_eq_true_eq, Bool.not_eq_true', decide_eq_false_iff_not, Bool.not_true, Bool.not_false, List.length_cons, List.length_nil, sizeLine_eq, Nat.reduceAdd, Nat.reduceLeDiff, Nat.reduceLT, Int.reduceLT, Int.reduceLE, Int.emod_nonneg, ne_eq, Int.reduceEq, not_false_eq_true, not_true_eq_false, ht]
    exact q
  · simp only [RDa, RDb, RDv, RDk, RDx, RDe, RDd, RDp, RDq, List.getElem?_cons_zero, List.getElem?_cons_succ, List.set_cons_zero, List.set_cons_succ, List.cons.injEq, List.cons_ne_nil, reduceCtorEq, exists_eq_left', exists_eq_left, exists_and_left, and_assoc, exists_const, true_and, and_true, if_true, if_false, false_and, and_false, exists_false, false_or, or_false, true_implies, false_implies, implies_true, forall_eq, forall_eq', Bool.false_eq_true, if_neg, decide_eq_true_eq, Bool.not_eq_true', decide_eq_false_iff_not, Bool.not_true, Bool.not_false, List.length_cons, List.length_nil, sizeLine_eq, Nat.reduceAdd, Nat.reduceLeDiff, Nat.reduceLT, Int.reduceLT, Int.reduceLE, Int.emod_nonneg, ne_eq, Int.reduceEq, not_false_eq_true, not_true_eq_false, ht]
    exact q
  · simp only [RDa, RDb, RDv, RDk, RDx, RDe, RDd, RDp, RDq, List.getElem?_cons_zero, List.getElem?_cons_succ, List.set_cons_zero, List.set_cons_succ, List.cons.injEq, List.cons_ne_nil, reduceCtorEq, exists_eq_left', exists_eq_left, exists_and_left, and_assoc, exists_const, true_and, and_true, if_true, if_false, false_and, and_false, exists_false, false_or, or_false, true_implies, false_implies, implies_true, forall_eq, forall_eq', Bool.false_eq_true, if_neg, decide_eq_true_eq, Bool.not_eq_true', decide_eq_false_iff_not, Bool.not_true, Bool.not_false, List.length_cons, List.length_nil, sizeLine_eq, Nat.reduceAdd, Nat.reduceLeDiff, Nat.reduceLT, Int.reduceLT, Int.reduceLE, Int.emod_nonneg, ne_eq, Int.reduceEq, not_false_eq_true, not_true_eq_false, ht]
    exact q
end RP

namespace RP
open PySem PySem.Spec PyProof.Rows L2
/-- a thing that may be handed in, with its items -/
def KnI (H : Hp) (x : V) : Prop := Kn H x ∧ ∀ a xs, x = .ref a → seqO H a = some xs → ∀ y ∈ xs, Kn H y
theorem Kn.same {H H' : Hp} {x : V} (h : Kn H x) (s : Same H H') : Kn H' x := by
  rcases h.cases with rfl | ⟨b, rfl⟩ | ⟨n, rfl⟩ | ⟨z, rfl⟩ | ⟨a, t, rfl, ht, _⟩
  · rfl
  · rfl
  · rfl
  · rfl
  · unfold tyN at ht
    dsimp only at ht
    unfold Kn tyN
    dsimp only
    split at ht
    · rename_i e; rw [s _ _ e]; rfl
    · rename_i e; rw [s _ _ e]; rfl
    · rename_i e; rw [s _ _ e]; rfl
    · cases ht
theorem amongV_int {x : V} {lo hi : Int} (h : amongV x lo hi = true) : ∃ n, x = .int n ∧ lo ≤ n ∧ n ≤ hi := by
  cases x <;> simp only [amongV, Bool.false_eq_true, reduceCtorEq, Bool.and_eq_true, decide_eq_true_eq] at h
  exact ⟨_, rfl, h.1, h.2⟩
end RP

namespace RP
open PySem PySem.Spec PyProof.Rows L2
def intV : V → Int
  | .int n => n
  | _ => 0
/-- bounds, by the things themselves -/
def bnd4 : List V → Bool
  | [a0, a1, a2, a3] => amongV a0 1 20 && amongV a1 1 (intV a0) && amongV a2 0 20 && amongV a3 0 20
  | _ => false
def boundsV (H : Hp) (x : V) : Bool := match x with
  | .ref a => match H a with
    | some (.tup xs) => bnd4 xs
    | _ => false
  | _ => false
theorem bnd4_len {xs : List V} (h : xs.length ≠ 4) : bnd4 xs = false := by
  match xs with
  | [] => rfl
  | [_] => rfl
  | [_, _] => rfl
  | [_, _, _] => rfl
  | [_, _, _, _] => exact absurd rfl h
  | _ :: _ :: _ :: _ :: _ :: _ => rfl
abbrev s_is_bounds : Stmt := top 10
abbrev N_is_bounds : List Str := ["thing"]
theorem sc_is_bounds : FnScope N_is_bounds ["thing"] (defScope s_is_bounds) := ⟨rfl, rfl, rfl, by decide +kernel, rfl, by decide +kernel, by decide +kernel⟩
def sp_is_bounds (K : PySem.W.Frag) : Sp := fun vs H Q _ => ∃ x, vs = [x] ∧ KnI H x ∧ Q (.bl (boundsV H x)) H
theorem ok_is_bounds {P : Program} {w : World} {K : PySem.W.Frag} {mg : Str → Option Value} {base : Heap} (F : FnP K ("is_bounds", none) "is_bounds" "is_bounds" s_is_bounds) (hm : mg "is_bounds" = some (.ref (He.ga K "is_bounds"))) (bl : Blt mg) (c_is_among : Cal P w K mg base 1 "is_among" (sp_is_among K)) (G_MOST_DELAY : ∃ t, mg "MOST_DELAY" = some (.int 20 t)) (G_MOST_WINDOW : ∃ t, mg "MOST_WINDOW" = some (.int 20 t)) : Cal P w K mg base 2 "is_bounds" (sp_is_bounds K) := by
  refine fn_cal F hm sc_is_bounds (fun vs H Q E => by walk_at "len") (fun _ _ _ _ _ _ us hl => match us, hl with | [_], _ => rfl) (fun f cdv A outer s H vs Q E hr h => ?_)
  have hu := hu_of hr
  obtain ⟨t_MOST_DELAY, g_MOST_DELAY⟩ := G_MOST_DELAY
  obtain ⟨t_MOST_WINDOW, g_MOST_WINDOW⟩ := G_MOST_WINDOW
  obtain ⟨x, rfl, hk, q⟩ := h
  refine ⟨_, (pss_cons (ps_if (PW.pt (pw_or (pt_not (pt_val (pe_callB call_isC (by rfl) (bl.isi) (by decide +kernel) (pa_cons (pv 0) (pa_cons (pe_bltn (v := .ty "tuple") (u := .type "tuple") rfl (bl.tuple) (by decide +kernel) rfl) pa_nil))))) (pw_or1 (pt_cmpR op_ne (pe_callB call_lenC (by rfl) (bl.len) (by decide +kernel) (pa_cons (pv 0) pa_nil)) pe_int (nomark _)))))
  (pss_one (ps_ret pe_bl))
  pss_nil)
  (pss_cons (ps_if (PW.pt (pw_or (pt_not (pt_val (pe_fn c_is_among (hr.mono (by decide)) (L2N.takes_of rfl rfl rfl rfl) (pa_cons (pe_ix ix_C (pv 0) pe_int (fun _ _ => rfl)) (pa_cons pe_int (pa_cons (pe_glob (v := .int 20) rfl g_MOST_WINDOW ⟨_, rfl⟩) pa_nil)))))) (pw_or1 (pt_not (pt_val (pe_fn c_is_among (hr.mono (by decide)) (L2N.takes_of rfl rfl rfl rfl) (pa_cons (pe_ix ix_C (pv 0) pe_int (fun _ _ => rfl)) (pa_cons pe_int (pa_cons (pe_ix ix_C (pv 0) pe_int (fun _ _ => rfl)) pa_nil)))))))))
  (pss_one (ps_ret pe_bl))
  pss_nil)
  (pss_one (ps_ret (pe_and (pe_fn c_is_among (hr.mono (by decide)) (L2N.takes_of rfl rfl rfl rfl) (pa_cons (pe_ix ix_C (pv 0) pe_int (fun _ _ => rfl)) (pa_cons pe_int (pa_cons (pe_glob (v := .int 20) rfl g_MOST_DELAY ⟨_, rfl⟩) pa_nil)))) (pe_one (pe_fn c_is_among (hr.mono (by decide)) (L2N.takes_of rfl rfl rfl rfl) (pa_cons (pe_ix ix_C (pv 0) pe_int (fun _ _ => rfl)) (pa_cons pe_int (pa_cons (pe_glob (v := .int 20) rfl g_MOST_DELAY ⟨_, rfl⟩) pa_nil)))))))))), ?_⟩
  walk_at "st0"
  simp only [RDa, RDb, RDv, RDk, RDx, RDe, RDd, RDp, RDq, List.getElem?_cons_zero, List.getElem?_cons_succ, List.set_cons_zero, List.set_cons_succ, List.cons.injEq, List.cons_ne_nil, reduceCtorEq, exists_eq_left', exists_eq_left, exists_and_left, and_assoc, exists_const, true_and, and_true, if_true, if_false, false_and, and_false, exists_false, false_or, or_false, true_implies, false_implies, implies_true, forall_eq, forall_eq', Bool.false_eq_true, if_neg, decide_eq_true_eq, Bool.not_eq_true', decide_eq_false_iff_not, Bool.not_true, Bool.not_false, List.length_cons, List.length_nil, sizeLine_eq, Nat.reduceAdd, Nat.reduceLeDiff, Nat.reduceLT, Int.reduceLT, Int.reduceLE, Int.emod_nonneg, ne_eq, Int.reduceEq, not_false_eq_true, not_true_eq_false]
  have nb : (∀ a xs, x = .ref a → H a ≠ some (.tup xs)) → boundsV H x = false := fun hn => by
    unfold boundsV
    cases x with
    | ref a =>
      dsimp only
      split
      · rename_i xs e; exact absurd e (hn a xs rfl)
      · rfl
    | _ => rfl
  rcases hk.1.cases with rfl | ⟨b, rfl⟩ | ⟨n, rfl⟩ | ⟨z, rfl⟩ | ⟨a, t, rfl, ht, rfl | rfl | rfl⟩
  · simp only [RDa, RDb, RDv, RDk, RDx, RDe, RDd, RDp, RDq, List.getElem?_cons_zero, List.getElem?_cons_succ, List.set_cons_zero, List.set_cons_succ, List.cons.injEq, List.cons_ne_nil, reduceCtorEq, exists_eq_left', exists_eq_left, exists_and_left, and_assoc, exists_const, true_and, and_true, if_true, if_false, false_and, and_false, exists_false, false_or, or_false, true_implies, false_implies, implies_true, forall_eq, forall_eq', Bool.false_eq_true, if_neg, decide_eq_true_eq, Bool.not_eq_true', decide_eq_false_iff_not, Bool.not_true, Bool.not_false, List.length_cons, List.length_nil, sizeLine_eq, Nat.reduceAdd, Nat.reduceLeDiff, Nat.reduceLT, Int.reduceLT, Int.reduceLE, Int.emod_nonneg, ne_eq, Int.reduceEq, not_false_eq_true, not_true_eq_false]
    exact q
  · simp only [RDa, RDb, RDv, RDk, RDx, RDe, RDd, RDp, RDq, List.getElem?_cons_zero, List.getElem?_cons_succ, List.set_cons_zero, List.set_cons_succ, List.cons.injEq, List.cons_ne_nil, reduceCtorEq, exists_eq_left', exists_eq_left, exists_and_left, and_assoc, exists_const, true_and, and_true, if_true, if_false, false_and, and_false, exists_false, false_or, or_false, true_implies, false_implies, implies_true, forall_eq, forall_eq', Bool.false_eq_true, if_neg, decide_eq_true_eq, Bool.not_eq_true', decide_eq_false_iff_not, Bool.not_true, Bool.not_false, List.length_cons, List.length_nil, sizeLine_eq, Nat.reduceAdd, Nat.reduceLeDiff, Nat.reduceLT, Int.reduceLT, Int.reduceLE, Int.emod_nonneg, ne_eq, Int.reduceEq, not_false_eq_true, not_true_eq_false]
    exact q
  · simp only [RDa, RDb, RDv, RDk, RDx, RDe, RDd, RDp, RDq, List.getElem?_cons_zero, List.getElem?_cons_succ, List.set_cons_zero, List.set_cons_succ, List.cons.injEq, List.cons_ne_nil, reduceCtorEq, exists_eq_left', exists_eq_left, exists_and_left, and_assoc, exists_const, true_and, and_true, if_true, if_false, false_and, and_false, exists_false, false_or, or_false, true_implies, false_implies, implies_true, forall_eq, forall_eq', Bool.false_eq_true, if_neg, decide_eq_true_eq, Bool.not_eq_true', decide_eq_false_iff_not, Bool.not_true, Bool.not_false, List.length_cons, List.length_nil, sizeLine_eq, Nat.reduceAdd, Nat.reduceLeDiff, Nat.reduceLT, Int.reduceLT, Int.reduceLE, Int.emod_nonneg, ne_eq, Int.reduceEq, not_false_eq_true, not_true_eq_false]
    exact q
  · simp only [RDa, RDb, RDv, RDk, RDx, RDe, RDd, RDp, RDq, List.getElem?_cons_zero, List.getElem?_cons_succ, List.set_cons_zero, List.set_cons_succ, List.cons.injEq, List.cons_ne_nil, reduceCtorEq, exists_eq_left', exists_eq_left, exists_and_left, and_assoc, exists_const, true_and, and_true, if_true, if_false, false_and, and_false, exists_false, false_or, or_false, true_implies, false_implies, implies_true, forall_eq, forall_eq', Bool.false_eq_true, if_neg, decide_eq_true_eq, Bool.not_eq_true', decide_eq_false_iff_not, Bool.not_true, Bool.not_false, List.length_cons, List.length_nil, sizeLine_eq, Nat.reduceAdd, Nat.reduceLeDiff, Nat.reduceLT, Int.reduceLT, Int.reduceLE, Int.emod_nonneg, ne_eq, Int.reduceEq, not_false_eq_true, not_true_eq_false]
    exact q
  · rw [nb (fun a' xs e h2 => by cases e; rw [tyN_tup h2] at ht; exact absurd ht (by decide))] at q
    simp only [RDa, RDb, RDv, RDk, RDx, RDe, RDd, RDp, RDq, List.getElem?_cons_zero, List.getElem?_cons_succ, List.set_cons_zero, List.set_cons_succ, List.cons.injEq, List.cons_ne_nil, reduceCtorEq, exists_eq_left', exists_eq_left, exists_and_left, and_assoc, exists_const, true_and, and_true, if_true, if_false, false_and, and_false, exists_false, false_or, or_false, true_implies, false_implies, implies_true, forall_eq, forall_eq', Bool.false_eq_true, if_neg, decide_eq_true_eq, Bool.not_eq_true', decide_eq_false_iff_not, Bool.not_true, Bool.not_false, List.length_cons, List.length_nil, sizeLine_eq, Nat.reduceAdd, Nat.reduceLeDiff, Nat.reduceLT, Int.reduceLT, Int.reduceLE, Int.emod_nonneg, ne_eq, Int.reduceEq, not_false_eq_true, not_true_eq_false, ht]
    exact q
  · obtain ⟨xs, hxs⟩ : ∃ xs, H a = some (.tup xs) := by
      unfold tyN at ht
      dsimp only at ht
      split at ht
      · exact absurd ht (by decide)
      · exact ⟨_, by assumption⟩
      · exact absurd ht (by decide)
      · cases ht
    have eb : boundsV H (.ref a) = bnd4 xs := by unfold boundsV; dsimp only; rw [hxs]
    rw [eb] at q
    have hy := hk.2 a xs rfl (seqO_tup hxs)
    simp only [RDa, RDb, RDv, RDk, RDx, RDe, RDd, RDp, RDq, List.getElem?_cons_zero, List.getElem?_cons_succ, List.set_cons_zero, List.set_cons_succ, List.cons.injEq, List.cons_ne_nil, reduceCtorEq, exists_eq_left', exists_eq_left, exists_and_left, and_assoc, exists_const, true_and, and_true, if_true, if_false, false_and, and_false, exists_false, false_or, or_false, true_implies, false_implies, implies_true, forall_eq, forall_eq', Bool.false_eq_true, if_neg, decide_eq_true_eq, Bool.not_eq_true', decide_eq_false_iff_not, Bool.not_true, Bool.not_false, List.length_cons, List.length_nil, sizeLine_eq, Nat.reduceAdd, Nat.reduceLeDiff, Nat.reduceLT, Int.reduceLT, Int.reduceLE, Int.emod_nonneg, ne_eq, Int.reduceEq, not_false_eq_true, not_true_eq_false, ht, lenO_tup hxs, seqO_tup hxs]
    by_cases l4 : xs.length = 4
    · rw [if_neg (by omega)]
      match xs, l4, hxs, hy, q with
      | [a0, a1, a2, a3], _, hxs, hy, q =>
        have k0 := hy a0 (by simp)
        have k1 := hy a1 (by simp)
        have k2 := hy a2 (by simp)
        have k3 := hy a3 (by simp)
        have eb4 : bnd4 [a0, a1, a2, a3] = (amongV a0 1 20 && amongV a1 1 (intV a0) && amongV a2 0 20 && amongV a3 0 20) := rfl
        rw [eb4] at q
        simp only [RDa, RDb, RDv, RDk, RDx, RDe, RDd, RDp, RDq, List.getElem?_cons_zero, List.getElem?_cons_succ, List.set_cons_zero, List.set_cons_succ, List.cons.injEq, List.cons_ne_nil, reduceCtorEq, exists_eq_left', exists_eq_left, exists_and_left, and_assoc, exists_const, true_and, and_true, if_true, if_false, false_and, and_false, exists_false, false_or, or_false, true_implies, false_implies, implies_true, forall_eq, forall_eq', Bool.false_eq_true, if_neg, decide_eq_true_eq, Bool.not_eq_true', decide_eq_false_iff_not, Bool.not_true, Bool.not_false, List.length_cons, List.length_nil, sizeLine_eq, Nat.reduceAdd, Nat.reduceLeDiff, Nat.reduceLT, Int.reduceLT, Int.reduceLE, Int.emod_nonneg, ne_eq, Int.reduceEq, not_false_eq_true, not_true_eq_false, sp_is_among, k0, k1, k2, k3, seqO_tup hxs]
        cases h0 : amongV a0 1 20 with
        | false =>
          rw [h0] at q
          rw [if_pos rfl]
          exact q
        | true =>
          obtain ⟨w0, rfl, _, _⟩ := amongV_int h0
          rw [h0] at q
          rw [if_neg (by decide)]
          refine ⟨w0, rfl, ?_⟩
          have ei : intV (.int w0) = w0 := rfl
          rw [ei] at q
          cases h1 : amongV a1 1 w0 with
          | false =>
            rw [h1] at q
            rw [if_pos rfl]
            exact q
          | true =>
            rw [h1] at q
            rw [if_neg (by decide)]
            cases h2 : amongV a2 0 20 with
            | false =>
              rw [h2] at q
              rw [if_neg (by decide)]
              exact q
            | true =>
              rw [h2] at q
              rw [if_pos rfl]
              exact q
    · rw [if_pos (by omega)]
      rw [bnd4_len l4] at q
      exact q
  · rw [nb (fun a' xs e h2 => by cases e; rw [tyN_tup h2] at ht; exact absurd ht (by decide))] at q
    simp only [RDa, RDb, RDv, RDk, RDx, RDe, RDd, RDp, RDq, List.getElem?_cons_zero, List.getElem?_cons_succ, List.set_cons_zero, List.set_cons_succ, List.cons.injEq, List.cons_ne_nil, reduceCtorEq, exists_eq_left', exists_eq_left, exists_and_left, and_assoc, exists_const, true_and, and_true, if_true, if_false, false_and, and_false, exists_false, false_or, or_false, true_implies, false_implies, implies_true, forall_eq, forall_eq', Bool.false_eq_true, if_neg, decide_eq_true_eq, Bool.not_eq_true', decide_eq_false_iff_not, Bool.not_true, Bool.not_false, List.length_cons, List.length_nil, sizeLine_eq, Nat.reduceAdd, Nat.reduceLeDiff, Nat.reduceLT, Int.reduceLT, Int.reduceLE, Int.emod_nonneg, ne_eq, Int.reduceEq, not_false_eq_true, not_true_eq_false, ht]
    exact q
abbrev s_need_bounds : Stmt := top 11
abbrev N_need_bounds : List Str := ["thing"]
theorem sc_need_bounds : FnScope N_need_bounds ["thing"] (defScope s_need_bounds) := ⟨rfl, rfl, rfl, by decide +kernel, rfl, by decide +kernel, by decide +kernel⟩
def sp_need_bounds (K : PySem.W.Frag) : Sp := fun vs H Q E => ∃ x, vs = [x] ∧ KnI H x ∧ (boundsV H x = true → Q .non H) ∧ (boundsV H x = false → E (.ref (He.ga K "BadBounds")) none H)
theorem ok_need_bounds {P : Program} {w : World} {K : PySem.W.Frag} {mg : Str → Option Value} {base : Heap} (F : FnP K ("need_bounds", none) "need_bounds" "need_bounds" s_need_bounds) (hm : mg "need_bounds" = some (.ref (He.ga K "need_bounds"))) (bl : Blt mg) (c_is_bounds : Cal P w K mg base 2 "is_bounds" (sp_is_bounds K)) (e_BadBounds : ErrC K mg "BadBounds") : Cal P w K mg base 3 "need_bounds" (sp_need_bounds K) := by
  refine fn_cal F hm sc_need_bounds (fun vs H Q E => by walk_at "len") (fun _ _ _ _ _ _ us hl => match us, hl with | [_], _ => rfl) (fun f cdv A outer s H vs Q E hr h => ?_)
  have hu := hu_of hr
  obtain ⟨x, rfl, hk, q1, q2⟩ := h
  refine ⟨_, (pss_one (ps_if (pt_not (pt_val (pe_fn c_is_bounds (hr.mono (by decide)) (L2N.takes_of rfl rfl rfl rfl) (pa_cons (pv 0) pa_nil))))
  (pss_one (L2N.ps_raise rfl (L2N.takes_of rfl rfl rfl rfl) (L2N.pmk_own PySem.F.excBase_ValueError e_BadBounds.ex e_BadBounds.g e_BadBounds.k (raises_own e_BadBounds.s e_BadBounds.t) rfl)))
  pss_nil)), ?_⟩
  walk_at "st0"
  simp only [RDa, RDb, RDv, RDk, RDx, RDe, RDd, RDp, RDq, List.getElem?_cons_zero, List.getElem?_cons_succ, List.set_cons_zero, List.set_cons_succ, List.cons.injEq, List.cons_ne_nil, reduceCtorEq, exists_eq_left', exists_eq_left, exists_and_left, and_assoc, exists_const, true_and, and_true, if_true, if_false, false_and, and_false, exists_false, false_or, or_false, true_implies, false_implies, implies_true, forall_eq, forall_eq', Bool.false_eq_true, if_neg, decide_eq_true_eq, Bool.not_eq_true', decide_eq_false_iff_not, Bool.not_true, Bool.not_false, List.length_cons, List.length_nil, sizeLine_eq, Nat.reduceAdd, Nat.reduceLeDiff, Nat.reduceLT, Int.reduceLT, Int.reduceLE, Int.emod_nonneg, ne_eq, Int.reduceEq, not_false_eq_true, not_true_eq_false, sp_is_bounds, hk]
  cases hb : boundsV H x with
  | false => rw [if_pos rfl]; exact q2 hb
  | true => rw [if_neg (by decide)]; exact q1 hb
abbrev s_need_ring : Stmt := top 12
abbrev N_need_ring : List Str := ["thing"]
theorem sc_need_ring : FnScope N_need_ring ["thing"] (defScope s_need_ring) := ⟨rfl, rfl, rfl, by decide +kernel, rfl, by decide +kernel, by decide +kernel⟩
def sp_need_ring (K : PySem.W.Frag) : Sp := fun vs H Q E => ∃ x, vs = [x] ∧ Kn H x ∧ (amongV x 1 200 = true → Q .non H) ∧ (amongV x 1 200 = false → E (.ref (He.ga K "BadRing")) none H)
theorem ok_need_ring {P : Program} {w : World} {K : PySem.W.Frag} {mg : Str → Option Value} {base : Heap} (F : FnP K ("need_ring", none) "need_ring" "need_ring" s_need_ring) (hm : mg "need_ring" = some (.ref (He.ga K "need_ring"))) (bl : Blt mg) (c_is_among : Cal P w K mg base 1 "is_among" (sp_is_among K)) (e_BadRing : ErrC K mg "BadRing") (G_MOST_RING : ∃ t, mg "MOST_RING" = some (.int 200 t)) : Cal P w K mg base 2 "need_ring" (sp_need_ring K) := by
  refine fn_cal F hm sc_need_ring (fun vs H Q E => by walk_at "len") (fun _ _ _ _ _ _ us hl => match us, hl with | [_], _ => rfl) (fun f cdv A outer s H vs Q E hr h => ?_)
  have hu := hu_of hr
  obtain ⟨t_MOST_RING, g_MOST_RING⟩ := G_MOST_RING
  obtain ⟨x, rfl, hk, q1, q2⟩ := h
  refine ⟨_, (pss_one (ps_if (pt_not (pt_val (pe_fn c_is_among (hr.mono (by decide)) (L2N.takes_of rfl rfl rfl rfl) (pa_cons (pv 0) (pa_cons pe_int (pa_cons (pe_glob (v := .int 200) rfl g_MOST_RING ⟨_, rfl⟩) pa_nil))))))
  (pss_one (L2N.ps_raise rfl (L2N.takes_of rfl rfl rfl rfl) (L2N.pmk_own PySem.F.excBase_ValueError e_BadRing.ex e_BadRing.g e_BadRing.k (raises_own e_BadRing.s e_BadRing.t) rfl)))
  pss_nil)), ?_⟩
  walk_at "st0"
  simp only [RDa, RDb, RDv, RDk, RDx, RDe, RDd, RDp, RDq, List.getElem?_cons_zero, List.getElem?_cons_succ, List.set_cons_zero, List.set_cons_succ, List.cons.injEq, List.cons_ne_nil, reduceCtorEq, exists_eq_left', exists_eq_left, exists_and_left, and_assoc, exists_const, true_and, and_true, if_true, if_false, false_and, and_false, exists_false, false_or, or_false, true_implies, false_implies, implies_true, forall_eq, forall_eq', Bool.false_eq_true, if_neg, decide_eq_true_eq, Bool.not_eq_true', decide_eq_false_iff_not, Bool.not_true, Bool.not_false, List.length_cons, List.length_nil, sizeLine_eq, Nat.reduceAdd, Nat.reduceLeDiff, Nat.reduceLT, Int.reduceLT, Int.reduceLE, Int.emod_nonneg, ne_eq, Int.reduceEq, not_false_eq_true, not_true_eq_false, sp_is_among, hk]
  cases hb : amongV x 1 200 with
  | false => rw [if_pos rfl]; exact q2 hb
  | true => rw [if_neg (by decide)]; exact q1 hb
theorem boundsV_ints {H : Hp} {x : V} (h : boundsV H x = true) : ∃ a w r d b, x = .ref a ∧ H a = some (.tup [.int w, .int r, .int d, .int b]) ∧ 1 ≤ w ∧ w ≤ 20 ∧ 1 ≤ r ∧ r ≤ w ∧ 0 ≤ d ∧ d ≤ 20 ∧ 0 ≤ b ∧ b ≤ 20 := by
  unfold boundsV at h
  split at h
  · rename_i a
    split at h
    · rename_i xs e
      unfold bnd4 at h
      split at h
      · rename_i a0 a1 a2 a3
        simp only [Bool.and_eq_true] at h
        obtain ⟨⟨⟨h0, h1⟩, h2⟩, h3⟩ := h
        obtain ⟨w, rfl, _, _⟩ := amongV_int h0
        obtain ⟨r, rfl, _, _⟩ := amongV_int h1
        obtain ⟨d, rfl, _, _⟩ := amongV_int h2
        obtain ⟨b, rfl, _, _⟩ := amongV_int h3
        exact ⟨a, w, r, d, b, rfl, e, by assumption, by assumption, by assumption, by assumption, by assumption, by assumption, by assumption, by assumption⟩
      · cases h
    · cases h
  · cases h
theorem boundsV_of {H : Hp} {a : Addr} {w r d b : Int} (h : H a = some (.tup [.int w, .int r, .int d, .int b])) (c : 1 ≤ w ∧ w ≤ 20 ∧ 1 ≤ r ∧ r ≤ w ∧ 0 ≤ d ∧ d ≤ 20 ∧ 0 ≤ b ∧ b ≤ 20) : boundsV H (.ref a) = true := by
  unfold boundsV
  dsimp only
  rw [h]
  show ((decide (1 ≤ w) && decide (w ≤ 20)) && (decide (1 ≤ r) && decide (r ≤ w)) && (decide (0 ≤ d) && decide (d ≤ 20)) && (decide (0 ≤ b) && decide (b ≤ 20))) = true
  simp only [Bool.and_eq_true, decide_eq_true_eq]
  omega
theorem KnI_ints {H : Hp} {a : Addr} {w r d b : Int} (h : H a = some (.tup [.int w, .int r, .int d, .int b])) : KnI H (.ref a) := by
  refine ⟨by unfold Kn; rw [tyN_tup h]; rfl, fun a' xs e hx y hy => ?_⟩
  cases e
  rw [seqO_tup h] at hx
  cases hx
  simp only [List.mem_cons, List.not_mem_nil, or_false] at hy
  rcases hy with rfl | rfl | rfl | rfl <;> rfl
end RP

namespace RP
open PySem PySem.Spec PyProof.Rows L2
abbrev s_least_ring : Stmt := top 13
abbrev N_least_ring : List Str := ["bounds"]
theorem sc_least_ring : FnScope N_least_ring ["bounds"] (defScope s_least_ring) := ⟨rfl, rfl, rfl, by decide +kernel, rfl, by decide +kernel, by decide +kernel⟩
def sp_least_ring (K : PySem.W.Frag) : Sp := fun vs H Q E => ∃ x, vs = [x] ∧ KnI H x ∧ (∀ a w r d b, x = .ref a → H a = some (.tup [.int w, .int r, .int d, .int b]) → boundsV H x = true → Q (.int (w + r + mx2 d b)) H) ∧ (boundsV H x = false → E (.ref (He.ga K "BadBounds")) none H)
theorem ok_least_ring {P : Program} {w : World} {K : PySem.W.Frag} {mg : Str → Option Value} {base : Heap} (F : FnP K ("least_ring", none) "least_ring" "least_ring" s_least_ring) (hm : mg "least_ring" = some (.ref (He.ga K "least_ring"))) (bl : Blt mg) (c_need_bounds : Cal P w K mg base 3 "need_bounds" (sp_need_bounds K)) : Cal P w K mg base 4 "least_ring" (sp_least_ring K) := by
  refine fn_cal F hm sc_least_ring (fun vs H Q E => by walk_at "len") (fun _ _ _ _ _ _ us hl => match us, hl with | [_], _ => rfl) (fun f cdv A outer s H vs Q E hr h => ?_)
  have hu := hu_of hr
  obtain ⟨x, rfl, hk, q1, q2⟩ := h
  refine ⟨_, (pss_cons (ps_expr (pe_fn c_need_bounds (hr.mono (by decide)) (L2N.takes_of rfl rfl rfl rfl) (pa_cons (pv 0) pa_nil)))
  (pss_one (ps_ret (pe_op op_add (pe_op op_add (pe_ix ix_C (pv 0) pe_int (fun _ _ => rfl)) (pe_ix ix_C (pv 0) pe_int (fun _ _ => rfl))) (pe_callB (call_max2 rfl) (by rfl) (bl.max) (by decide +kernel) (pa_cons (pe_ix ix_C (pv 0) pe_int (fun _ _ => rfl)) (pa_cons (pe_ix ix_C (pv 0) pe_int (fun _ _ => rfl)) pa_nil))))))), ?_⟩
  walk_at "st0"
  simp only [RDa, RDb, RDv, RDk, RDx, RDe, RDd, RDp, RDq, List.getElem?_cons_zero, List.getElem?_cons_succ, List.set_cons_zero, List.set_cons_succ, List.cons.injEq, List.cons_ne_nil, reduceCtorEq, exists_eq_left', exists_eq_left, exists_and_left, and_assoc, exists_const, true_and, and_true, if_true, if_false, false_and, and_false, exists_false, false_or, or_false, true_implies, false_implies, implies_true, forall_eq, forall_eq', Bool.false_eq_true, if_neg, decide_eq_true_eq, Bool.not_eq_true', decide_eq_false_iff_not, Bool.not_true, Bool.not_false, List.length_cons, List.length_nil, sizeLine_eq, Nat.reduceAdd, Nat.reduceLeDiff, Nat.reduceLT, Int.reduceLT, Int.reduceLE, Int.emod_nonneg, ne_eq, Int.reduceEq, not_false_eq_true, not_true_eq_false, sp_need_bounds, hk]
  refine ⟨fun hb => ?_, q2⟩
  obtain ⟨a, w', r, d, b, rfl, ha, _⟩ := boundsV_ints hb
  simp only [RDa, RDb, RDv, RDk, RDx, RDe, RDd, RDp, RDq, List.getElem?_cons_zero, List.getElem?_cons_succ, List.set_cons_zero, List.set_cons_succ, List.cons.injEq, List.cons_ne_nil, reduceCtorEq, exists_eq_left', exists_eq_left, exists_and_left, and_assoc, exists_const, true_and, and_true, if_true, if_false, false_and, and_false, exists_false, false_or, or_false, true_implies, false_implies, implies_true, forall_eq, forall_eq', Bool.false_eq_true, if_neg, decide_eq_true_eq, Bool.not_eq_true', decide_eq_false_iff_not, Bool.not_true, Bool.not_false, List.length_cons, List.length_nil, sizeLine_eq, Nat.reduceAdd, Nat.reduceLeDiff, Nat.reduceLT, Int.reduceLT, Int.reduceLE, Int.emod_nonneg, ne_eq, Int.reduceEq, not_false_eq_true, not_true_eq_false, seqO_tup ha]
  exact q1 a w' r d b rfl ha hb
end RP

namespace RP
open PySem PySem.Spec PyProof.Rows L2
def cell (ns : List Int) (k : Int) : Int := ns.getD k.toNat 0
abbrev s__law_at : Stmt := top 20
abbrev N__law_at : List Str := ["_law_script", "_law_k"]
theorem sc__law_at : FnScope N__law_at ["_law_script", "_law_k"] (defScope s__law_at) := ⟨rfl, rfl, rfl, by decide +kernel, rfl, by decide +kernel, by decide +kernel⟩
def sp__law_at (K : PySem.W.Frag) (a : Addr) (ns : List Int) : Sp := fun vs H Q _ => ∃ k, vs = [.ref a, .int k] ∧ SqL K H a (ns.map V.int) ∧ 0 ≤ k ∧ Q (.int (cell ns k)) H
theorem ok__law_at {P : Program} {w : World} {K : PySem.W.Frag} {mg : Str → Option Value} {base : Heap} (F : FnP K ("_law_at", none) "_law_at" "_law_at" s__law_at) (hm : mg "_law_at" = some (.ref (He.ga K "_law_at"))) (bl : Blt mg) (a : Addr) (ns : List Int) : Cal P w K mg base 1 "_law_at" (sp__law_at K a ns) := by
  refine fn_cal F hm sc__law_at (fun vs H Q E => by walk_at "len") (fun _ _ _ _ _ _ us hl => match us, hl with | [_, _], _ => rfl) (fun f cdv A outer s H vs Q E hr h => ?_)
  have hu := hu_of hr
  obtain ⟨k, rfl, hS, hk, q⟩ := h
  refine ⟨_, (pss_cons (ps_if (pt_cmpR op_lt (pv 1) (pe_callB call_len_seq (by rfl) (bl.len) (by decide +kernel) (pa_cons (pv 0) pa_nil)) (nomark _))
  (pss_one (ps_ret (pe_ix ix_list (pv 0) (pv 1) (fun _ _ => rfl))))
  pss_nil)
  (pss_one (ps_ret pe_int))), ?_⟩
  walk_at "st0"
  simp only [RDa, RDb, RDv, RDk, RDx, RDe, RDd, RDp, RDq, List.getElem?_cons_zero, List.getElem?_cons_succ, List.set_cons_zero, List.set_cons_succ, List.cons.injEq, List.cons_ne_nil, reduceCtorEq, exists_eq_left', exists_eq_left, exists_and_left, and_assoc, exists_const, true_and, and_true, if_true, if_false, false_and, and_false, exists_false, false_or, or_false, true_implies, false_implies, implies_true, forall_eq, forall_eq', Bool.false_eq_true, if_neg, decide_eq_true_eq, Bool.not_eq_true', decide_eq_false_iff_not, Bool.not_true, Bool.not_false, List.length_cons, List.length_nil, sizeLine_eq, Nat.reduceAdd, Nat.reduceLeDiff, Nat.reduceLT, Int.reduceLT, Int.reduceLE, Int.emod_nonneg, ne_eq, Int.reduceEq, not_false_eq_true, not_true_eq_false, hS]
  refine ⟨_, .inl hS, ?_⟩
  rw [List.length_map]
  by_cases e : k < (ns.length : Int)
  · rw [if_pos e]
    refine ⟨_, _, k, V.int (cell ns k), rfl, rfl, hS, ?_, q⟩
    have e2 : k = ((k.toNat : Nat) : Int) := by omega
    have e3 : k.toNat < ns.length := by omega
    rw [e2]
    refine atI_nat ?_
    unfold cell
    rw [List.getElem?_map, List.getElem?_eq_getElem e3, List.getD_eq_getElem?_getD, Int.toNat_natCast, List.getElem?_eq_getElem e3]
    rfl
  · rw [if_neg e]
    have e3 : ns.length ≤ k.toNat := by omega
    have e4 : cell ns k = 0 := by
      unfold cell
      rw [List.getD_eq_getElem?_getD, List.getElem?_eq_none e3]
      rfl
    rw [e4] at q
    exact q
def mixed (c k : Int) : Int := (c * 48271 + 7919 * (k + 1) * (k + 3)) % 2147483647
abbrev s__law_mixed : Stmt := top 21
abbrev N__law_mixed : List Str := ["_law_cell", "_law_k"]
theorem sc__law_mixed : FnScope N__law_mixed ["_law_cell", "_law_k"] (defScope s__law_mixed) := ⟨rfl, rfl, rfl, by decide +kernel, rfl, by decide +kernel, by decide +kernel⟩
def sp__law_mixed (K : PySem.W.Frag) : Sp := fun vs H Q _ => ∃ c k : Int, vs = [.int c, .int k] ∧ 0 ≤ k ∧ k < 100 ∧ Q (.int (mixed c k)) H
theorem ok__law_mixed {P : Program} {w : World} {K : PySem.W.Frag} {mg : Str → Option Value} {base : Heap} (F : FnP K ("_law_mixed", none) "_law_mixed" "_law_mixed" s__law_mixed) (hm : mg "_law_mixed" = some (.ref (He.ga K "_law_mixed"))) (bl : Blt mg) : Cal P w K mg base 1 "_law_mixed" (sp__law_mixed K) := by
  refine fn_cal F hm sc__law_mixed (fun vs H Q E => by walk_at "len") (fun _ _ _ _ _ _ us hl => match us, hl with | [_, _], _ => rfl) (fun f cdv A outer s H vs Q E hr h => ?_)
  have hu := hu_of hr
  obtain ⟨c, k, rfl, h0, h1, q⟩ := h
  refine ⟨_, (pss_one (ps_ret (pe_op op_mod (pe_op op_add (pe_op op_mul (pv 0) pe_int) (pe_op op_mul (pe_op op_mul pe_int (pe_op op_add (pv 1) pe_int)) (pe_op op_add (pv 1) pe_int))) pe_int))), ?_⟩
  walk_at "st0"
  simp only [RDa, RDb, RDv, RDk, RDx, RDe, RDd, RDp, RDq, List.getElem?_cons_zero, List.getElem?_cons_succ, List.set_cons_zero, List.set_cons_succ, List.cons.injEq, List.cons_ne_nil, reduceCtorEq, exists_eq_left', exists_eq_left, exists_and_left, and_assoc, exists_const, true_and, and_true, if_true, if_false, false_and, and_false, exists_false, false_or, or_false, true_implies, false_implies, implies_true, forall_eq, forall_eq', Bool.false_eq_true, if_neg, decide_eq_true_eq, Bool.not_eq_true', decide_eq_false_iff_not, Bool.not_true, Bool.not_false, List.length_cons, List.length_nil, sizeLine_eq, Nat.reduceAdd, Nat.reduceLeDiff, Nat.reduceLT, Int.reduceLT, Int.reduceLE, Int.emod_nonneg, ne_eq, Int.reduceEq, not_false_eq_true, not_true_eq_false]
  refine ⟨.inr ⟨by decide, by decide⟩, .inl ⟨by decide, by decide⟩, .inr ⟨by omega, by omega⟩, q⟩
theorem mixed_pos (c k : Int) : 0 ≤ mixed c k := Int.emod_nonneg _ (by decide)
abbrev s__law_whole : Stmt := top 22
abbrev N__law_whole : List Str := ["_law_thing"]
theorem sc__law_whole : FnScope N__law_whole ["_law_thing"] (defScope s__law_whole) := ⟨rfl, rfl, rfl, by decide +kernel, rfl, by decide +kernel, by decide +kernel⟩
def wholeV (x : V) : Bool := match x with
  | .int _ => true
  | _ => false
def sp__law_whole (K : PySem.W.Frag) : Sp := fun vs H Q _ => ∃ x, vs = [x] ∧ Kn H x ∧ Q (.bl (wholeV x)) H
theorem ok__law_whole {P : Program} {w : World} {K : PySem.W.Frag} {mg : Str → Option Value} {base : Heap} (F : FnP K ("_law_whole", none) "_law_whole" "_law_whole" s__law_whole) (hm : mg "_law_whole" = some (.ref (He.ga K "_law_whole"))) (bl : Blt mg) : Cal P w K mg base 1 "_law_whole" (sp__law_whole K) := by
  refine fn_cal F hm sc__law_whole (fun vs H Q E => by walk_at "len") (fun _ _ _ _ _ _ us hl => match us, hl with | [_], _ => rfl) (fun f cdv A outer s H vs Q E hr h => ?_)
  have hu := hu_of hr
  obtain ⟨x, rfl, hk, q⟩ := h
  refine ⟨_, (pss_one (ps_ret (pe_and (pe_callB call_isC (by rfl) (bl.isi) (by decide +kernel) (pa_cons (pv 0) (pa_cons (pe_bltn (v := .ty "int") (u := .type "int") rfl (bl.int) (by decide +kernel) rfl) pa_nil))) (pe_one (pe_not (pe_callB call_isC (by rfl) (bl.isi) (by decide +kernel) (pa_cons (pv 0) (pa_cons (pe_bltn (v := .ty "bool") (u := .type "bool") rfl (bl.bool) (by decide +kernel) rfl) pa_nil)))))))), ?_⟩
  walk_at "st0"
  simp only [RDa, RDb, RDv, RDk, RDx, RDe, RDd, RDp, RDq, List.getElem?_cons_zero, List.getElem?_cons_succ, List.set_cons_zero, List.set_cons_succ, List.cons.injEq, List.cons_ne_nil, reduceCtorEq, exists_eq_left', exists_eq_left, exists_and_left, and_assoc, exists_const, true_and, and_true, if_true, if_false, false_and, and_false, exists_false, false_or, or_false, true_implies, false_implies, implies_true, forall_eq, forall_eq', Bool.false_eq_true, if_neg, decide_eq_true_eq, Bool.not_eq_true', decide_eq_false_iff_not, Bool.not_true, Bool.not_false, List.length_cons, List.length_nil, sizeLine_eq, Nat.reduceAdd, Nat.reduceLeDiff, Nat.reduceLT, Int.reduceLT, Int.reduceLE, Int.emod_nonneg, ne_eq, Int.reduceEq, not_false_eq_true, not_true_eq_false]
  rcases hk.cases with rfl | ⟨b, rfl⟩ | ⟨n, rfl⟩ | ⟨z, rfl⟩ | ⟨a, t, rfl, ht, rfl | rfl | rfl⟩
  · simp only [RDv, RDk, exists_eq_left', if_true, Bool.false_eq_true, if_false]; exact q
  · simp only [RDv, RDk, exists_eq_left', if_true, Bool.false_eq_true, if_false, Bool.not_true]; exact q
  · simp only [RDv, RDk, exists_eq_left', if_true, Bool.false_eq_true, if_false, Bool.not_false]; exact q
  · simp only [RDv, RDk, exists_eq_left', if_true, Bool.false_eq_true, if_false]; exact q
  · simp only [ht, RDv, RDk, exists_eq_left', if_true, Bool.false_eq_true, if_false]; exact q
  · simp only [ht, RDv, RDk, exists_eq_left', if_true, Bool.false_eq_true, if_false]; exact q
  · simp only [ht, RDv, RDk, exists_eq_left', if_true, Bool.false_eq_true, if_false]; exact q
end RP

namespace RP
open PySem PySem.Spec PyProof.Rows L2
theorem toList_ofString (s : String) : (Str.ofString s).cps.toList = s.toList.map Char.toNat := by
  unfold Str.ofString
  rw [← cpsOfBytes_string]
theorem strOk_lit (s : String) : PyData.strOk (Str.ofString s) = true := by
  refine strOk_iff.mpr fun c hc => ?_
  rw [toList_ofString] at hc
  obtain ⟨ch, _, rfl⟩ := List.mem_map.mp hc
  have v := ch.valid
  rcases v with v | ⟨_, v⟩
  · show ch.val.toNat < _
    have : ch.val.toNat < 55296 := v
    omega
  · exact v
theorem length_lit (s : String) : (Str.ofString s).length = s.toList.length := by
  show (Str.ofString s).cps.size = _
  rw [← Array.length_toList, toList_ofString, List.length_map]
theorem int_txt {i : Int} (h0 : 0 ≤ i) (h1 : i < 1000000) : TxtOk 6 (Str.ofString (toString i)) := by
  obtain ⟨n, rfl⟩ := Int.eq_ofNat_of_zero_le h0
  refine ⟨strOk_lit _, ?_⟩
  rw [length_lit]
  have e : (toString (n : Int)).toList = Nat.toDigits 10 n := by
    show (toString n).toList = _
    simp [Nat.repr, toString]
  rw [e]
  exact PyProof.Rows.digits10_le (by decide) (by omega)
theorem log_small {i : Int} (h0 : 0 ≤ i) (h1 : i < 1000000) : i.natAbs.log2 < 1920 := by
  by_cases e : i.natAbs = 0
  · rw [e]; decide
  · exact (Nat.log2_lt e).mpr (Nat.lt_of_lt_of_le (show i.natAbs < 2 ^ 20 by omega) (Nat.pow_le_pow_right (by decide) (by decide)))
theorem join_ok {n : Nat} (sep : Str) (hs : sep.length = 0) : ∀ (ys : List Str), (∀ y ∈ ys, TxtOk n y) → TxtOk (ys.length * n) (PySem.Str.join sep ys)
  | [], _ => by
    exact ⟨strOk_iff.mpr fun c hc => (by cases hc), Nat.zero_le _⟩
  | [x], h => by
    rw [List.length_singleton, Nat.one_mul]
    exact h x List.mem_cons_self
  | x :: y :: r, h => by
    have ih := join_ok sep hs (y :: r) fun z hz => h z (List.mem_cons_of_mem _ hz)
    have e : PySem.Str.join sep (x :: y :: r) = x ++ sep ++ PySem.Str.join sep (y :: r) := rfl
    have hsep : TxtOk 0 sep := ⟨strOk_iff.mpr fun c hc => by
      have : sep.cps.toList.length = 0 := by rw [Array.length_toList]; exact hs
      rw [List.length_eq_zero_iff.mp this] at hc
      exact absurd hc (by simp), by omega⟩
    rw [e]
    refine ((h x List.mem_cons_self).app hsep |>.app ih).mono ?_
    simp only [List.length_cons, Nat.succ_mul]
    omega
theorem cutS_ok {n : Nat} {z : Str} (h : TxtOk n z) (lo hi : Option Int) : TxtOk n (cutS z lo hi) := by
  refine ⟨strOk_iff.mpr fun c hc => ?_, ?_⟩
  · unfold cutS at hc
    exact strOk_iff.mp h.1 c (List.mem_of_mem_drop (List.mem_of_mem_take (by simpa using hc)))
  · refine Nat.le_trans ?_ h.2
    show (cutS z lo hi).cps.size ≤ z.cps.size
    unfold cutS
    rw [List.size_toArray, List.length_take, List.length_drop, Array.length_toList]
    omega
end RP

namespace RP
open PySem PySem.Spec PyProof.Rows L2
abbrev s__law_texts : Stmt := top 24
abbrev N__law_texts : List Str := ["_law_cell", "_law_many", "_law_sorts", "_law_some", "_law_number", "_law_tail", "_law_at_here", "_law_found", "_law_j", "_law_k", "_law_one"]
theorem sc__law_texts : FnScope N__law_texts ["_law_cell", "_law_many", "_law_sorts"] (defScope s__law_texts) := ⟨rfl, rfl, rfl, by decide +kernel, rfl, by decide +kernel, by decide +kernel⟩
abbrev someS : Str := " !\"#$&'()*+,-./:;<=>?@ABCDEFGHIJKLMNOPQRSTUVWXYZ[\\]^_abcdefghijklmnopqrstuvwxyz{|}~"
theorem someS_len : someS.length = 83 := by decide +kernel
/-- the text k, of n: the mixed cell -/
def lawTail (n : Int) : Str := Txt.join "" ((List.range (n / 77 % 39).toNat).map fun j : Nat => (⟨#[someS.cps.toList.getD ((n / 7 + (j : Int) * (1 + n % 11)) % 83).toNat 0]⟩ : Str))
def lawTxt0 (n sorts : Int) (k : Nat) : Str := cutS (lawTail n) none (some (n / 5000 % ((lawTail n).length + 1))) ++ Str.ofString (toString ((k : Int) % sorts)) ++ cutS (lawTail n) (some (n / 5000 % ((lawTail n).length + 1))) none
def lawTxt (n sorts : Int) (k : Nat) : Str := if n / 200 % 4 = 1 ∧ (k : Int) % sorts = n / 800 % sorts then "" else lawTxt0 n sorts k
theorem lawTail_ok (n : Int) : TxtOk 38 (lawTail n) := by
  unfold lawTail Txt.join
  rw [StrLaws.glued_eq_join]
  refine (join_ok (n := 1) "" (by decide +kernel) _ fun y hy => ?_).mono ?_
  · obtain ⟨j, _, rfl⟩ := List.mem_map.mp hy
    refine ⟨strOk_iff.mpr fun c hc => ?_, Nat.le_refl _⟩
    have e : c = someS.cps.toList.getD ((n / 7 + (j : Int) * (1 + n % 11)) % 83).toNat 0 := by simpa using hc
    rw [e]
    exact getD_all (p := fun x => x < 1114112) (by decide +kernel) (by decide) _
  · rw [List.length_map, List.length_range]
    have := md_rng (n / 77) (show (0 : Int) < 39 by decide)
    omega
theorem lawTxt0_ok {n sorts : Int} (h : 0 < sorts) (hs : sorts < 1000000) (k : Nat) : TxtOk 82 (lawTxt0 n sorts k) := by
  have m := md_rng (k : Int) h
  exact ((cutS_ok (lawTail_ok n) _ _).app (int_txt m.1 (by omega))).app (cutS_ok (lawTail_ok n) _ _)
theorem lawTxt_ok {n sorts : Int} (h : 0 < sorts) (hs : sorts < 1000000) (k : Nat) : TxtOk 82 (lawTxt n sorts k) := by
  unfold lawTxt
  split
  · exact ⟨by decide +kernel, by decide +kernel⟩
  · exact lawTxt0_ok h hs k
theorem cut2_len {z : Str} {m : Int} (h0 : 0 ≤ m) (h1 : m ≤ z.length) : (cutS z none (some m)).length + (cutS z (some m) none).length = z.length := by
  obtain ⟨k, rfl⟩ := Int.eq_ofNat_of_zero_le h0
  have hz : z.cps.toList.length = z.length := Array.length_toList
  have l1 : ∀ l : List Nat, (⟨l.toArray⟩ : Str).length = l.length := fun l => by show l.toArray.size = _; simp
  have a1 : (cutS z none (some (k : Int))).length = ((z.cps.toList.drop (HT.sIx z.length 0 none)).take (HT.sIx z.length z.length (some (k : Int)) - HT.sIx z.length 0 none)).length := l1 _
  have a2 : (cutS z (some (k : Int)) none).length = ((z.cps.toList.drop (HT.sIx z.length 0 (some (k : Int)))).take (HT.sIx z.length z.length none - HT.sIx z.length 0 (some (k : Int)))).length := l1 _
  rw [List.length_take, List.length_drop, hz] at a1 a2
  have e1 : HT.sIx z.length 0 none = 0 := rfl
  have e2 : HT.sIx z.length z.length none = z.length := rfl
  have e3 : ∀ d, HT.sIx z.length d (some (k : Int)) = min k z.length := fun d => HT.sIx_nat _ _ _
  rw [e1, e3] at a1
  rw [e2, e3] at a2
  show (cutS z none (some (k : Int))).length + (cutS z (some (k : Int)) none).length = z.length
  have h2 : k ≤ z.length := by omega
  omega
theorem int_txt2 {i : Int} (h0 : 0 ≤ i) (h1 : i < 100) : TxtOk 2 (Str.ofString (toString i)) := by
  obtain ⟨n, rfl⟩ := Int.eq_ofNat_of_zero_le h0
  refine ⟨strOk_lit _, ?_⟩
  rw [length_lit]
  have e : (toString (n : Int)).toList = Nat.toDigits 10 n := by
    show (toString n).toList = _
    simp [Nat.repr, toString]
  rw [e]
  exact PyProof.Rows.digits10_le (by decide) (by omega)
/-- no more than forty signs -/
theorem lawTxt_40 {n sorts : Int} (h : 0 < sorts) (hs : sorts ≤ 100) (k : Nat) : TxtOk 40 (lawTxt n sorts k) := by
  unfold lawTxt
  split
  · exact ⟨by decide +kernel, by decide +kernel⟩
  · have m := md_rng (k : Int) h
    have o := lawTxt0_ok (n := n) h (by omega) k
    refine ⟨o.1, ?_⟩
    unfold lawTxt0
    have m2 := md_rng (n / 5000) (show (0 : Int) < ((lawTail n).length : Int) + 1 by omega)
    have c := cut2_len (z := lawTail n) m2.1 (by omega)
    have t := (lawTail_ok n).2
    have d := (int_txt2 m.1 (by omega)).2
    rw [length_append, length_append]
    omega
def lawTexts (n sorts : Int) (many : Nat) : List Str := (List.range many).map (lawTxt n sorts)
def sp__law_texts (K : PySem.W.Frag) : Sp := fun vs H Q _ => ∃ c many sorts : Int, vs = [.int c, .int many, .int sorts] ∧ 0 ≤ many ∧ many < 1000 ∧ 0 < sorts ∧ sorts < 1000000 ∧
  ∀ l H', H l = none → Same H H' → H' l = some (.lst ((lawTexts (mixed c 5) sorts many.toNat).map V.str)) → Q (.ref l) H'
theorem ok__law_texts {P : Program} {w : World} {K : PySem.W.Frag} {mg : Str → Option Value} {base : Heap} (F : FnP K ("_law_texts", none) "_law_texts" "_law_texts" s__law_texts) (hm : mg "_law_texts" = some (.ref (He.ga K "_law_texts"))) (bl : Blt mg) (c__law_mixed : Cal P w K mg base 1 "_law_mixed" (sp__law_mixed K)) : Cal P w K mg base 2 "_law_texts" (sp__law_texts K) := by
  refine fn_cal F hm sc__law_texts (fun vs H Q E => by walk_at "len") (fun _ _ _ _ _ _ us hl => match us, hl with | [_, _, _], _ => rfl) (fun f cdv A outer s H vs Q E hr h => ?_)
  have hu := hu_of hr
  obtain ⟨c, many, sorts, rfl, hm0, hm1, hs0, hs1, q⟩ := h
  have hn := mixed_pos c 5
  generalize en : mixed c 5 = n at hn q
  refine ⟨_, (pss_cons (ps_set (i := 3) sc__law_texts.nd rfl (Or.inr rfl) pe_str)
  (pss_cons (ps_set (i := 4) sc__law_texts.nd rfl (Or.inr rfl) (pe_fn c__law_mixed (hr.mono (by decide)) (L2N.takes_of rfl rfl rfl rfl) (pa_cons (pv 0) (pa_cons pe_int pa_nil))))
  (pss_cons (ps_set (i := 5) sc__law_texts.nd rfl (Or.inr rfl) (pe_join pe_str (pe_lc (own := [("_law_j", 8)]) rfl sc__law_texts.nd (pi_range1 rfl (bl.range) (pa_cons (pe_op op_mod (pe_op op_fdiv (pv 4) pe_int) pe_int) pa_nil)) (blkOk_by (own := [("_law_j", 8)]) (N := N__law_texts) (sc := defScope s__law_texts) (by decide +kernel)) (fun _ _ _ _ _ =>  by exact (pg_name (i := 8) sc__law_texts.nd rfl (Or.inl rfl))) (fun _ _ _ _ _ =>  by exact pts_nil) (fun _ _ _ _ _ =>  by exact (pe_ix ix_strC (pv 3) (pe_op op_mod (pe_op op_add (pe_op op_fdiv (pv 4) pe_int) (pe_op op_mul (pv 8) (pe_op op_add pe_int (pe_op op_mod (pv 4) pe_int)))) (pe_callB call_len_str (by rfl) (bl.len) (by decide +kernel) (pa_cons (pv 3) pa_nil))) (fun _ _ => rfl))))))
  (pss_cons (ps_set (i := 6) sc__law_texts.nd rfl (Or.inr rfl) (pe_op op_mod (pe_op op_fdiv (pv 4) pe_int) (pe_op op_add (pe_callB call_len_str (by rfl) (bl.len) (by decide +kernel) (pa_cons (pv 5) pa_nil)) pe_int)))
  (pss_cons (ps_setLc (i := 7) (own := [("_law_k", 9)]) rfl sc__law_texts.nd rfl rfl (sw_true rfl rfl rfl (by decide +kernel)) (pi_range1 rfl (bl.range) (pa_cons (pv 1) pa_nil)) (blkOk_by (own := [("_law_k", 9)]) (N := N__law_texts) (sc := defScope s__law_texts) (by decide +kernel)) (fun _ _ _ _ _ =>  by exact (pg_name (i := 9) sc__law_texts.nd rfl (Or.inl rfl))) (fun _ _ _ _ _ =>  by exact pts_nil) (fun _ _ _ _ _ =>  by exact (pe_op op_add_str (pe_op op_add_str (pe_slice sl_str (pv 5) po_none (po_some (pv 6))) (pe_callTy call_str_int (by rfl) (bl.str) (by decide +kernel) (pa_cons (pe_op op_mod (pv 9) (pv 2)) pa_nil))) (pe_slice sl_str (pv 5) (po_some (pv 6)) po_none))))
  (pss_cons (ps_if (pt_cmpR op_eq (pe_op op_mod (pe_op op_fdiv (pv 4) pe_int) pe_int) pe_int (nomark _))
  (pss_one (ps_setLc (i := 7) (own := [("_law_k", 9), ("_law_one", 10)]) rfl sc__law_texts.nd rfl rfl (sw_true rfl rfl rfl (by decide +kernel)) (pi_enum (by rfl) (bl.enumerate) (pa_cons (pv 7) pa_nil)) (blkOk_by (own := [("_law_k", 9), ("_law_one", 10)]) (N := N__law_texts) (sc := defScope s__law_texts) (by decide +kernel)) (fun _ _ _ _ _ =>  by exact (pg_tupC (n := 2) rfl (pgs_cons (pg_name (i := 9) sc__law_texts.nd rfl (Or.inl rfl)) (pgs_cons (pg_name (i := 10) sc__law_texts.nd rfl (Or.inl rfl)) pgs_nil)))) (fun _ _ _ _ _ =>  by exact pts_nil) (fun _ _ _ _ _ =>  by exact (pe_pick (pa_cons (pv 10) (pa_cons pe_str pa_nil)) (pe_callTy call_int1 (by rfl) (bl.int) (by decide +kernel) (pa_cons (pe_cmpR op_eq (pe_op op_mod (pv 9) (pv 2)) (pe_op op_mod (pe_op op_fdiv (pv 4) pe_int) (pv 2)) (nomark _)) pa_nil)) (fun _ _ => rfl)))))
  pss_nil)
  (pss_one (ps_ret (pv 7))))))))), ?_⟩
  walk_at "st0"
  refine seq_gen fun N_a h_a => ?_
  simp only [RDa, RDb, RDv, RDk, RDx, RDe, RDd, RDp, RDq, List.getElem?_cons_zero, List.getElem?_cons_succ, List.set_cons_zero, List.set_cons_succ, List.cons.injEq, List.cons_ne_nil, reduceCtorEq, exists_eq_left', exists_eq_left, exists_and_left, and_assoc, exists_const, true_and, and_true, if_true, if_false, false_and, and_false, exists_false, false_or, or_false, true_implies, false_implies, implies_true, forall_eq, forall_eq', Bool.false_eq_true, if_neg, decide_eq_true_eq, Bool.not_eq_true', decide_eq_false_iff_not, Bool.not_true, Bool.not_false, List.length_cons, List.length_nil, sizeLine_eq, Nat.reduceAdd, Nat.reduceLeDiff, Nat.reduceLT, Int.reduceLT, Int.reduceLE, Int.emod_nonneg, ne_eq, Int.reduceEq, not_false_eq_true, not_true_eq_false]
  refine h_a _ _ ?_
  refine seq_gen fun N_b h_b => ?_
  simp only [RDa, RDb, RDv, RDk, RDx, RDe, RDd, RDp, RDq, List.getElem?_cons_zero, List.getElem?_cons_succ, List.set_cons_zero, List.set_cons_succ, List.cons.injEq, List.cons_ne_nil, reduceCtorEq, exists_eq_left', exists_eq_left, exists_and_left, and_assoc, exists_const, true_and, and_true, if_true, if_false, false_and, and_false, exists_false, false_or, or_false, true_implies, false_implies, implies_true, forall_eq, forall_eq', Bool.false_eq_true, if_neg, decide_eq_true_eq, Bool.not_eq_true', decide_eq_false_iff_not, Bool.not_true, Bool.not_false, List.length_cons, List.length_nil, sizeLine_eq, Nat.reduceAdd, Nat.reduceLeDiff, Nat.reduceLT, Int.reduceLT, Int.reduceLE, Int.emod_nonneg, ne_eq, Int.reduceEq, not_false_eq_true, not_true_eq_false, sp__law_mixed, en]
  refine h_b _ _ ?_
  clear h_a h_b
  refine seq_gen fun N_c h_c => ?_
  simp only [RDa, RDx, RDq]
  have h39 := md_rng (n / 77) (show (0 : Int) < 39 by decide)
  have h11 := md_rng n (show (0 : Int) < 11 by decide)
  have sl := someS_len
  have c83 : ((83 : Nat) : Int) = 83 := rfl
  refine ⟨⟨_, rfl⟩, ?_⟩
  refine rcut 0 (n / 77 % 39).toNat (fun H1 => H = H1) (fun _ j y => y = .str ⟨#[someS.cps.toList.getD ((n / 7 + (j : Int) * (1 + n % 11)) % 83).toNat 0]⟩) keeps_pure ?_ ?_ ?_ ?_
  · intro Z hZ
    simp only [RDa, RDb, RDv, RDk, RDx, RDe, RDd, RDp, RDq, List.getElem?_cons_zero, List.getElem?_cons_succ, List.set_cons_zero, List.set_cons_succ, List.cons.injEq, List.cons_ne_nil, reduceCtorEq, exists_eq_left', exists_eq_left, exists_and_left, and_assoc, exists_const, true_and, and_true, if_true, if_false, false_and, and_false, exists_false, false_or, or_false, true_implies, false_implies, implies_true, forall_eq, forall_eq', Bool.false_eq_true, if_neg, decide_eq_true_eq, Bool.not_eq_true', decide_eq_false_iff_not, Bool.not_true, Bool.not_false, List.length_cons, List.length_nil, sizeLine_eq, Nat.reduceAdd, Nat.reduceLeDiff, Nat.reduceLT, Int.reduceLT, Int.reduceLE, Int.emod_nonneg, ne_eq, Int.reduceEq, not_false_eq_true, not_true_eq_false]
    exact ⟨by omega, by omega, hZ H rfl⟩
  · rw [sizeLine_eq]
    omega
  · rintro H1 H2 j Z rfl hj s2 hZ
    simp only [RDa, RDb, RDv, RDk, RDx, RDe, RDd, RDp, RDq, List.getElem?_cons_zero, List.getElem?_cons_succ, List.set_cons_zero, List.set_cons_succ, List.cons.injEq, List.cons_ne_nil, reduceCtorEq, exists_eq_left', exists_eq_left, exists_and_left, and_assoc, exists_const, true_and, and_true, if_true, if_false, false_and, and_false, exists_false, false_or, or_false, true_implies, false_implies, implies_true, forall_eq, forall_eq', Bool.false_eq_true, if_neg, decide_eq_true_eq, Bool.not_eq_true', decide_eq_false_iff_not, Bool.not_true, Bool.not_false, List.length_cons, List.length_nil, sizeLine_eq, Nat.reduceAdd, Nat.reduceLeDiff, Nat.reduceLT, Int.reduceLT, Int.reduceLE, Int.emod_nonneg, ne_eq, Int.reduceEq, not_false_eq_true, not_true_eq_false, sl, c83, Int.zero_add]
    have hm := md_rng (n / 7 + (j : Int) * (1 + n % 11)) (show (0 : Int) < 83 by decide)
    refine ⟨.inr ⟨by omega, by omega⟩, _, ?_, hZ _ _ (Same.refl _) rfl⟩
    have hlen : someS.cps.toList.length = 83 := by rw [Array.length_toList]; exact someS_len
    generalize (n / 7 + (j : Int) * (1 + n % 11)) % 83 = k at hm
    rw [show k = ((k.toNat : Nat) : Int) by omega]
    refine atI_nat ?_
    have hk : k.toNat < someS.cps.toList.length := by omega
    rw [Int.toNat_natCast, List.getElem?_eq_getElem hk, List.getD_eq_getElem?_getD, List.getElem?_eq_getElem hk]
    rfl
  · rintro H1 H3 D rs rfl nD s3 hD ar
    have er := ar.map_eq
    refine ⟨_, D, (List.range (n / 77 % 39).toNat).map fun j : Nat => (⟨#[someS.cps.toList.getD ((n / 7 + (j : Int) * (1 + n % 11)) % 83).toNat 0]⟩ : Str), rfl, rfl, .inl (SqL.of (by rw [hD, er, List.map_map]; rfl)), ?_, ?_⟩
    · have hsum : ∀ (g : Nat → Nat) (m : Nat), (List.map (fun x : Str => x.length) (List.map (fun j => (⟨#[g j]⟩ : Str)) (List.range m))).sum = m := by
        intro g m
        rw [List.map_map]
        have e1 : ((fun x : Str => x.length) ∘ fun j => (⟨#[g j]⟩ : Str)) = fun _ => 1 := rfl
        rw [e1, List.map_const', List.sum_replicate_nat, List.length_range, Nat.mul_one]
      have e0 : (Str.ofString "").length = 0 := by decide +kernel
      rw [hsum fun j : Nat => someS.cps.toList.getD ((n / 7 + (j : Int) * (1 + n % 11)) % 83).toNat 0, e0, Nat.mul_zero]
      omega
    show N_c (List.set _ 5 (some (.str (lawTail n)))) H3
    refine h_c _ _ ?_
    clear h_c
    have ht := lawTail_ok n
    generalize et : lawTail n = tl at ht
    refine seq_gen fun N_d h_d => ?_
    simp only [RDa, RDb, RDv, RDk, RDx, RDe, RDd, RDp, RDq, List.getElem?_cons_zero, List.getElem?_cons_succ, List.set_cons_zero, List.set_cons_succ, List.cons.injEq, List.cons_ne_nil, reduceCtorEq, exists_eq_left', exists_eq_left, exists_and_left, and_assoc, exists_const, true_and, and_true, if_true, if_false, false_and, and_false, exists_false, false_or, or_false, true_implies, false_implies, implies_true, forall_eq, forall_eq', Bool.false_eq_true, if_neg, decide_eq_true_eq, Bool.not_eq_true', decide_eq_false_iff_not, Bool.not_true, Bool.not_false, List.length_cons, List.length_nil, sizeLine_eq, Nat.reduceAdd, Nat.reduceLeDiff, Nat.reduceLT, Int.reduceLT, Int.reduceLE, Int.emod_nonneg, ne_eq, Int.reduceEq, not_false_eq_true, not_true_eq_false]
    refine ⟨Nat.le_trans ht.2 (by decide), by omega, h_d _ _ ?_⟩
    clear h_d
    have hat := md_rng (n / 5000) (show (0 : Int) < (tl.length : Int) + 1 by omega)
    have elt : ∀ k : Nat, lawTxt0 n sorts k = cutS tl none (some (n / 5000 % ((tl.length : Int) + 1))) ++ Str.ofString (toString ((k : Int) % sorts)) ++ cutS tl (some (n / 5000 % ((tl.length : Int) + 1))) none := fun k => by
      unfold lawTxt0
      rw [et]
    have s1 : Same H H3 := s3
    refine seq_gen fun N_e h_e => ?_
    simp only [RDa, RDx, RDq]
    refine rcut 0 many.toNat (fun H1 => H3 = H1) (fun _ k y => y = .str (lawTxt0 n sorts k)) keeps_pure ?_ ?_ ?_ ?_
    · intro Z hZ
      simp only [RDa, RDb, RDv, RDk, RDx, RDe, RDd, RDp, RDq, List.getElem?_cons_zero, List.getElem?_cons_succ, List.set_cons_zero, List.set_cons_succ, List.cons.injEq, List.cons_ne_nil, reduceCtorEq, exists_eq_left', exists_eq_left, exists_and_left, and_assoc, exists_const, true_and, and_true, if_true, if_false, false_and, and_false, exists_false, false_or, or_false, true_implies, false_implies, implies_true, forall_eq, forall_eq', Bool.false_eq_true, if_neg, decide_eq_true_eq, Bool.not_eq_true', decide_eq_false_iff_not, Bool.not_true, Bool.not_false, List.length_cons, List.length_nil, sizeLine_eq, Nat.reduceAdd, Nat.reduceLeDiff, Nat.reduceLT, Int.reduceLT, Int.reduceLE, Int.emod_nonneg, ne_eq, Int.reduceEq, not_false_eq_true, not_true_eq_false]
      exact ⟨by omega, by omega, hZ H3 rfl⟩
    · rw [sizeLine_eq]
      omega
    · rintro H1 H2 k Z rfl hk s2 hZ
      simp only [RDa, RDb, RDv, RDk, RDx, RDe, RDd, RDp, RDq, List.getElem?_cons_zero, List.getElem?_cons_succ, List.set_cons_zero, List.set_cons_succ, List.cons.injEq, List.cons_ne_nil, reduceCtorEq, exists_eq_left', exists_eq_left, exists_and_left, and_assoc, exists_const, true_and, and_true, if_true, if_false, false_and, and_false, exists_false, false_or, or_false, true_implies, false_implies, implies_true, forall_eq, forall_eq', Bool.false_eq_true, if_neg, decide_eq_true_eq, Bool.not_eq_true', decide_eq_false_iff_not, Bool.not_true, Bool.not_false, List.length_cons, List.length_nil, sizeLine_eq, Nat.reduceAdd, Nat.reduceLeDiff, Nat.reduceLT, Int.reduceLT, Int.reduceLE, Int.emod_nonneg, ne_eq, Int.reduceEq, not_false_eq_true, not_true_eq_false, sl, c83, Int.zero_add]
      have hm := md_rng (k : Int) hs0
      have o1 := cutS_ok ht none (some (n / 5000 % ((tl.length : Int) + 1)))
      have o2 := cutS_ok ht (some (n / 5000 % ((tl.length : Int) + 1))) none
      have o3 := int_txt hm.1 (by omega)
      refine ⟨Nat.le_trans ht.2 (by decide), hs0, log_small hm.1 (by omega), ?_, Nat.le_trans ht.2 (by decide), ?_, hZ _ _ (Same.refl _) (by rw [elt])⟩
      · exact Nat.le_trans (Nat.add_le_add o1.2 o3.2) (by decide)
      · exact Nat.le_trans (Nat.add_le_add (o1.app o3).2 o2.2) (by decide)
    · rintro H1 H4 D2 rs2 rfl nD2 s4 hD2 ar2
      have er2 := ar2.map_eq
      show N_e (List.set _ 7 (some (.ref D2))) H4
      refine h_e _ _ ?_
      clear h_e
      refine seq_gen fun N_f h_f => ?_
      simp only [RDa, RDb, RDv, RDk, RDx, RDe, RDd, RDp, RDq, List.getElem?_cons_zero, List.getElem?_cons_succ, List.set_cons_zero, List.set_cons_succ, List.cons.injEq, List.cons_ne_nil, reduceCtorEq, exists_eq_left', exists_eq_left, exists_and_left, and_assoc, exists_const, true_and, and_true, if_true, if_false, false_and, and_false, exists_false, false_or, or_false, true_implies, false_implies, implies_true, forall_eq, forall_eq', Bool.false_eq_true, if_neg, decide_eq_true_eq, Bool.not_eq_true', decide_eq_false_iff_not, Bool.not_true, Bool.not_false, List.length_cons, List.length_nil, sizeLine_eq, Nat.reduceAdd, Nat.reduceLeDiff, Nat.reduceLT, Int.reduceLT, Int.reduceLE, Int.emod_nonneg, ne_eq, Int.reduceEq, not_false_eq_true, not_true_eq_false]
      have fin : ∀ (σ : L2.St) (D : Addr) (H5 : Hp), σ[7]? = some (some (.ref D)) → Same H H5 → H D = none → H5 D = some (.lst ((lawTexts n sorts many.toNat).map V.str)) → N_f σ H5 := by
        intro σ D H5 h7 s5 nD h5
        refine h_f _ _ ?_
        simp only [RDa, RDb, RDv, RDk, RDx, RDe, RDd, RDp, RDq, List.getElem?_cons_zero, List.getElem?_cons_succ, List.set_cons_zero, List.set_cons_succ, List.cons.injEq, List.cons_ne_nil, reduceCtorEq, exists_eq_left', exists_eq_left, exists_and_left, and_assoc, exists_const, true_and, and_true, if_true, if_false, false_and, and_false, exists_false, false_or, or_false, true_implies, false_implies, implies_true, forall_eq, forall_eq', Bool.false_eq_true, if_neg, decide_eq_true_eq, Bool.not_eq_true', decide_eq_false_iff_not, Bool.not_true, Bool.not_false, List.length_cons, List.length_nil, sizeLine_eq, Nat.reduceAdd, Nat.reduceLeDiff, Nat.reduceLT, Int.reduceLT, Int.reduceLE, Int.emod_nonneg, ne_eq, Int.reduceEq, not_false_eq_true, not_true_eq_false, h7]
        exact q D H5 nD s5 h5
      by_cases c1 : n / 200 % 4 = 1
      · rw [if_pos c1]
        refine ecut (fun a H1 => a = D2 ∧ H4 = H1) (fun _ x y => ∃ k : Nat, x.1 = k ∧ y = .str (lawTxt n sorts k)) ((List.range many.toNat).map fun k => V.str (lawTxt0 n sorts k)) ?_ ?_ ?_ ?_ ?_ ?_
        · exact keeps_pure
        · intro Z hZ
          simp only [RDa, RDb, RDv, RDk, RDx, RDe, RDd, RDp, RDq, List.getElem?_cons_zero, List.getElem?_cons_succ, List.set_cons_zero, List.set_cons_succ, List.cons.injEq, List.cons_ne_nil, reduceCtorEq, exists_eq_left', exists_eq_left, exists_and_left, and_assoc, exists_const, true_and, and_true, if_true, if_false, false_and, and_false, exists_false, false_or, or_false, true_implies, false_implies, implies_true, forall_eq, forall_eq', Bool.false_eq_true, if_neg, decide_eq_true_eq, Bool.not_eq_true', decide_eq_false_iff_not, Bool.not_true, Bool.not_false, List.length_cons, List.length_nil, sizeLine_eq, Nat.reduceAdd, Nat.reduceLeDiff, Nat.reduceLT, Int.reduceLT, Int.reduceLE, Int.emod_nonneg, ne_eq, Int.reduceEq, not_false_eq_true, not_true_eq_false]
          exact hZ _ _ ⟨rfl, rfl⟩
        · rintro a H1 ⟨rfl, rfl⟩
          rw [← er2]
          exact SqL.of hD2
        · rw [List.length_map, List.length_range, sizeLine_eq]
          omega
        · rintro a H1 H5 k x T Z ⟨rfl, rfl⟩ hx s5 hT hZ
          rw [List.getElem?_map] at hx
          obtain ⟨k', hk', rfl⟩ := Option.map_eq_some_iff.mp hx
          have ek : k' = k := by
            obtain ⟨hlt, e⟩ := List.getElem?_eq_some_iff.mp hk'
            rw [← e, List.getElem_range]
          subst ek
          simp only [RDa, RDb, RDv, RDk, RDx, RDe, RDd, RDp, RDq, List.getElem?_cons_zero, List.getElem?_cons_succ, List.set_cons_zero, List.set_cons_succ, List.cons.injEq, List.cons_ne_nil, reduceCtorEq, exists_eq_left', exists_eq_left, exists_and_left, and_assoc, exists_const, true_and, and_true, if_true, if_false, false_and, and_false, exists_false, false_or, or_false, true_implies, false_implies, implies_true, forall_eq, forall_eq', Bool.false_eq_true, if_neg, decide_eq_true_eq, Bool.not_eq_true', decide_eq_false_iff_not, Bool.not_true, Bool.not_false, List.length_cons, List.length_nil, sizeLine_eq, Nat.reduceAdd, Nat.reduceLeDiff, Nat.reduceLT, Int.reduceLT, Int.reduceLE, Int.emod_nonneg, ne_eq, Int.reduceEq, not_false_eq_true, not_true_eq_false, hT]
          have e01 : ∀ P : Prop, [Decidable P] → (0 : Int) ≤ if P then 1 else 0 := fun P _ => by split <;> decide
          refine ⟨hs0, hs0, e01 _, if (k' : Int) % sorts = n / 800 % sorts then .str "" else .str (lawTxt0 n sorts k'), by split <;> rfl, hZ _ _ (Same.refl _) ⟨k', rfl, ?_⟩⟩
          unfold lawTxt
          by_cases c2 : (k' : Int) % sorts = n / 800 % sorts
          · rw [if_pos c2, if_pos ⟨c1, c2⟩]
          · rw [if_neg c2, if_neg (fun h => c2 h.2)]
        · rintro a H1 H5 D3 rs3 ⟨rfl, rfl⟩ nD3 s5 hD3 ar3
          refine fin _ D3 H5 rfl (s1.trans (s4.trans s5)) (s1.free (s4.free nD3)) ?_
          have ez : rs3 = (lawTexts n sorts many.toNat).map V.str := by
            refine List.ext_getElem? fun i => ?_
            have hl := ar3.length
            rw [List.length_zip, List.length_range, List.length_map, List.length_range, Nat.min_self] at hl
            unfold lawTexts
            rw [List.getElem?_map, List.getElem?_map]
            by_cases hi : i < many.toNat
            · rw [List.getElem?_range hi]
              obtain ⟨y, hy⟩ : ∃ y, rs3[i]? = some y := ⟨_, List.getElem?_eq_getElem (by omega)⟩
              obtain ⟨x, hx, k, e1, e2⟩ := ar3.get hy
              obtain ⟨hz1, hz2⟩ := List.getElem?_zip_eq_some.mp hx
              have hlen : (List.map (fun k => V.str (lawTxt0 n sorts k)) (List.range many.toNat)).length = many.toNat := by rw [List.length_map, List.length_range]
              rw [hlen, List.getElem?_range hi] at hz1
              have e3 : i = x.1 := Option.some.inj hz1
              rw [hy, e2, ← e1, ← e3]
              rfl
            · rw [List.getElem?_eq_none (by omega), List.getElem?_eq_none (by rw [List.length_range]; omega)]
              rfl
          rw [hD3, ez]
      · rw [if_neg c1]
        refine fin _ D2 H4 rfl (s1.trans s4) (s1.free nD2) ?_
        rw [hD2, er2]
        unfold lawTexts
        rw [List.map_map]
        congr 3
        funext k
        show _ = V.str (lawTxt n sorts k)
        unfold lawTxt
        rw [if_neg (fun h => c1 h.1)]
end RP

namespace RP
open PySem PySem.Spec PyProof.Rows L2
abbrev s__law_bounds : Stmt := top 23
abbrev N__law_bounds : List Str := ["_law_script", "_law_one", "_law_two", "_law_window", "_law_delay", "_law_back"]
theorem sc__law_bounds : FnScope N__law_bounds ["_law_script"] (defScope s__law_bounds) := ⟨rfl, rfl, rfl, by decide +kernel, rfl, by decide +kernel, by decide +kernel⟩
/-- the law's bounds, by the two mixed cells -/
def lbW (one : Int) : Int := if one / 5 % 6 = 1 then 1 + one / 30 % 20 else 1 + one % 5
def lbD (two : Int) : Int := if two / 16 % 6 = 1 ∨ two / 16 % 6 = 2 then two / 96 % 21 else two % 4
def lbB (two : Int) : Int := if 3 < two / 16 % 6 then two / 96 % (if two / 16 % 2 = 0 then 21 else 9) else if two / 16 % 6 = 2 then two / 2016 % 21 else two / 4 % 4
def lbR (one : Int) : Int := 1 + one / 600 % lbW one
theorem lb_ok {one two : Int} : 1 ≤ lbW one ∧ lbW one ≤ 20 ∧ 1 ≤ lbR one ∧ lbR one ≤ lbW one ∧ 0 ≤ lbD two ∧ lbD two ≤ 20 ∧ 0 ≤ lbB two ∧ lbB two ≤ 20 := by
  have h1 : 1 ≤ lbW one ∧ lbW one ≤ 20 := by unfold lbW; split <;> omega
  have h2 := md_rng (one / 600) (show 0 < lbW one by omega)
  refine ⟨h1.1, h1.2, by unfold lbR; omega, by unfold lbR; omega, ?_, ?_, ?_, ?_⟩
  · unfold lbD; split <;> omega
  · unfold lbD; split <;> omega
  · unfold lbB; repeat' split
    all_goals omega
  · unfold lbB; repeat' split
    all_goals omega
def sp__law_bounds (K : PySem.W.Frag) (a : Addr) (ns : List Int) : Sp := fun vs H Q _ => vs = [.ref a] ∧ SqL K H a (ns.map V.int) ∧
  ∀ t H', H t = none → Same H H' → H' t = some (.tup [.int (lbW (mixed (cell ns 0) 0)), .int (lbR (mixed (cell ns 0) 0)), .int (lbD (mixed (cell ns 1) 1)), .int (lbB (mixed (cell ns 1) 1))]) → Q (.ref t) H'
theorem ok__law_bounds {P : Program} {w : World} {K : PySem.W.Frag} {mg : Str → Option Value} {base : Heap} (F : FnP K ("_law_bounds", none) "_law_bounds" "_law_bounds" s__law_bounds) (hm : mg "_law_bounds" = some (.ref (He.ga K "_law_bounds"))) (bl : Blt mg) (c__law_at : ∀ (a : Addr) (ns : List Int), Cal P w K mg base 1 "_law_at" (sp__law_at K a ns)) (c__law_mixed : Cal P w K mg base 1 "_law_mixed" (sp__law_mixed K)) (a : Addr) (ns : List Int) : Cal P w K mg base 2 "_law_bounds" (sp__law_bounds K a ns) := by
  refine fn_cal F hm sc__law_bounds (fun vs H Q E => by walk_at "len") (fun _ _ _ _ _ _ us hl => match us, hl with | [_], _ => rfl) (fun f cdv A outer s H vs Q E hr h => ?_)
  have hu := hu_of hr
  obtain ⟨rfl, hS, q⟩ := h
  refine ⟨_, (pss_cons (ps_set (i := 1) sc__law_bounds.nd rfl (Or.inl rfl) (pe_fn c__law_mixed (hr.mono (by decide)) (L2N.takes_of rfl rfl rfl rfl) (pa_cons (pe_fn (c__law_at a ns) (hr.mono (by decide)) (L2N.takes_of rfl rfl rfl rfl) (pa_cons (pv 0) (pa_cons pe_int pa_nil))) (pa_cons pe_int pa_nil))))
  (pss_cons (ps_set (i := 2) sc__law_bounds.nd rfl (Or.inl rfl) (pe_fn c__law_mixed (hr.mono (by decide)) (L2N.takes_of rfl rfl rfl rfl) (pa_cons (pe_fn (c__law_at a ns) (hr.mono (by decide)) (L2N.takes_of rfl rfl rfl rfl) (pa_cons (pv 0) (pa_cons pe_int pa_nil))) (pa_cons pe_int pa_nil))))
  (pss_cons (ps_set (i := 3) sc__law_bounds.nd rfl (Or.inl rfl) (pe_op op_add pe_int (pe_op op_mod (pv 1) pe_int)))
  (pss_cons (ps_set (i := 4) sc__law_bounds.nd rfl (Or.inl rfl) (pe_op op_mod (pv 2) pe_int))
  (pss_cons (ps_set (i := 5) sc__law_bounds.nd rfl (Or.inl rfl) (pe_op op_mod (pe_op op_fdiv (pv 2) pe_int) pe_int))
  (pss_cons (ps_if (pt_cmpR op_eq (pe_op op_mod (pe_op op_fdiv (pv 1) pe_int) pe_int) pe_int (nomark _))
  (pss_one (ps_set (i := 3) sc__law_bounds.nd rfl (Or.inl rfl) (pe_op op_add pe_int (pe_op op_mod (pe_op op_fdiv (pv 1) pe_int) pe_int))))
  pss_nil)
  (pss_cons (ps_if (pt_cmp (pc_inT (pe_op op_mod (pe_op op_fdiv (pv 2) pe_int) pe_int) (pa_cons pe_int (pa_cons pe_int pa_nil))) rfl)
  (pss_one (ps_set (i := 4) sc__law_bounds.nd rfl (Or.inl rfl) (pe_op op_mod (pe_op op_fdiv (pv 2) pe_int) pe_int)))
  pss_nil)
  (pss_cons (ps_if (pt_cmpR op_eq (pe_op op_mod (pe_op op_fdiv (pv 2) pe_int) pe_int) pe_int (nomark _))
  (pss_one (ps_set (i := 5) sc__law_bounds.nd rfl (Or.inl rfl) (pe_op op_mod (pe_op op_fdiv (pv 2) pe_int) pe_int)))
  pss_nil)
  (pss_cons (ps_if (pt_cmpR op_gt (pe_op op_mod (pe_op op_fdiv (pv 2) pe_int) pe_int) pe_int (nomark _))
  (pss_one (ps_set (i := 5) sc__law_bounds.nd rfl (Or.inl rfl) (pe_op op_mod (pe_op op_fdiv (pv 2) pe_int) (pe_pick (pa_cons pe_int (pa_cons pe_int pa_nil)) (pe_op op_mod (pe_op op_fdiv (pv 2) pe_int) pe_int) (fun _ _ => rfl)))))
  pss_nil)
  (pss_one (ps_ret (pe_tup (pa_cons (pv 3) (pa_cons (pe_op op_add pe_int (pe_op op_mod (pe_op op_fdiv (pv 1) pe_int) (pv 3))) (pa_cons (pv 4) (pa_cons (pv 5) pa_nil)))))))))))))))), ?_⟩
  walk_at "st0"
  refine seq_gen fun N_a h_a => ?_
  simp only [RDa, RDb, RDv, RDk, RDx, RDe, RDd, RDp, RDq, List.getElem?_cons_zero, List.getElem?_cons_succ, List.set_cons_zero, List.set_cons_succ, List.cons.injEq, List.cons_ne_nil, reduceCtorEq, exists_eq_left', exists_eq_left, exists_and_left, and_assoc, exists_const, true_and, and_true, if_true, if_false, false_and, and_false, exists_false, false_or, or_false, true_implies, false_implies, implies_true, forall_eq, forall_eq', Bool.false_eq_true, if_neg, decide_eq_true_eq, Bool.not_eq_true', decide_eq_false_iff_not, Bool.not_true, Bool.not_false, List.length_cons, List.length_nil, sizeLine_eq, Nat.reduceAdd, Nat.reduceLeDiff, Nat.reduceLT, Int.reduceLT, Int.reduceLE, Int.emod_nonneg, ne_eq, Int.reduceEq, not_false_eq_true, not_true_eq_false, hS, sp__law_at, sp__law_mixed]
  refine h_a _ _ ?_
  refine seq_gen fun N_b h_b => ?_
  simp only [RDa, RDb, RDv, RDk, RDx, RDe, RDd, RDp, RDq, List.getElem?_cons_zero, List.getElem?_cons_succ, List.set_cons_zero, List.set_cons_succ, List.cons.injEq, List.cons_ne_nil, reduceCtorEq, exists_eq_left', exists_eq_left, exists_and_left, and_assoc, exists_const, true_and, and_true, if_true, if_false, false_and, and_false, exists_false, false_or, or_false, true_implies, false_implies, implies_true, forall_eq, forall_eq', Bool.false_eq_true, if_neg, decide_eq_true_eq, Bool.not_eq_true', decide_eq_false_iff_not, Bool.not_true, Bool.not_false, List.length_cons, List.length_nil, sizeLine_eq, Nat.reduceAdd, Nat.reduceLeDiff, Nat.reduceLT, Int.reduceLT, Int.reduceLE, Int.emod_nonneg, ne_eq, Int.reduceEq, not_false_eq_true, not_true_eq_false, hS, sp__law_at, sp__law_mixed]
  refine h_b _ _ ?_
  clear h_a h_b
  generalize mixed (cell ns 0) 0 = one at q
  generalize mixed (cell ns 1) 1 = two at q
  refine seq_gen fun N_c h_c => ?_
  simp only [RDa, RDb, RDv, RDk, RDx, RDe, RDd, RDp, RDq, List.getElem?_cons_zero, List.getElem?_cons_succ, List.set_cons_zero, List.set_cons_succ, List.cons.injEq, List.cons_ne_nil, reduceCtorEq, exists_eq_left', exists_eq_left, exists_and_left, and_assoc, exists_const, true_and, and_true, if_true, if_false, false_and, and_false, exists_false, false_or, or_false, true_implies, false_implies, implies_true, forall_eq, forall_eq', Bool.false_eq_true, if_neg, decide_eq_true_eq, Bool.not_eq_true', decide_eq_false_iff_not, Bool.not_true, Bool.not_false, List.length_cons, List.length_nil, sizeLine_eq, Nat.reduceAdd, Nat.reduceLeDiff, Nat.reduceLT, Int.reduceLT, Int.reduceLE, Int.emod_nonneg, ne_eq, Int.reduceEq, not_false_eq_true, not_true_eq_false]
  refine h_c _ _ ?_
  refine seq_gen fun N_d h_d => ?_
  simp only [RDa, RDb, RDv, RDk, RDx, RDe, RDd, RDp, RDq, List.getElem?_cons_zero, List.getElem?_cons_succ, List.set_cons_zero, List.set_cons_succ, List.cons.injEq, List.cons_ne_nil, reduceCtorEq, exists_eq_left', exists_eq_left, exists_and_left, and_assoc, exists_const, true_and, and_true, if_true, if_false, false_and, and_false, exists_false, false_or, or_false, true_implies, false_implies, implies_true, forall_eq, forall_eq', Bool.false_eq_true, if_neg, decide_eq_true_eq, Bool.not_eq_true', decide_eq_false_iff_not, Bool.not_true, Bool.not_false, List.length_cons, List.length_nil, sizeLine_eq, Nat.reduceAdd, Nat.reduceLeDiff, Nat.reduceLT, Int.reduceLT, Int.reduceLE, Int.emod_nonneg, ne_eq, Int.reduceEq, not_false_eq_true, not_true_eq_false]
  refine h_d _ _ ?_
  refine seq_gen fun N_e h_e => ?_
  simp only [RDa, RDb, RDv, RDk, RDx, RDe, RDd, RDp, RDq, List.getElem?_cons_zero, List.getElem?_cons_succ, List.set_cons_zero, List.set_cons_succ, List.cons.injEq, List.cons_ne_nil, reduceCtorEq, exists_eq_left', exists_eq_left, exists_and_left, and_assoc, exists_const, true_and, and_true, if_true, if_false, false_and, and_false, exists_false, false_or, or_false, true_implies, false_implies, implies_true, forall_eq, forall_eq', Bool.false_eq_true, if_neg, decide_eq_true_eq, Bool.not_eq_true', decide_eq_false_iff_not, Bool.not_true, Bool.not_false, List.length_cons, List.length_nil, sizeLine_eq, Nat.reduceAdd, Nat.reduceLeDiff, Nat.reduceLT, Int.reduceLT, Int.reduceLE, Int.emod_nonneg, ne_eq, Int.reduceEq, not_false_eq_true, not_true_eq_false]
  refine h_e _ _ ?_
  clear h_c h_d h_e
  refine seq_to [some (.ref a), some (.int one), some (.int two), some (.int (lbW one)), some (.int (two % 4)), some (.int (two / 4 % 4))] H (fun N hN => ?_) ?_
  · simp only [RDa, RDb, RDv, RDk, RDx, RDe, RDd, RDp, RDq, List.getElem?_cons_zero, List.getElem?_cons_succ, List.set_cons_zero, List.set_cons_succ, List.cons.injEq, List.cons_ne_nil, reduceCtorEq, exists_eq_left', exists_eq_left, exists_and_left, and_assoc, exists_const, true_and, and_true, if_true, if_false, false_and, and_false, exists_false, false_or, or_false, true_implies, false_implies, implies_true, forall_eq, forall_eq', Bool.false_eq_true, if_neg, decide_eq_true_eq, Bool.not_eq_true', decide_eq_false_iff_not, Bool.not_true, Bool.not_false, List.length_cons, List.length_nil, sizeLine_eq, Nat.reduceAdd, Nat.reduceLeDiff, Nat.reduceLT, Int.reduceLT, Int.reduceLE, Int.emod_nonneg, ne_eq, Int.reduceEq, not_false_eq_true, not_true_eq_false]
    unfold lbW at hN
    by_cases c1 : one / 5 % 6 = 1
    · rw [if_pos c1] at hN ⊢; exact hN
    · rw [if_neg c1] at hN ⊢; exact hN
  refine seq_to [some (.ref a), some (.int one), some (.int two), some (.int (lbW one)), some (.int (lbD two)), some (.int (two / 4 % 4))] H (fun N hN => ?_) ?_
  · simp only [RDa, RDb, RDv, RDk, RDx, RDe, RDd, RDp, RDq, List.getElem?_cons_zero, List.getElem?_cons_succ, List.set_cons_zero, List.set_cons_succ, List.cons.injEq, List.cons_ne_nil, reduceCtorEq, exists_eq_left', exists_eq_left, exists_and_left, and_assoc, exists_const, true_and, and_true, if_true, if_false, false_and, and_false, exists_false, false_or, or_false, true_implies, false_implies, implies_true, forall_eq, forall_eq', Bool.false_eq_true, if_neg, decide_eq_true_eq, Bool.not_eq_true', decide_eq_false_iff_not, Bool.not_true, Bool.not_false, List.length_cons, List.length_nil, sizeLine_eq, Nat.reduceAdd, Nat.reduceLeDiff, Nat.reduceLT, Int.reduceLT, Int.reduceLE, Int.emod_nonneg, ne_eq, Int.reduceEq, not_false_eq_true, not_true_eq_false]
    have ei : inV (V.int (two / 16 % 6)) [V.int 1, V.int 2] = decide (two / 16 % 6 = 1 ∨ two / 16 % 6 = 2) := by
      rw [Bool.eq_iff_iff]
      simp only [inV, List.any_cons, List.any_nil, eqV, Bool.or_false, Bool.or_eq_true, beq_iff_eq, decide_eq_true_eq]
      omega
    refine ⟨rfl, rfl, ?_⟩
    rw [ei]
    unfold lbD at hN
    by_cases c1 : two / 16 % 6 = 1 ∨ two / 16 % 6 = 2
    · rw [if_pos c1] at hN
      rw [if_pos (decide_eq_true c1)]; exact hN
    · rw [if_neg c1] at hN
      rw [if_neg (by simpa using c1)]; exact hN
  refine seq_to [some (.ref a), some (.int one), some (.int two), some (.int (lbW one)), some (.int (lbD two)), some (.int (if two / 16 % 6 = 2 then two / 2016 % 21 else two / 4 % 4))] H (fun N hN => ?_) ?_
  · simp only [RDa, RDb, RDv, RDk, RDx, RDe, RDd, RDp, RDq, List.getElem?_cons_zero, List.getElem?_cons_succ, List.set_cons_zero, List.set_cons_succ, List.cons.injEq, List.cons_ne_nil, reduceCtorEq, exists_eq_left', exists_eq_left, exists_and_left, and_assoc, exists_const, true_and, and_true, if_true, if_false, false_and, and_false, exists_false, false_or, or_false, true_implies, false_implies, implies_true, forall_eq, forall_eq', Bool.false_eq_true, if_neg, decide_eq_true_eq, Bool.not_eq_true', decide_eq_false_iff_not, Bool.not_true, Bool.not_false, List.length_cons, List.length_nil, sizeLine_eq, Nat.reduceAdd, Nat.reduceLeDiff, Nat.reduceLT, Int.reduceLT, Int.reduceLE, Int.emod_nonneg, ne_eq, Int.reduceEq, not_false_eq_true, not_true_eq_false]
    by_cases c1 : two / 16 % 6 = 2
    · rw [if_pos c1] at hN ⊢; exact hN
    · rw [if_neg c1] at hN ⊢; exact hN
  refine seq_to [some (.ref a), some (.int one), some (.int two), some (.int (lbW one)), some (.int (lbD two)), some (.int (lbB two))] H (fun N hN => ?_) ?_
  · simp only [RDa, RDb, RDv, RDk, RDx, RDe, RDd, RDp, RDq, List.getElem?_cons_zero, List.getElem?_cons_succ, List.set_cons_zero, List.set_cons_succ, List.cons.injEq, List.cons_ne_nil, reduceCtorEq, exists_eq_left', exists_eq_left, exists_and_left, and_assoc, exists_const, true_and, and_true, if_true, if_false, false_and, and_false, exists_false, false_or, or_false, true_implies, false_implies, implies_true, forall_eq, forall_eq', Bool.false_eq_true, if_neg, decide_eq_true_eq, Bool.not_eq_true', decide_eq_false_iff_not, Bool.not_true, Bool.not_false, List.length_cons, List.length_nil, sizeLine_eq, Nat.reduceAdd, Nat.reduceLeDiff, Nat.reduceLT, Int.reduceLT, Int.reduceLE, Int.emod_nonneg, ne_eq, Int.reduceEq, not_false_eq_true, not_true_eq_false]
    unfold lbB at hN
    by_cases c1 : 3 < two / 16 % 6
    · rw [if_pos c1] at hN ⊢
      exact ⟨_, pickI2 (by omega) (by omega), _, rfl, by split <;> decide, hN⟩
    · rw [if_neg c1] at hN ⊢; exact hN
  have ok := lb_ok (one := one) (two := two)
  simp only [RDa, RDb, RDv, RDk, RDx, RDe, RDd, RDp, RDq, List.getElem?_cons_zero, List.getElem?_cons_succ, List.set_cons_zero, List.set_cons_succ, List.cons.injEq, List.cons_ne_nil, reduceCtorEq, exists_eq_left', exists_eq_left, exists_and_left, and_assoc, exists_const, true_and, and_true, if_true, if_false, false_and, and_false, exists_false, false_or, or_false, true_implies, false_implies, implies_true, forall_eq, forall_eq', Bool.false_eq_true, if_neg, decide_eq_true_eq, Bool.not_eq_true', decide_eq_false_iff_not, Bool.not_true, Bool.not_false, List.length_cons, List.length_nil, sizeLine_eq, Nat.reduceAdd, Nat.reduceLeDiff, Nat.reduceLT, Int.reduceLT, Int.reduceLE, Int.emod_nonneg, ne_eq, Int.reduceEq, not_false_eq_true, not_true_eq_false]
  exact ⟨by omega, fun t ht => q t _ ht (same_new ht) upd_same⟩
end RP

namespace RP
open PySem PySem.Spec PyProof.Rows L2 L2H
theorem upd_id {H : Hp} {p : Addr} {o : HO} (h : H p = some o) : upd H p o = H := by
  funext b
  unfold upd
  split
  · rename_i e
    rw [e, h]
  · rfl
def sTop (t k : Int) : Int := if k = t then t + 1 else t
def sBase (b t r n : Int) : Int := if b + (n - b) % r ≤ t then b + (n - b) % r else b
def hget (hd : List (Int × Str)) (k : Int) : Option Str := (hd.find? fun p => decide (p.1 = k)).map (·.2)
def hdrop (hd : List (Int × Str)) (k : Int) : List (Int × Str) := hd.filter fun p => decide (p.1 ≠ k)
def kvs (hd : List (Int × Str)) : List (Key × V) := hd.map fun p => (Sum.inl p.1, V.str p.2)
theorem kvs_get (hd : List (Int × Str)) (k : Int) : valV (kvs hd) (Sum.inl k : Key) = (hget hd k).map V.str := by
  induction hd with
  | nil => rfl
  | cons p r ih =>
    by_cases e : p.1 = k
    · have e1 : valV (kvs (p :: r)) (Sum.inl k : Key) = some (.str p.2) := valV_pos (by show (Sum.inl p.1 : Key) = Sum.inl k; rw [e])
      rw [e1]
      unfold hget
      rw [List.find?_cons, decide_eq_true e]
      rfl
    · have e1 : valV (kvs (p :: r)) (Sum.inl k : Key) = valV (kvs r) (Sum.inl k : Key) := valV_neg (by show ¬ (Sum.inl p.1 : Key) = Sum.inl k; simp [e])
      rw [e1, ih]
      unfold hget
      rw [List.find?_cons, decide_eq_false e]
theorem kvs_drop (hd : List (Int × Str)) (k : Int) : dropK (kvs hd) (Sum.inl k : Key) = kvs (hdrop hd k) := by
  unfold dropK kvs hdrop
  rw [List.filter_map]
  congr 1
  refine List.filter_congr fun p _ => ?_
  show decide ((Sum.inl p.1 : Key) ≠ Sum.inl k) = decide (p.1 ≠ k)
  simp
theorem kvs_put {hd : List (Int × Str)} {k : Int} (x : Str) (h : hget hd k = none) : putK (kvs hd) (Sum.inl k : Key) (.str x) = kvs (hd ++ [(k, x)]) := by
  rw [putK_new _ (by rw [kvs_get, h]; rfl)]
  unfold kvs
  rw [List.map_append]
  rfl
theorem kvs_length (hd : List (Int × Str)) : (kvs hd).length = hd.length := List.length_map ..
theorem kvs_keys (hd : List (Int × Str)) : (kvs hd).map (·.1) = (hd.map (·.1)).map Sum.inl := by
  unfold kvs
  rw [List.map_map, List.map_map]
  rfl
theorem hdrop_lt {hd : List (Int × Str)} {k : Int} {x : Str} (h : hget hd k = some x) : (hdrop hd k).length < hd.length := by
  unfold hget at h
  obtain ⟨p, e, _⟩ := Option.map_eq_some_iff.mp h
  have m := List.mem_of_find?_eq_some e
  have pk := List.find?_some e
  refine Nat.lt_of_le_of_ne (List.length_filter_le _ _) fun e2 => ?_
  have := List.length_filter_eq_length_iff.mp e2 p m
  simp only [decide_eq_true_eq] at pk this
  exact this pk
def drain : Nat → Int → List Str → List (Int × Str) → Int × List Str × List (Int × Str)
  | 0, w, g, h => (w, g, h)
  | f + 1, w, g, h => match hget h w with
    | some x => drain f (w + 1) (g ++ [x]) (hdrop h w)
    | none => (w, g, h)
theorem drain_fuel : ∀ (f f' : Nat) (w : Int) (g : List Str) (h : List (Int × Str)), h.length ≤ f → h.length ≤ f' → drain f w g h = drain f' w g h
  | 0, 0, _, _, _, _, _ => rfl
  | 0, f' + 1, w, g, h, l, _ => by
    have e : h = [] := List.length_eq_zero_iff.mp (Nat.le_zero.mp l)
    subst e
    rfl
  | f + 1, 0, w, g, h, _, l => by
    have e : h = [] := List.length_eq_zero_iff.mp (Nat.le_zero.mp l)
    subst e
    rfl
  | f + 1, f' + 1, w, g, h, l1, l2 => by
    unfold drain
    cases e : hget h w with
    | none => rfl
    | some x =>
      have := hdrop_lt e
      exact drain_fuel f f' _ _ _ (by omega) (by omega)
def drained (w : Int) (g : List Str) (h : List (Int × Str)) : Int × List Str × List (Int × Str) := drain h.length w g h
theorem drained_some {w : Int} {g : List Str} {h : List (Int × Str)} {x : Str} (e : hget h w = some x) : drained w g h = drained (w + 1) (g ++ [x]) (hdrop h w) := by
  have l := hdrop_lt e
  obtain ⟨f, hf⟩ : ∃ f, h.length = f + 1 := ⟨h.length - 1, by omega⟩
  unfold drained
  rw [hf]
  conv => lhs; unfold drain
  rw [e]
  exact drain_fuel _ _ _ _ _ (by omega) (Nat.le_refl _)
theorem drained_none {w : Int} {g : List Str} {h : List (Int × Str)} (e : hget h w = none) : drained w g h = (w, g, h) := by
  unfold drained
  cases h with
  | nil => rfl
  | cons p r =>
    unfold List.length drain
    rw [e]
def tkPut (room ring w : Int) (hd : List (Int × Str)) (n : Int) (x : Str) : List (Int × Str) :=
  if (n - w) % ring < room ∧ hget hd (w + (n - w) % ring) = none then hd ++ [(w + (n - w) % ring, x)] else hd
theorem tkPut_le (room ring w : Int) (hd : List (Int × Str)) (n : Int) (x : Str) : (tkPut room ring w hd n x).length ≤ hd.length + 1 := by
  unfold tkPut
  split
  · rw [List.length_append]; exact Nat.le_refl _
  · omega
def tkCame (room ring w : Int) (g : List Str) (hd : List (Int × Str)) (n : Int) (x : Str) : Int × List Str × List (Int × Str) := drained w g (tkPut room ring w hd n x)
def stepV (H : Hp) (x : V) : Bool := match x with
  | .ref a => match H a with
    | some (.tup [.str z, y]) => (decide (z = "send") || decide (z = "hand") || decide (z = "tell")) && amongV y 0 999999
    | _ => false
  | _ => false
def isWord (w : Str) : Prop := w = "send" ∨ w = "hand" ∨ w = "tell"
def LetAt (H : Hp) (q : Int × Str) (v : V) : Prop := ∃ a, v = .ref a ∧ H a = some (.tup [.int q.1, .str q.2])
def StepAt (H : Hp) (q : Str × Int) (v : V) : Prop := ∃ a, v = .ref a ∧ H a = some (.tup [.str q.1, .int q.2])
theorem LetAt.fr {H H1 : Hp} {B : List Addr} (f : Fr B H H1) (hT : ∀ x ∈ B, ∀ xs, H x ≠ some (.tup xs)) {q : Int × Str} {v : V} (h : LetAt H q v) : LetAt H1 q v := by
  obtain ⟨a, e, h⟩ := h
  exact ⟨a, e, f _ _ (fun m => hT a m _ h) h⟩
theorem StepAt.fr {H H1 : Hp} {B : List Addr} (f : Fr B H H1) (hT : ∀ x ∈ B, ∀ xs, H x ≠ some (.tup xs)) {q : Str × Int} {v : V} (h : StepAt H q v) : StepAt H1 q v := by
  obtain ⟨a, e, h⟩ := h
  exact ⟨a, e, f _ _ (fun m => hT a m _ h) h⟩
end RP

namespace RP
open PySem PySem.Spec PyProof.Rows L2
/-! the plain rows of a run -/
structure M where
  w : Int
  r : Int
  d : Int
  b : Int
  ring : Int
  tx : List Str
  base : Int
  top : Int
  want : Int
  out : List Str
  kept : List (Int × Str)
  ls : List (Int × Str)
  an : List Int
def M.begun (w r d b ring : Int) (tx : List Str) : M := ⟨w, r, d, b, ring, tx, 0, 0, 0, [], [], [], []⟩
/-- one of so many, there by the bound -/
def isT (n len bound : Int) : Bool := decide (mx2 0 (len - 1 - bound) ≤ n) && decide (n < len)
def M.last (m : M) : Int := mn2 (mn2 m.top (m.base + m.w - 1)) ((m.tx.length : Int) - 1)
def M.send (m : M) (k : Int) : Option (Int × M) :=
  if m.base ≤ k ∧ k ≤ m.last then some (m.ls.length, { m with top := sTop m.top k, ls := m.ls ++ [(k % m.ring, m.tx.getD k.toNat "")] }) else none
def M.handed (m : M) (q : Int × Str) : M :=
  { m with want := (tkCame m.r m.ring m.want m.out m.kept q.1 q.2).1, out := (tkCame m.r m.ring m.want m.out m.kept q.1 q.2).2.1, kept := (tkCame m.r m.ring m.want m.out m.kept q.1 q.2).2.2, an := m.an ++ [(tkCame m.r m.ring m.want m.out m.kept q.1 q.2).1 % m.ring] }
def M.hand (m : M) (n : Int) : Option (Int × M) :=
  if isT n m.ls.length m.d = true then some (m.an.length, m.handed (m.ls.getD n.toNat (0, ""))) else none
def M.tell (m : M) (n : Int) : Option (Int × M) :=
  if isT n m.an.length m.b = true then some (sBase m.base m.top m.ring (m.an.getD n.toNat 0), { m with base := sBase m.base m.top m.ring (m.an.getD n.toNat 0) }) else none
def M.step (m : M) (z : Str) (n : Int) : Option (Int × M) := if z = "send" then m.send n else if z = "hand" then m.hand n else m.tell n
def M.run (m : M) : List (Str × Int) → Option M
  | [] => some m
  | q :: t => (m.step q.1 q.2).bind fun c => c.2.run t
theorem M.run_snoc : ∀ (hs : List (Str × Int)) (m m1 m2 : M) (z : Str) (n t : Int), m.run hs = some m1 → m1.step z n = some (t, m2) → m.run (hs ++ [(z, n)]) = some m2
  | [], m, m1, m2, z, n, t, h, e => by
    cases h
    show (m.step z n).bind _ = _
    rw [e]
    rfl
  | q :: hs, m, m1, m2, z, n, t, h, e => by
    unfold M.run at h
    rw [List.cons_append]
    unfold M.run
    cases hq : m.step q.1 q.2 with
    | none => rw [hq] at h; cases h
    | some c =>
      rw [hq] at h
      exact M.run_snoc hs c.2 m1 m2 z n t h e
/-- sizes -/
structure M.Ok (m : M) (N : Nat) : Prop where
  w1 : 1 ≤ m.w
  w2 : m.w ≤ 20
  r1 : 1 ≤ m.r
  r2 : m.r ≤ 20
  d1 : 0 ≤ m.d
  d2 : m.d ≤ 20
  b1 : 0 ≤ m.b
  b2 : m.b ≤ 20
  g1 : 1 ≤ m.ring
  g2 : m.ring ≤ 200
  tx : m.tx.length ≤ 400
  ls : m.ls.length ≤ N
  an : m.an.length ≤ N
  ok : m.out.length + m.kept.length ≤ N
  b0 : 0 ≤ m.base
  t0 : m.top ≤ m.tx.length
  sx : ∀ x ∈ m.tx, TxtOk 40 x
  so : ∀ x ∈ m.out, TxtOk 40 x
  sk : ∀ q ∈ m.kept, TxtOk 40 q.2
  sl : ∀ q ∈ m.ls, TxtOk 40 q.2
theorem M.Ok.mono {m : M} {N N' : Nat} (h : m.Ok N) (l : N ≤ N') : m.Ok N' :=
  { h with ls := Nat.le_trans h.ls l, an := Nat.le_trans h.an l, ok := Nat.le_trans h.ok l }
theorem drain_len : ∀ (f : Nat) (w : Int) (g : List Str) (h : List (Int × Str)), (drain f w g h).2.1.length + (drain f w g h).2.2.length ≤ g.length + h.length
  | 0, w, g, h => Nat.le_refl _
  | f + 1, w, g, h => by
    unfold drain
    cases e : hget h w with
    | none => exact Nat.le_refl _
    | some x =>
      dsimp only
      refine Nat.le_trans (drain_len f _ _ _) ?_
      have := hdrop_lt e
      rw [List.length_append, List.length_singleton]
      omega
theorem came_len (room ring w : Int) (g : List Str) (hd : List (Int × Str)) (n : Int) (x : Str) : (tkCame room ring w g hd n x).2.1.length + (tkCame room ring w g hd n x).2.2.length ≤ g.length + hd.length + 1 := by
  unfold tkCame drained
  have h1 := drain_len (tkPut room ring w hd n x).length w g (tkPut room ring w hd n x)
  have h2 := tkPut_le room ring w hd n x
  omega
theorem drain_all {P : Str → Prop} : ∀ (f : Nat) (w : Int) (g : List Str) (h : List (Int × Str)), (∀ x ∈ g, P x) → (∀ q ∈ h, P q.2) → (∀ x ∈ (drain f w g h).2.1, P x) ∧ (∀ q ∈ (drain f w g h).2.2, P q.2)
  | 0, w, g, h, h1, h2 => ⟨h1, h2⟩
  | f + 1, w, g, h, h1, h2 => by
    unfold drain
    cases e : hget h w with
    | none => exact ⟨h1, h2⟩
    | some x =>
      dsimp only
      refine drain_all f _ _ _ (fun y hy => ?_) fun q hq => h2 q (List.mem_filter.mp hq).1
      rcases List.mem_append.mp hy with z | z
      · exact h1 y z
      · rw [List.mem_singleton.mp z]
        unfold hget at e
        obtain ⟨p, e1, e2⟩ := Option.map_eq_some_iff.mp e
        rw [← e2]
        exact h2 p (List.mem_of_find?_eq_some e1)
theorem came_all {P : Str → Prop} {room ring w : Int} {g : List Str} {hd : List (Int × Str)} {n : Int} {x : Str} (h1 : ∀ y ∈ g, P y) (h2 : ∀ q ∈ hd, P q.2) (h3 : P x) : (∀ y ∈ (tkCame room ring w g hd n x).2.1, P y) ∧ (∀ q ∈ (tkCame room ring w g hd n x).2.2, P q.2) := by
  unfold tkCame drained
  refine drain_all (tkPut room ring w hd n x).length w g (tkPut room ring w hd n x) h1 fun q hq => ?_
  unfold tkPut at hq
  split at hq
  · rcases List.mem_append.mp hq with z | z
    · exact h2 q z
    · rw [List.mem_singleton.mp z]
      exact h3
  · exact h2 q hq
theorem txt_empty (n : Nat) : TxtOk n "" := ⟨by decide +kernel, by rw [show ("" : Str).length = 0 by decide +kernel]; exact Nat.zero_le _⟩
theorem sBase_ge {b t r n : Int} (hr : 0 < r) : b ≤ sBase b t r n := by
  unfold sBase
  have := Int.emod_nonneg (n - b) (Int.ne_of_gt hr)
  split <;> omega
theorem M.step_const {m m' : M} {z : Str} {n t : Int} (e : m.step z n = some (t, m')) : m'.w = m.w ∧ m'.r = m.r ∧ m'.d = m.d ∧ m'.b = m.b ∧ m'.ring = m.ring ∧ m'.tx = m.tx := by
  unfold M.step M.send M.hand M.tell at e
  split at e
  · split at e
    · cases e; exact ⟨rfl, rfl, rfl, rfl, rfl, rfl⟩
    · cases e
  · split at e
    · split at e
      · cases e; exact ⟨rfl, rfl, rfl, rfl, rfl, rfl⟩
      · cases e
    · split at e
      · cases e; exact ⟨rfl, rfl, rfl, rfl, rfl, rfl⟩
      · cases e
theorem M.Ok.step {m m' : M} {N : Nat} {z : Str} {n t : Int} (h : m.Ok N) (e : m.step z n = some (t, m')) : m'.Ok (N + 1) ∧ m'.w = m.w ∧ m'.r = m.r ∧ m'.d = m.d ∧ m'.b = m.b ∧ m'.ring = m.ring ∧ m'.tx = m.tx := by
  have h1 := h.ls
  have h2 := h.an
  have h3 := h.ok
  unfold M.step at e
  split at e
  · unfold M.send at e
    split at e
    · rename_i c
      cases e
      refine ⟨{ h with ls := ?_, an := by show m.an.length ≤ _; omega, ok := by show m.out.length + m.kept.length ≤ _; omega, t0 := ?_, sl := ?_ }, rfl, rfl, rfl, rfl, rfl, rfl⟩
      · show (m.ls ++ [_]).length ≤ _
        rw [List.length_append, List.length_singleton]
        omega
      · show sTop m.top n ≤ _
        have ht := h.t0
        have hl := c.2
        unfold M.last mn2 at hl
        unfold sTop
        split
        · show m.top + 1 ≤ (m.tx.length : Int)
          split at hl <;> (try split at hl) <;> omega
        · exact ht
      · show ∀ q ∈ m.ls ++ [_], TxtOk 40 q.2
        intro q hq
        rcases List.mem_append.mp hq with z | z
        · exact h.sl q z
        · rw [List.mem_singleton.mp z]
          exact getD_all h.sx (txt_empty 40) _
    · cases e
  · split at e
    · unfold M.hand at e
      split at e
      · cases e
        have h4 := came_len m.r m.ring m.want m.out m.kept (m.ls.getD n.toNat (0, "")).1 (m.ls.getD n.toNat (0, "")).2
        have h5 := came_all (room := m.r) (ring := m.ring) (w := m.want) (n := (m.ls.getD n.toNat (0, "")).1) h.so h.sk (getD_all (p := fun q : Int × Str => TxtOk 40 q.2) (d := ((0 : Int), ("" : Str))) h.sl (txt_empty 40) n.toNat)
        refine ⟨{ h with ls := by show m.ls.length ≤ _; omega, an := ?_, ok := ?_, so := h5.1, sk := h5.2 }, rfl, rfl, rfl, rfl, rfl, rfl⟩
        · show (m.an ++ [_]).length ≤ _
          rw [List.length_append, List.length_singleton]
          omega
        · show (tkCame m.r m.ring m.want m.out m.kept (m.ls.getD n.toNat (0, "")).1 (m.ls.getD n.toNat (0, "")).2).2.1.length + (tkCame m.r m.ring m.want m.out m.kept (m.ls.getD n.toNat (0, "")).1 (m.ls.getD n.toNat (0, "")).2).2.2.length ≤ _
          omega
      · cases e
    · unfold M.tell at e
      split at e
      · cases e
        have hb := h.b0
        refine ⟨{ h with ls := by show m.ls.length ≤ _; omega, an := by show m.an.length ≤ _; omega, ok := by show m.out.length + m.kept.length ≤ _; omega, b0 := ?_ }, rfl, rfl, rfl, rfl, rfl, rfl⟩
        exact Int.le_trans hb (sBase_ge (by have := h.g1; omega))
      · cases e
theorem M.begun_ok {w r d b ring : Int} {tx : List Str} (c : 1 ≤ w ∧ w ≤ 20 ∧ 1 ≤ r ∧ r ≤ w ∧ 0 ≤ d ∧ d ≤ 20 ∧ 0 ≤ b ∧ b ≤ 20) (h1 : 1 ≤ ring) (h2 : ring ≤ 200) (h3 : tx.length ≤ 400) (h4 : ∀ x ∈ tx, TxtOk 40 x) (N : Nat) : (M.begun w r d b ring tx).Ok N where
  w1 := c.1
  w2 := c.2.1
  r1 := c.2.2.1
  r2 := by show r ≤ 20; omega
  d1 := c.2.2.2.2.1
  d2 := c.2.2.2.2.2.1
  b1 := c.2.2.2.2.2.2.1
  b2 := c.2.2.2.2.2.2.2
  g1 := h1
  g2 := h2
  tx := h3
  ls := Nat.zero_le _
  an := Nat.zero_le _
  ok := Nat.zero_le _
  b0 := Int.le_refl _
  t0 := Int.natCast_nonneg _
  sx := h4
  so := fun _ m => by cases m
  sk := fun _ m => by cases m
  sl := fun _ m => by cases m
theorem mn2_le {a b c : Int} : c ≤ mn2 a b ↔ c ≤ a ∧ c ≤ b := by unfold mn2; split <;> omega
theorem last_le {m : M} {k : Int} : k ≤ m.last ↔ k ≤ m.top ∧ k ≤ m.base + m.w - 1 ∧ k ≤ (m.tx.length : Int) - 1 := by
  unfold M.last
  rw [mn2_le, mn2_le, and_assoc]
theorem mx2_le {a b c : Int} : mx2 a b ≤ c ↔ a ≤ c ∧ b ≤ c := by unfold mx2; split <;> omega
theorem isT_iff {n len bound : Int} : isT n len bound = true ↔ 0 ≤ n ∧ len - 1 - bound ≤ n ∧ n < len := by
  unfold isT
  rw [Bool.and_eq_true, decide_eq_true_eq, decide_eq_true_eq, mx2_le, and_assoc]
theorem M.run_const : ∀ (hs : List (Str × Int)) (m m' : M), m.run hs = some m' → m'.w = m.w ∧ m'.r = m.r ∧ m'.d = m.d ∧ m'.b = m.b ∧ m'.ring = m.ring ∧ m'.tx = m.tx
  | [], m, m', h => by cases h; exact ⟨rfl, rfl, rfl, rfl, rfl, rfl⟩
  | q :: t, m, m', h => by
    unfold M.run at h
    cases e : m.step q.1 q.2 with
    | none => rw [e] at h; cases h
    | some c =>
      rw [e] at h
      have h1 := M.run_const t c.2 m' h
      have h2 := M.step_const (t := c.1) (m' := c.2) e
      exact ⟨h1.1.trans h2.1, h1.2.1.trans h2.2.1, h1.2.2.1.trans h2.2.2.1, h1.2.2.2.1.trans h2.2.2.2.1, h1.2.2.2.2.1.trans h2.2.2.2.2.1, h1.2.2.2.2.2.trans h2.2.2.2.2.2⟩
theorem M.Ok.run : ∀ (hs : List (Str × Int)) (m m' : M) (N : Nat), m.Ok N → m.run hs = some m' → m'.Ok (N + hs.length)
  | [], m, m', N, h, e => by cases e; exact h
  | q :: t, m, m', N, h, e => by
    unfold M.run at e
    cases e1 : m.step q.1 q.2 with
    | none => rw [e1] at e; cases e
    | some c =>
      rw [e1] at e
      have := M.Ok.run t c.2 m' (N + 1) (h.step (t := c.1) (m' := c.2) e1).1 e
      rw [List.length_cons, show N + (t.length + 1) = N + 1 + t.length by omega]
      exact this
def M.isWrong (m : M) : Bool := !decide (m.out = m.tx.take m.out.length) || decide ((m.out.length : Int) < m.base)
/-- the numbers that are there -/
def thereN (len : Nat) (bound : Int) : List Nat := (List.range (len - (mx2 0 (len - 1 - bound)).toNat)).map fun i => (mx2 0 ((len : Int) - 1 - bound)).toNat + i
/-- some word of the error that refuses a step -/
def errOf (z : Str) : Str := if z = "send" then "NotNow" else "NoLetter"
end RP

namespace RP
open PySem PySem.Spec PyProof.Rows L2
/-! nothing goes wrong with a ring that is large enough -/
theorem hget_none {h : List (Int × Str)} {k : Int} : hget h k = none ↔ ∀ q ∈ h, q.1 ≠ k := by
  unfold hget
  rw [Option.map_eq_none_iff, List.find?_eq_none]
  simp only [decide_eq_true_eq]
theorem hget_mem {h : List (Int × Str)} {k : Int} {x : Str} (e : hget h k = some x) : (k, x) ∈ h := by
  unfold hget at e
  obtain ⟨p, e1, e2⟩ := Option.map_eq_some_iff.mp e
  have m := List.mem_of_find?_eq_some e1
  have pk := List.find?_some e1
  simp only [decide_eq_true_eq] at pk
  rw [← pk, ← e2]
  exact m
theorem hdrop_mem {h : List (Int × Str)} {k : Int} {q : Int × Str} : q ∈ hdrop h k ↔ q ∈ h ∧ q.1 ≠ k := by
  unfold hdrop
  rw [List.mem_filter, decide_eq_true_eq]
/-- keys that are unlike, in a span, are few -/
theorem span_le : ∀ (l : List Int) (a b : Int), l.Nodup → (∀ x ∈ l, a ≤ x ∧ x < b) → (l.length : Int) ≤ (if a ≤ b then b - a else 0)
  | [], a, b, _, _ => by
    split
    · show (0 : Int) ≤ _; omega
    · exact Int.le_refl _
  | x :: l, a, b, nd, h => by
    -- move the last value of the span to the place of x
    have hx := h x (by simp)
    rw [List.nodup_cons] at nd
    have h2 := span_le (l.map fun y => if y = b - 1 then x else y) a (b - 1) ?_ ?_
    · rw [List.length_map] at h2
      rw [if_pos (by omega)]
      rw [List.length_cons]
      split at h2 <;> omega
    · rw [List.nodup_iff_pairwise_ne, List.pairwise_map]
      have p := List.nodup_iff_pairwise_ne.mp nd.2
      refine (List.pairwise_iff_forall_sublist.mpr fun {y z} s => ?_)
      have ne := List.pairwise_iff_forall_sublist.mp p s
      have ym : y ∈ l := s.subset (by simp)
      have zm : z ∈ l := s.subset (by simp)
      have yx : y ≠ x := fun e => nd.1 (e ▸ ym)
      have zx : z ≠ x := fun e => nd.1 (e ▸ zm)
      split <;> split <;> omega
    · intro y hy
      obtain ⟨z, zm, rfl⟩ := List.mem_map.mp hy
      have hz := h z (by simp [zm])
      have zx : z ≠ x := fun e => nd.1 (e ▸ zm)
      split <;> omega
termination_by l => l.length
/-- what is kept ahead of a place -/
structure Kept (tx : List Str) (lo hi : Int) (h : List (Int × Str)) : Prop where
  nd : (h.map (·.1)).Nodup
  rg : ∀ q ∈ h, lo ≤ q.1 ∧ q.1 < hi ∧ q.2 = tx.getD q.1.toNat ""
theorem Kept.len {tx : List Str} {lo hi : Int} {h : List (Int × Str)} (k : Kept tx lo hi h) (l : lo ≤ hi) : (h.length : Int) ≤ hi - lo := by
  have := span_le (h.map (·.1)) lo hi k.nd (fun x hx => by
    obtain ⟨q, qm, rfl⟩ := List.mem_map.mp hx
    exact ⟨(k.rg q qm).1, (k.rg q qm).2.1⟩)
  rw [List.length_map, if_pos l] at this
  exact this
theorem Kept.drop {tx : List Str} {lo hi : Int} {h : List (Int × Str)} (k : Kept tx lo hi h) : Kept tx (lo + 1) hi (hdrop h lo) := by
  refine ⟨?_, fun q hq => ?_⟩
  · exact k.nd.sublist (List.Sublist.map _ List.filter_sublist)
  · obtain ⟨h1, h2⟩ := hdrop_mem.mp hq
    have := k.rg q h1
    exact ⟨by omega, this.2⟩
theorem drain_good (tx : List Str) : ∀ (f : Nat) (w : Int) (g : List Str) (h : List (Int × Str)) (hi : Int), h.length ≤ f → 0 ≤ w → w ≤ hi → hi ≤ tx.length → g = tx.take w.toNat → Kept tx w hi h →
    w ≤ (drain f w g h).1 ∧ (drain f w g h).1 ≤ hi ∧ (drain f w g h).2.1 = tx.take (drain f w g h).1.toNat ∧ Kept tx ((drain f w g h).1 + 1) hi (drain f w g h).2.2 ∧ (∀ q ∈ (drain f w g h).2.2, q ∈ h) ∧ (drain f w g h).1 + ((drain f w g h).2.2.length : Int) ≤ w + h.length
  | 0, w, g, h, hi, hl, h0, h1, h2, hg, k => by
    have e : h = [] := List.length_eq_zero_iff.mp (Nat.le_zero.mp hl)
    subst e
    exact ⟨Int.le_refl _, h1, hg, ⟨List.nodup_nil, fun _ m => by cases m⟩, fun _ m => m, Int.le_refl _⟩
  | f + 1, w, g, h, hi, hl, h0, h1, h2, hg, k => by
    unfold drain
    cases e : hget h w with
    | none =>
      dsimp only
      refine ⟨Int.le_refl _, h1, hg, ⟨k.nd, fun q hq => ?_⟩, fun _ m => m, Int.le_refl _⟩
      have h3 := hget_none.mp e q hq
      have h4 := k.rg q hq
      exact ⟨by omega, h4.2⟩
    | some x =>
      dsimp only
      have hm := hget_mem e
      have h3 := k.rg _ hm
      have hlt := hdrop_lt e
      have wl : w.toNat < tx.length := by omega
      have hx : x = tx[w.toNat] := by
        have h5 := h3.2.2
        dsimp only at h5
        rw [h5, List.getD_eq_getElem?_getD, List.getElem?_eq_getElem wl]
        rfl
      obtain ⟨a1, a2, a3, a4, a5, a6⟩ := drain_good tx f (w + 1) (g ++ [x]) (hdrop h w) hi (by omega) (by omega) (by omega) h2 (by
        rw [hg, hx, show (w + 1).toNat = w.toNat + 1 by omega, List.take_succ, List.getElem?_eq_getElem wl]
        rfl) k.drop
      exact ⟨by omega, a2, a3, a4, fun q hq => (hdrop_mem.mp (a5 q hq)).1, by omega⟩
/-- what a letter brings, by its true place -/
def aPut (r w : Int) (hd : List (Int × Str)) (k : Int) (x : Str) : List (Int × Str) := if w ≤ k ∧ k < w + r ∧ hget hd k = none then hd ++ [(k, x)] else hd
theorem put_eq {r ring w : Int} {hd : List (Int × Str)} {k : Int} {x : Str} (h1 : w + r - ring ≤ k) (h2 : k < w + ring) (h3 : 0 < ring) (h4 : r ≤ ring) (h5 : 0 ≤ r) : tkPut r ring w hd (k % ring) x = aPut r w hd k x := by
  have e : (k % ring - w) % ring = (k - w) % ring := by rw [Int.emod_sub_emod]
  unfold tkPut aPut
  rw [e]
  by_cases c : w ≤ k
  · rw [Int.emod_eq_of_lt (by omega) (by omega), show w + (k - w) = k by omega]
    by_cases c2 : k < w + r ∧ hget hd k = none
    · rw [if_pos ⟨by omega, c2.2⟩, if_pos ⟨c, c2.1, c2.2⟩]
    · rw [if_neg (fun h => c2 ⟨by omega, h.2⟩), if_neg (fun h => c2 ⟨h.2.1, h.2.2⟩)]
  · have e2 : (k - w) % ring = k - w + ring := by
      rw [← Int.add_emod_right]
      exact Int.emod_eq_of_lt (by omega) (by omega)
    rw [e2, if_neg (fun h => by omega), if_neg (fun h => c h.1)]
/-- all is right, by the letters' and answers' true numbers -/
structure Good (m : M) (ks vs : List Int) : Prop where
  ls : m.ls = ks.map fun k => (k % m.ring, m.tx.getD k.toNat "")
  an : m.an = vs.map fun v => v % m.ring
  b0 : 0 ≤ m.base
  bw : m.base ≤ m.want
  wt : m.want ≤ m.top
  tb : m.top ≤ m.base + m.w
  tl : m.top ≤ m.tx.length
  out : m.out = m.tx.take m.want.toNat
  kp : Kept m.tx (m.want + 1) m.top m.kept
  kr : ∀ q ∈ m.kept, q.1 < m.want + m.r
  lw : ∀ (i : Nat) (k : Int), ks[i]? = some k → 0 ≤ k ∧ k < m.top ∧ m.top ≤ k + m.w + ((ks.length : Int) - 1 - i)
  aw : ∀ (i : Nat) (v : Int), vs[i]? = some v → 0 ≤ v ∧ v ≤ m.want ∧ m.want + m.kept.length ≤ v + (m.r - 1) + ((vs.length : Int) - 1 - i)
  la : m.want = vs.getLastD 0
/-- such a ring -/
def Big (m : M) : Prop := 1 ≤ m.w ∧ 1 ≤ m.r ∧ m.r ≤ m.w ∧ 0 ≤ m.d ∧ 0 ≤ m.b ∧ m.w + m.r + mx2 m.d m.b ≤ m.ring
theorem Good.begun {w r d b ring : Int} {tx : List Str} (h : 1 ≤ w) : Good (M.begun w r d b ring tx) [] [] where
  ls := rfl
  an := rfl
  b0 := Int.le_refl _
  bw := Int.le_refl _
  wt := Int.le_refl _
  tb := by show (0 : Int) ≤ 0 + w; omega
  tl := Int.natCast_nonneg _
  out := rfl
  kp := ⟨List.nodup_nil, fun _ m => by cases m⟩
  kr := fun _ m => by cases m
  lw := fun i k e => by cases e
  aw := fun i k e => by cases e
  la := rfl
def sentM (m : M) (k : Int) : M := { m with top := sTop m.top k, ls := m.ls ++ [(k % m.ring, m.tx.getD k.toNat "")] }
theorem Good.send {m : M} {ks vs : List Int} (g : Good m ks vs) {k : Int} (h1 : m.base ≤ k) (h2 : k ≤ m.last) : Good (sentM m k) (ks ++ [k]) vs := by
  obtain ⟨l1, l2, l3⟩ := last_le.mp h2
  have hb := g.b0
  have ht : m.top ≤ sTop m.top k ∧ sTop m.top k ≤ m.top + 1 ∧ k < sTop m.top k ∧ sTop m.top k ≤ m.base + m.w ∧ sTop m.top k ≤ m.tx.length := by
    have := g.tb
    have := g.tl
    unfold sTop
    split <;> omega
  refine ⟨?_, g.an, g.b0, g.bw, Int.le_trans g.wt ht.1, ht.2.2.2.1, ht.2.2.2.2, g.out, ⟨g.kp.nd, fun q hq => ?_⟩, g.kr, fun i k' e => ?_, g.aw, g.la⟩
  · show m.ls ++ [_] = _
    rw [g.ls, List.map_append]
    rfl
  · have := g.kp.rg q hq
    exact ⟨this.1, by show q.1 < sTop m.top k; omega, this.2.2⟩
  · show 0 ≤ k' ∧ k' < sTop m.top k ∧ sTop m.top k ≤ k' + m.w + (((ks ++ [k]).length : Int) - 1 - i)
    rw [List.length_append, List.length_singleton]
    by_cases c : i < ks.length
    · rw [List.getElem?_append_left c] at e
      have := g.lw i k' e
      omega
    · rw [List.getElem?_append_right (by omega)] at e
      have hi : i - ks.length = 0 := by
        have := (List.getElem?_eq_some_iff.mp e).1
        simp at this
        omega
      rw [hi] at e
      cases e
      omega
/-- what a letter brings to a good row -/
def aHand (m : M) (k : Int) : Int × List Str × List (Int × Str) := drained m.want m.out (aPut m.r m.want m.kept k (m.tx.getD k.toNat ""))
theorem Good.came {m : M} {ks vs : List Int} (g : Good m ks vs) (bg : Big m) {n k : Int} (hn : isT n m.ls.length m.d = true) (hk : ks[n.toNat]? = some k) :
    tkCame m.r m.ring m.want m.out m.kept (k % m.ring) (m.tx.getD k.toNat "") = aHand m k := by
  obtain ⟨w1, r1, rw1, d0, b0, hr⟩ := bg
  obtain ⟨n0, n1, n2⟩ := isT_iff.mp hn
  have hl : m.ls.length = ks.length := by rw [g.ls, List.length_map]
  have hx := (mx2_le (c := mx2 m.d m.b)).mp (Int.le_refl _)
  have := g.lw _ _ hk
  have := g.wt
  have := g.tb
  have := g.bw
  unfold tkCame aHand
  rw [put_eq (by omega) (by omega) (by omega) (by omega) (by omega)]
theorem aPut_kept {m : M} {ks vs : List Int} (g : Good m ks vs) {k : Int} (r1 : 1 ≤ m.r) (h : k < m.top) : Kept m.tx m.want m.top (aPut m.r m.want m.kept k (m.tx.getD k.toNat "")) ∧ (∀ q ∈ aPut m.r m.want m.kept k (m.tx.getD k.toNat ""), q.1 < m.want + m.r) ∧ (aPut m.r m.want m.kept k (m.tx.getD k.toNat "")).length ≤ m.kept.length + 1 := by
  have old : Kept m.tx m.want m.top m.kept := ⟨g.kp.nd, fun q hq => by have := g.kp.rg q hq; exact ⟨by omega, this.2⟩⟩
  unfold aPut
  split
  · rename_i c
    refine ⟨⟨?_, fun q hq => ?_⟩, fun q hq => ?_, by rw [List.length_append]; exact Nat.le_refl _⟩
    · rw [List.map_append, List.nodup_append]
      refine ⟨old.nd, by simp, fun a ha b hb e => ?_⟩
      obtain ⟨q, qm, rfl⟩ := List.mem_map.mp ha
      have : b = k := by simpa using hb
      exact hget_none.mp c.2.2 q qm (by omega)
    · rcases List.mem_append.mp hq with z | z
      · exact old.rg q z
      · have : q = (k, m.tx.getD k.toNat "") := by simpa using z
        subst this
        exact ⟨c.1, h, rfl⟩
    · rcases List.mem_append.mp hq with z | z
      · exact g.kr q z
      · have : q = (k, m.tx.getD k.toNat "") := by simpa using z
        subst this
        exact c.2.1
  · exact ⟨old, g.kr, by omega⟩
theorem aHand_good {m : M} {ks vs : List Int} (g : Good m ks vs) (r1 : 1 ≤ m.r) {k : Int} (h : k < m.top) :
    m.want ≤ (aHand m k).1 ∧ (aHand m k).1 ≤ m.top ∧ (aHand m k).2.1 = m.tx.take (aHand m k).1.toNat ∧ Kept m.tx ((aHand m k).1 + 1) m.top (aHand m k).2.2 ∧ (∀ q ∈ (aHand m k).2.2, q.1 < m.want + m.r) ∧ (aHand m k).1 + ((aHand m k).2.2.length : Int) ≤ m.want + m.kept.length + 1 := by
  obtain ⟨k1, k2, k3⟩ := aPut_kept g r1 h
  have hw := g.wt
  have hb := g.bw
  have h0 := g.b0
  obtain ⟨a1, a2, a3, a4, a5, a6⟩ := drain_good m.tx _ m.want m.out (aPut m.r m.want m.kept k (m.tx.getD k.toNat "")) m.top (Nat.le_refl _) (by omega) (by omega) g.tl g.out k1
  exact ⟨a1, a2, a3, a4, fun q hq => k2 q (a5 q hq), by unfold aHand drained; omega⟩
theorem Good.hand {m : M} {ks vs : List Int} (g : Good m ks vs) (bg : Big m) {n k : Int} (hn : isT n m.ls.length m.d = true) (hk : ks[n.toNat]? = some k) :
    Good (m.handed (m.ls.getD n.toNat (0, ""))) ks (vs ++ [(aHand m k).1]) ∧ (m.handed (m.ls.getD n.toNat (0, ""))).want = (aHand m k).1 ∧ (m.handed (m.ls.getD n.toNat (0, ""))).out = (aHand m k).2.1 ∧ (m.handed (m.ls.getD n.toNat (0, ""))).kept = (aHand m k).2.2 := by
  have eq : m.ls.getD n.toNat (0, "") = (k % m.ring, m.tx.getD k.toNat "") := by
    rw [g.ls, List.getD_eq_getElem?_getD, List.getElem?_map, hk]
    rfl
  have ec := g.came bg hn hk
  have hw := (g.lw _ _ hk).2.1
  obtain ⟨a1, a2, a3, a4, a5, a6⟩ := aHand_good g bg.2.1 hw
  rw [eq]
  have eM : m.handed (k % m.ring, m.tx.getD k.toNat "") = { m with want := (aHand m k).1, out := (aHand m k).2.1, kept := (aHand m k).2.2, an := m.an ++ [(aHand m k).1 % m.ring] } := by
    unfold M.handed
    dsimp only
    rw [ec]
  rw [eM]
  have hb := g.bw
  have hr1 := bg.2.1
  have hsp := span_le ((aHand m k).2.2.map (·.1)) ((aHand m k).1 + 1) (m.want + m.r) a4.nd (fun x hx => by
    obtain ⟨q, qm, rfl⟩ := List.mem_map.mp hx
    exact ⟨(a4.rg q qm).1, a5 q qm⟩)
  rw [List.length_map] at hsp
  refine ⟨⟨g.ls, ?_, g.b0, by show m.base ≤ (aHand m k).1; omega, a2, g.tb, g.tl, a3, a4, fun q hq => ?_, g.lw, fun i v e => ?_, ?_⟩, rfl, rfl, rfl⟩
  · show m.an ++ [_] = _
    rw [g.an, List.map_append]
    rfl
  · show q.1 < (aHand m k).1 + m.r
    have := a5 q hq
    omega
  · show 0 ≤ v ∧ v ≤ (aHand m k).1 ∧ (aHand m k).1 + ((aHand m k).2.2.length : Int) ≤ v + (m.r - 1) + (((vs ++ [(aHand m k).1]).length : Int) - 1 - i)
    rw [List.length_append, List.length_singleton]
    by_cases c : i < vs.length
    · rw [List.getElem?_append_left c] at e
      have := g.aw i v e
      omega
    · rw [List.getElem?_append_right (by omega)] at e
      have hi : i - vs.length = 0 := by
        have := (List.getElem?_eq_some_iff.mp e).1
        simp at this
        omega
      rw [hi] at e
      cases e
      have := g.b0
      split at hsp <;> omega
  · show (aHand m k).1 = (vs ++ [(aHand m k).1]).getLastD 0
    simp
/-- the base behind an answer, by its true number -/
theorem Good.heard {m : M} {ks vs : List Int} (g : Good m ks vs) (bg : Big m) {n v : Int} (hn : isT n m.an.length m.b = true) (hv : vs[n.toNat]? = some v) :
    sBase m.base m.top m.ring (m.an.getD n.toNat 0) = mx2 m.base v := by
  have eq : m.an.getD n.toNat 0 = v % m.ring := by
    rw [g.an, List.getD_eq_getElem?_getD, List.getElem?_map, hv]
    rfl
  obtain ⟨w1, r1, rw1, d0, b0, hr⟩ := bg
  obtain ⟨n0, n1, n2⟩ := isT_iff.mp hn
  have hl : m.an.length = vs.length := by rw [g.an, List.length_map]
  have hx := (mx2_le (c := mx2 m.d m.b)).mp (Int.le_refl _)
  have h1 := g.aw _ _ hv
  have h2 := g.wt
  have h3 := g.tb
  have h4 := g.bw
  rw [eq]
  unfold sBase mx2
  rw [Int.emod_sub_emod]
  by_cases c : m.base ≤ v
  · rw [Int.emod_eq_of_lt (by omega) (by omega), show m.base + (v - m.base) = v by omega, if_pos (by omega)]
    split <;> omega
  · have e2 : (v - m.base) % m.ring = v - m.base + m.ring := by
      rw [← Int.add_emod_right]
      exact Int.emod_eq_of_lt (by omega) (by omega)
    rw [e2, if_neg (by omega), if_neg (by omega)]
theorem Good.tell {m : M} {ks vs : List Int} (g : Good m ks vs) (bg : Big m) {n v : Int} (hn : isT n m.an.length m.b = true) (hv : vs[n.toNat]? = some v) : Good { m with base := mx2 m.base v } ks vs := by
  obtain ⟨i1, i2, i3⟩ := isT_iff.mp hn
  have h1 := g.aw _ _ hv
  have hb := g.b0
  have hw := g.bw
  have ht := g.tb
  have e : m.base ≤ mx2 m.base v ∧ mx2 m.base v ≤ m.want := by unfold mx2; split <;> omega
  refine ⟨g.ls, g.an, by show 0 ≤ mx2 m.base v; omega, e.2, g.wt, by show m.top ≤ mx2 m.base v + m.w; omega, g.tl, g.out, g.kp, g.kr, g.lw, g.aw, g.la⟩
/-- a step of a good row, by the true numbers -/
theorem Good.step {m m' : M} {ks vs : List Int} (g : Good m ks vs) (bg : Big m) {z : Str} {n t : Int} (hz : isWord z) (e : m.step z n = some (t, m')) : (∃ ks' vs', Good m' ks' vs') ∧ Big m' := by
  unfold M.step at e
  split at e
  · unfold M.send at e
    split at e
    · rename_i c
      cases e
      exact ⟨⟨_, _, g.send c.1 c.2⟩, bg⟩
    · cases e
  · split at e
    · unfold M.hand at e
      split at e
      · rename_i hn
        cases e
        obtain ⟨i1, i2, i3⟩ := isT_iff.mp hn
        have hl : m.ls.length = ks.length := by rw [g.ls, List.length_map]
        have hk : ks[n.toNat]? = some ks[n.toNat] := List.getElem?_eq_getElem (by omega)
        exact ⟨⟨_, _, (g.hand bg hn hk).1⟩, bg⟩
      · cases e
    · unfold M.tell at e
      split at e
      · rename_i hn
        cases e
        obtain ⟨i1, i2, i3⟩ := isT_iff.mp hn
        have hl : m.an.length = vs.length := by rw [g.an, List.length_map]
        have hk : vs[n.toNat]? = some vs[n.toNat] := List.getElem?_eq_getElem (by omega)
        rw [g.heard bg hn hk]
        exact ⟨⟨_, _, g.tell bg hn hk⟩, bg⟩
      · cases e
/-- nothing is wrong -/
theorem Good.right {m : M} {ks vs : List Int} (g : Good m ks vs) : m.out = m.tx.take m.out.length ∧ (m.out.length : Int) = m.want ∧ m.base ≤ m.out.length := by
  have h1 := g.b0
  have h2 := g.bw
  have h3 := g.wt
  have h4 := g.tl
  have hl : m.out.length = m.want.toNat := by rw [g.out, List.length_take]; omega
  refine ⟨?_, by omega, by omega⟩
  rw [hl]
  exact g.out
end RP

namespace RP
open PySem PySem.Spec PyProof.Rows L2 L2H
/-- a list of steps -/
def okSteps (hs : List (Str × Int)) : Prop := ∀ q ∈ hs, isWord q.1 ∧ 0 ≤ q.2 ∧ q.2 ≤ 999999
def StepsAt (H : Hp) (l : Addr) (hs : List (Str × Int)) : Prop := ∃ sx, H l = some (.lst sx) ∧ All2 (StepAt H) hs sx
theorem StepsAt.same {H H1 : Hp} {l : Addr} {hs : List (Str × Int)} (h : StepsAt H l hs) (s : Same H H1) : StepsAt H1 l hs := by
  obtain ⟨sx, e, a⟩ := h
  exact ⟨sx, s _ _ e, a.mono fun _ _ ⟨a, e, h⟩ => ⟨a, e, s _ _ h⟩⟩
theorem All2.append {α β : Type} {R : α → β → Prop} : ∀ {xs : List α} {ys : List β} {us : List α} {vs : List β}, All2 R xs ys → All2 R us vs → All2 R (xs ++ us) (ys ++ vs)
  | _, _, _, _, .nil, h => h
  | _, _, _, _, .cons h t, h2 => .cons h (t.append h2)
theorem okSteps.app {hs gs : List (Str × Int)} (h : okSteps hs) (g : okSteps gs) : okSteps (hs ++ gs) := fun q hq => by
  rcases List.mem_append.mp hq with z | z
  · exact h q z
  · exact g q z
theorem isWord3 : isWord "send" ∧ isWord "hand" ∧ isWord "tell" := ⟨.inl rfl, .inr (.inl rfl), .inr (.inr rfl)⟩
end RP

namespace RP
open PySem PySem.Spec PyProof.Rows L2 L2H
theorem M.run_append : ∀ (xs ys : List (Str × Int)) (m : M), m.run (xs ++ ys) = (m.run xs).bind fun c => c.run ys
  | [], ys, m => rfl
  | q :: t, ys, m => by
    show (m.step q.1 q.2).bind (fun c => c.2.run (t ++ ys)) = ((m.step q.1 q.2).bind fun c => c.2.run t).bind fun c => c.run ys
    cases m.step q.1 q.2 with
    | none => rfl
    | some c => exact M.run_append t ys c.2
theorem M.run_at {hs : List (Str × Int)} {m m' mi : M} {i : Nat} {q : Str × Int} (h : m.run hs = some m') (hi : m.run (hs.take i) = some mi) (hq : hs[i]? = some q) : ∃ t m2, mi.step q.1 q.2 = some (t, m2) := by
  have e : hs = hs.take i ++ (q :: hs.drop (i + 1)) := by
    obtain ⟨hl, rfl⟩ := List.getElem?_eq_some_iff.mp hq
    rw [List.getElem_cons_drop, List.take_append_drop]
  rw [e, M.run_append, hi] at h
  have h2 : mi.run (q :: hs.drop (i + 1)) = some m' := h
  unfold M.run at h2
  cases es : mi.step q.1 q.2 with
  | none => rw [es] at h2; cases h2
  | some c => exact ⟨c.1, c.2, rfl⟩
end RP

namespace RP
open PySem PySem.Spec PyProof.Rows L2 L2H
/-- the attributes of a Track -/
def flTrack (a0 : Addr) (a1 : Int) (a2 : Int) : List (Str × V) := [(("steps" : Str), V.ref a0), (("posts" : Str), V.int a1), (("replies" : Str), V.int a2)]
abbrev TrackF (K : PySem.W.Frag) : Prop := Cls K (He.ga K "Track") ∧ NoAttr K (He.ga K "Track") "steps" ∧ NoAttr K (He.ga K "Track") "posts" ∧ NoAttr K (He.ga K "Track") "replies"
theorem flTrack_inj (a0 : Addr) (a1 : Int) (a2 : Int) (b0 : Addr) (b1 : Int) (b2 : Int) : (flTrack a0 a1 a2 = flTrack b0 b1 b2) = (a0 = b0 ∧ a1 = b1 ∧ a2 = b2) := by
  simp only [flTrack, List.cons.injEq, Prod.mk.injEq, V.int.injEq, V.ref.injEq, true_and, and_true]
theorem TrackL : (∀ (a0 : Addr) (a1 : Int) (a2 : Int), (flTrack a0 a1 a2).lookup ("steps" : Str) = some (.ref a0)) ∧
    (∀ (a0 : Addr) (a1 : Int) (a2 : Int), (flTrack a0 a1 a2).lookup ("posts" : Str) = some (.int a1)) ∧
    (∀ (a0 : Addr) (a1 : Int) (a2 : Int), (flTrack a0 a1 a2).lookup ("replies" : Str) = some (.int a2)) ∧
    (∀ (a0 : Addr) (a1 : Int) (a2 : Int), (flTrack a0 a1 a2).lookup ("send" : Str) = none) ∧
    (∀ (a0 : Addr) (a1 : Int) (a2 : Int), (flTrack a0 a1 a2).lookup ("hand" : Str) = none) ∧
    (∀ (a0 : Addr) (a1 : Int) (a2 : Int), (flTrack a0 a1 a2).lookup ("through" : Str) = none) ∧
    (∀ (a0 : Addr) (a1 : Int) (a2 : Int), (flTrack a0 a1 a2).lookup ("tell" : Str) = none) ∧
    (∀ (a0 : Addr) (a1 : Int) (a2 : Int), (flTrack a0 a1 a2).length = 3) ∧
    (∀ (a0 : Addr) (a1 : Int) (a2 : Int) (b0 : Addr) (b1 : Int) (b2 : Int), (flTrack a0 a1 a2 = flTrack b0 b1 b2) = (a0 = b0 ∧ a1 = b1 ∧ a2 = b2)) ∧
    (∀ (a0 : Addr) (a1 : Int) (a2 : Int) (y : Addr), putF ("steps" : Str) (.ref y) (flTrack a0 a1 a2) = flTrack y a1 a2) ∧
    (∀ (a0 : Addr) (a1 : Int) (a2 : Int) (y : Int), putF ("posts" : Str) (.int y) (flTrack a0 a1 a2) = flTrack a0 y a2) ∧
    (∀ (a0 : Addr) (a1 : Int) (a2 : Int) (y : Int), putF ("replies" : Str) (.int y) (flTrack a0 a1 a2) = flTrack a0 a1 y) := by
  refine ⟨?_, ?_, ?_, ?_, ?_, ?_, ?_, ?_, ?_, ?_, ?_, ?_⟩ <;> intros <;> first | rfl | exact flTrack_inj .. | kernel_rfl
theorem TrackI : (∀  (v : V), putF ("steps" : Str) v ([] : List (Str × V)) = [(("steps" : Str), v)]) ∧
    (∀ (u0 : V) (v : V), putF ("posts" : Str) v ([(("steps" : Str), u0)] : List (Str × V)) = [(("steps" : Str), u0), (("posts" : Str), v)]) ∧
    (∀ (a0 : Addr) (a1 : Int) (a2 : Int), putF ("replies" : Str) (.int a2) ([(("steps" : Str), V.ref a0), (("posts" : Str), V.int a1)] : List (Str × V)) = flTrack a0 a1 a2) := by
  refine ⟨?_, ?_, ?_⟩ <;> intros <;> first | rfl | kernel_rfl
/-- a track, by its steps -/
structure TS where
  st : List (Str × Int)
  po : Int
  re : Int
def TS.send (t : TS) (k : Int) : TS := ⟨t.st ++ [(("send" : Str), k)], t.po + 1, t.re⟩
def TS.hand (t : TS) (k : Int) : TS := ⟨t.st ++ [(("hand" : Str), k)], t.po, t.re + 1⟩
def TS.tell (t : TS) (k : Int) : TS := ⟨t.st ++ [(("tell" : Str), k)], t.po, t.re⟩
def TS.thr (t : TS) (k : Int) : TS := (t.send k).hand t.po
structure TrAt (K : PySem.W.Frag) (H : Hp) (p sl : Addr) (t : TS) : Prop where
  ins : ∃ dx, H p = some (.ins (He.ga K "Track") dx (flTrack sl t.po t.re))
  st : StepsAt H sl t.st
theorem TrAt.same {K : PySem.W.Frag} {H H1 : Hp} {p sl : Addr} {t : TS} (r : TrAt K H p sl t) (s : Same H H1) : TrAt K H1 p sl t := ⟨r.ins.elim fun dx e => ⟨dx, s _ _ e⟩, r.st.same s⟩
theorem TrAt.ne {K : PySem.W.Frag} {H : Hp} {p sl : Addr} {t : TS} (r : TrAt K H p sl t) : p ≠ sl := by
  obtain ⟨dx, e⟩ := r.ins
  obtain ⟨sx, e2, _⟩ := r.st
  exact ne_of_obj e e2 (by simp)
/-- a step is put at the end -/
theorem steps_push {H : Hp} {sl q : Addr} {st : List (Str × Int)} {z : Str} {n : Int} (h : StepsAt H sl st) (nq : H q = none) : ∃ sx, (upd H q (.tup [.str z, .int n])) sl = some (.lst sx) ∧ sx.length = st.length ∧ StepsAt (upd (upd H q (.tup [.str z, .int n])) sl (.lst (sx ++ [.ref q]))) sl (st ++ [(z, n)]) := by
  obtain ⟨sx, e, al⟩ := h
  have s1 : Same H (upd H q (.tup [.str z, .int n])) := same_new nq
  have eq : (upd H q (.tup [.str z, .int n])) q = some (.tup [.str z, .int n]) := upd_same
  have nsq : sl ≠ q := ne_of_none e nq
  refine ⟨sx, s1 _ _ e, al.length.symm, _, upd_same, ?_⟩
  have f : Fr [sl] (upd H q (.tup [.str z, .int n])) (upd (upd H q (.tup [.str z, .int n])) sl (.lst (sx ++ [.ref q]))) := (Fr.refl _ _).upd (by simp)
  have nt : ∀ x ∈ [sl], ∀ xs, (upd H q (.tup [.str z, .int n])) x ≠ some (.tup xs) := fun x hx xs => by
    rw [List.mem_singleton.mp hx, s1 _ _ e]
    simp
  exact ((al.mono fun _ _ ⟨a, e, h⟩ => ⟨a, e, s1 _ _ h⟩).mono fun _ _ => StepAt.fr f nt).snoc ⟨q, rfl, f _ _ (by simpa using Ne.symm nsq) eq⟩
abbrev s_Track_init : Stmt := inClass (top 15) 0
abbrev N_Track_init : List Str := ["self"]
theorem sc_Track_init : FnScope N_Track_init ["self"] (defScope s_Track_init) := ⟨rfl, rfl, rfl, by decide +kernel, rfl, by decide +kernel, by decide +kernel⟩
def sp_Track_init (K : PySem.W.Frag) : Sp := fun vs H Q _ => ∃ p dx, vs = [.ref p] ∧ H p = some (.ins (He.ga K "Track") dx []) ∧ ∀ sl H', H sl = none → Fr [p] H H' → TrAt K H' p sl ⟨[], 0, 0⟩ → Q .non H'
theorem ok_Track_init {P : Program} {w : World} {K : PySem.W.Frag} {mg : Str → Option Value} {base : Heap} (F : FnP K ("Track", some "__init__") "__init__" "Track.__init__" s_Track_init) (hm : mg "Track" = some (.ref (He.ga K "Track"))) (hmk : Mk K (He.ga K "Track") (He.ma K (He.ga K "Track") "__init__")) (bl : Blt mg) (hTrack : TrackF K) : KCal P w K mg base 1 "Track" (He.ga K "Track") (sp_Track_init K) := by
  refine fn_kcal F hm hmk sc_Track_init (fun vs H Q E => by walk_at "len") (fun _ _ _ _ _ _ us hl => match us, hl with | [_], _ => rfl) (fun f cdv A outer s H vs Q E hr h => ?_)
  have hu := hu_of hr
  obtain ⟨p, dx, rfl, hp, q⟩ := h
  refine ⟨_, (pss_cons (ps_fld (pv 0) (pe_lst pa_nil) rfl)
  (pss_cons (ps_fld (pv 0) pe_int rfl)
  (pss_one (ps_fld (pv 0) pe_int rfl)))), ?_⟩
  walk_at "st0"
  refine seq_gen fun N_a h_a => ?_
  simp only [RDa, RDb, RDv, RDk, RDx, RDe, RDd, RDp, RDq, List.getElem?_cons_zero, List.getElem?_cons_succ, List.set_cons_zero, List.set_cons_succ, List.cons.injEq, List.cons_ne_nil, reduceCtorEq, exists_eq_left', exists_eq_left, exists_and_left, and_assoc, exists_const, true_and, and_true, if_true, if_false, false_and, and_false, exists_false, false_or, or_false, true_implies, false_implies, implies_true, forall_eq, forall_eq', Bool.false_eq_true, if_neg, decide_eq_true_eq, Bool.not_eq_true', decide_eq_false_iff_not, Bool.not_true, Bool.not_false, List.length_cons, List.length_nil, sizeLine_eq, Nat.reduceAdd, Nat.reduceLeDiff, Nat.reduceLT, Int.reduceLT, Int.reduceLE, Int.emod_nonneg, ne_eq, Int.reduceEq, not_false_eq_true, not_true_eq_false, hTrack, TrackI, hp, upd_same, upd_upd]
  intro sl nsl
  have e1 : p ≠ sl := ne_of_none hp nsl
  refine ⟨_, dx, _, (upd_ne e1).trans hp, hTrack.1, hTrack.2.1, by simp, ?_⟩
  simp only [RDa, RDb, RDv, RDk, RDx, RDe, RDd, RDp, RDq, List.getElem?_cons_zero, List.getElem?_cons_succ, List.set_cons_zero, List.set_cons_succ, List.cons.injEq, List.cons_ne_nil, reduceCtorEq, exists_eq_left', exists_eq_left, exists_and_left, and_assoc, exists_const, true_and, and_true, if_true, if_false, false_and, and_false, exists_false, false_or, or_false, true_implies, false_implies, implies_true, forall_eq, forall_eq', Bool.false_eq_true, if_neg, decide_eq_true_eq, Bool.not_eq_true', decide_eq_false_iff_not, Bool.not_true, Bool.not_false, List.length_cons, List.length_nil, sizeLine_eq, Nat.reduceAdd, Nat.reduceLeDiff, Nat.reduceLT, Int.reduceLT, Int.reduceLE, Int.emod_nonneg, ne_eq, Int.reduceEq, not_false_eq_true, not_true_eq_false, TrackI]
  refine h_a _ _ ?_
  clear h_a
  simp only [RDa, RDb, RDv, RDk, RDx, RDe, RDd, RDp, RDq, List.getElem?_cons_zero, List.getElem?_cons_succ, List.set_cons_zero, List.set_cons_succ, List.cons.injEq, List.cons_ne_nil, reduceCtorEq, exists_eq_left', exists_eq_left, exists_and_left, and_assoc, exists_const, true_and, and_true, if_true, if_false, false_and, and_false, exists_false, false_or, or_false, true_implies, false_implies, implies_true, forall_eq, forall_eq', Bool.false_eq_true, if_neg, decide_eq_true_eq, Bool.not_eq_true', decide_eq_false_iff_not, Bool.not_true, Bool.not_false, List.length_cons, List.length_nil, sizeLine_eq, Nat.reduceAdd, Nat.reduceLeDiff, Nat.reduceLT, Int.reduceLT, Int.reduceLE, Int.emod_nonneg, ne_eq, Int.reduceEq, not_false_eq_true, not_true_eq_false, hTrack, TrackI, upd_same, upd_upd]
  exact q sl _ nsl (((Fr.refl _ _).new nsl).upd (by simp)) ⟨⟨dx, upd_same⟩, [], (upd_ne (Ne.symm e1)).trans upd_same, .nil⟩
theorem steps_ins {H : Hp} {p sl : Addr} {o o' : HO} {st : List (Str × Int)} (h : StepsAt H sl st) (hp : H p = some o) (ho : ∀ xs, o ≠ .tup xs) (n : p ≠ sl) : StepsAt (upd H p o') sl st := by
  obtain ⟨sx, e, al⟩ := h
  refine ⟨sx, (upd_ne (Ne.symm n)).trans e, al.mono fun _ _ ⟨a, e, h⟩ => ⟨a, e, (upd_ne fun ea => ?_).trans h⟩⟩
  rw [ea, hp] at h
  exact ho _ (Option.some.inj h)
theorem mk_Track {K : PySem.W.Frag} {H : Hp} {Q : VK} {E : XK} (q : ∀ p sl H', H p = none → H sl = none → Same H H' → TrAt K H' p sl ⟨[], 0, 0⟩ → Q (.ref p) H') (x dx : Addr) (h1 : H x = none) (h2 : H dx = none) (h3 : ¬ dx = x) :
    sp_Track_init K [.ref x] (upd (upd H dx (.own x)) x (.ins (He.ga K "Track") dx [])) (fun v H2 => v = .non ∧ Q (.ref x) H2) E := by
  refine ⟨x, dx, rfl, upd_same, fun sl H' n1 f t => ⟨rfl, ?_⟩⟩
  have fresh : ∀ c, upd (upd H dx (.own x)) x (.ins (He.ga K "Track") dx []) c = none → H c = none := fun c n => by
    have e1 : c ≠ x := fun e => by rw [e, upd_same] at n; cases n
    rw [upd_ne e1] at n
    have e2 : c ≠ dx := fun e => by rw [e, upd_same] at n; cases n
    rw [upd_ne e2] at n
    exact n
  refine q x sl H' h1 (fresh _ n1) (fun c o e => ?_) t
  have e1 : c ≠ x := ne_of_none e h1
  have e2 : c ≠ dx := ne_of_none e h2
  exact f c o (by simpa using e1) (by rw [upd_ne e1, upd_ne e2]; exact e)
abbrev s_Track_send : Stmt := inClass (top 15) 1
abbrev N_Track_send : List Str := ["self", "k"]
theorem sc_Track_send : FnScope N_Track_send ["self", "k"] (defScope s_Track_send) := ⟨rfl, rfl, rfl, by decide +kernel, rfl, by decide +kernel, by decide +kernel⟩
def sp_Track_send (K : PySem.W.Frag) : Sp := fun vs H Q _ => ∃ (p sl : Addr) (t : TS) (k : Int), vs = [.ref p, .int k] ∧ TrAt K H p sl t ∧ t.st.length < 100000 ∧ ∀ H', Fr [p, sl] H H' → TrAt K H' p sl (t.send k) → Q (.int t.po) H'
theorem ok_Track_send {P : Program} {w : World} {K : PySem.W.Frag} {mg : Str → Option Value} {base : Heap} (F : FnP K ("Track", some "send") "send" "Track.send" s_Track_send) (hc : Cls K (He.ga K "Track")) (hm : Meth K (He.ga K "Track") "send" (He.ma K (He.ga K "Track") "send")) (bl : Blt mg) (hTrack : TrackF K) : MCal P w K mg base 1 (He.ga K "Track") "send" (sp_Track_send K) := by
  refine fn_mcal F hc hm sc_Track_send (fun vs H Q E => by walk_at "len") (fun _ _ _ _ _ _ us hl => match us, hl with | [_, _], _ => rfl) (fun f cdv A outer s H vs Q E hr h => ?_)
  have hu := hu_of hr
  obtain ⟨p, sl, t, k, rfl, tr, hl, q⟩ := h
  obtain ⟨dx, hp⟩ := tr.ins
  have npl := tr.ne
  obtain ⟨sx, hx, al⟩ := tr.st
  refine ⟨_, (pss_cons (ps_expr (pe_app (pe_fld (pv 0) rfl) (pe_tup (pa_cons pe_str (pa_cons (pv 1) pa_nil)))))
  (pss_cons (ps_fld (pv 0) (pe_op op_add (pe_fld (pv 0) rfl) pe_int) rfl)
  (pss_one (ps_ret (pe_op op_sub (pe_fld (pv 0) rfl) pe_int))))), ?_⟩
  walk_at "st0"
  simp only [RDa, RDb, RDv, RDk, RDx, RDe, RDd, RDp, RDq, List.getElem?_cons_zero, List.getElem?_cons_succ, List.set_cons_zero, List.set_cons_succ, List.cons.injEq, List.cons_ne_nil, reduceCtorEq, exists_eq_left', exists_eq_left, exists_and_left, and_assoc, exists_const, true_and, and_true, if_true, if_false, false_and, and_false, exists_false, false_or, or_false, true_implies, false_implies, implies_true, forall_eq, forall_eq', Bool.false_eq_true, if_neg, decide_eq_true_eq, Bool.not_eq_true', decide_eq_false_iff_not, Bool.not_true, Bool.not_false, List.length_cons, List.length_nil, sizeLine_eq, Nat.reduceAdd, Nat.reduceLeDiff, Nat.reduceLT, Int.reduceLT, Int.reduceLE, Int.emod_nonneg, ne_eq, Int.reduceEq, not_false_eq_true, not_true_eq_false, hTrack, TrackL, hp]
  refine ⟨_, hx, fun c nc => ?_⟩
  obtain ⟨sx2, e2, l2, st2⟩ := steps_push (z := "send") (n := k) tr.st nc
  refine ⟨_, e2, by omega, ?_⟩
  have hp2 : (upd (upd H c (.tup [.str "send", .int k])) sl (.lst (sx2 ++ [.ref c]))) p = _ := (upd_ne npl).trans ((upd_ne (ne_of_none hp nc)).trans hp)
  have f2 : Fr [p, sl] H (upd (upd H c (.tup [.str "send", .int k])) sl (.lst (sx2 ++ [.ref c]))) := ((Fr.refl _ _).new nc).upd (by simp)
  generalize upd (upd H c (.tup [.str "send", .int k])) sl (.lst (sx2 ++ [.ref c])) = H2 at st2 hp2 f2
  simp only [RDa, RDb, RDv, RDk, RDx, RDe, RDd, RDp, RDq, List.getElem?_cons_zero, List.getElem?_cons_succ, List.set_cons_zero, List.set_cons_succ, List.cons.injEq, List.cons_ne_nil, reduceCtorEq, exists_eq_left', exists_eq_left, exists_and_left, and_assoc, exists_const, true_and, and_true, if_true, if_false, false_and, and_false, exists_false, false_or, or_false, true_implies, false_implies, implies_true, forall_eq, forall_eq', Bool.false_eq_true, if_neg, decide_eq_true_eq, Bool.not_eq_true', decide_eq_false_iff_not, Bool.not_true, Bool.not_false, List.length_cons, List.length_nil, sizeLine_eq, Nat.reduceAdd, Nat.reduceLeDiff, Nat.reduceLT, Int.reduceLT, Int.reduceLE, Int.emod_nonneg, ne_eq, Int.reduceEq, not_false_eq_true, not_true_eq_false, hTrack, TrackL, hp2, upd_same]
  rw [show t.po + 1 - 1 = t.po by omega]
  exact q _ (f2.upd (by simp)) ⟨⟨dx, upd_same⟩, steps_ins st2 hp2 (fun _ => by simp) npl⟩
abbrev s_Track_hand : Stmt := inClass (top 15) 2
abbrev N_Track_hand : List Str := ["self", "number"]
theorem sc_Track_hand : FnScope N_Track_hand ["self", "number"] (defScope s_Track_hand) := ⟨rfl, rfl, rfl, by decide +kernel, rfl, by decide +kernel, by decide +kernel⟩
def sp_Track_hand (K : PySem.W.Frag) : Sp := fun vs H Q _ => ∃ (p sl : Addr) (t : TS) (k : Int), vs = [.ref p, .int k] ∧ TrAt K H p sl t ∧ t.st.length < 100000 ∧ ∀ H', Fr [p, sl] H H' → TrAt K H' p sl (t.hand k) → Q (.int t.re) H'
theorem ok_Track_hand {P : Program} {w : World} {K : PySem.W.Frag} {mg : Str → Option Value} {base : Heap} (F : FnP K ("Track", some "hand") "hand" "Track.hand" s_Track_hand) (hc : Cls K (He.ga K "Track")) (hm : Meth K (He.ga K "Track") "hand" (He.ma K (He.ga K "Track") "hand")) (bl : Blt mg) (hTrack : TrackF K) : MCal P w K mg base 1 (He.ga K "Track") "hand" (sp_Track_hand K) := by
  refine fn_mcal F hc hm sc_Track_hand (fun vs H Q E => by walk_at "len") (fun _ _ _ _ _ _ us hl => match us, hl with | [_, _], _ => rfl) (fun f cdv A outer s H vs Q E hr h => ?_)
  have hu := hu_of hr
  obtain ⟨p, sl, t, k, rfl, tr, hl, q⟩ := h
  obtain ⟨dx, hp⟩ := tr.ins
  have npl := tr.ne
  obtain ⟨sx, hx, al⟩ := tr.st
  refine ⟨_, (pss_cons (ps_expr (pe_app (pe_fld (pv 0) rfl) (pe_tup (pa_cons pe_str (pa_cons (pv 1) pa_nil)))))
  (pss_cons (ps_fld (pv 0) (pe_op op_add (pe_fld (pv 0) rfl) pe_int) rfl)
  (pss_one (ps_ret (pe_op op_sub (pe_fld (pv 0) rfl) pe_int))))), ?_⟩
  walk_at "st0"
  simp only [RDa, RDb, RDv, RDk, RDx, RDe, RDd, RDp, RDq, List.getElem?_cons_zero, List.getElem?_cons_succ, List.set_cons_zero, List.set_cons_succ, List.cons.injEq, List.cons_ne_nil, reduceCtorEq, exists_eq_left', exists_eq_left, exists_and_left, and_assoc, exists_const, true_and, and_true, if_true, if_false, false_and, and_false, exists_false, false_or, or_false, true_implies, false_implies, implies_true, forall_eq, forall_eq', Bool.false_eq_true, if_neg, decide_eq_true_eq, Bool.not_eq_true', decide_eq_false_iff_not, Bool.not_true, Bool.not_false, List.length_cons, List.length_nil, sizeLine_eq, Nat.reduceAdd, Nat.reduceLeDiff, Nat.reduceLT, Int.reduceLT, Int.reduceLE, Int.emod_nonneg, ne_eq, Int.reduceEq, not_false_eq_true, not_true_eq_false, hTrack, TrackL, hp]
  refine ⟨_, hx, fun c nc => ?_⟩
  obtain ⟨sx2, e2, l2, st2⟩ := steps_push (z := "hand") (n := k) tr.st nc
  refine ⟨_, e2, by omega, ?_⟩
  have hp2 : (upd (upd H c (.tup [.str "hand", .int k])) sl (.lst (sx2 ++ [.ref c]))) p = _ := (upd_ne npl).trans ((upd_ne (ne_of_none hp nc)).trans hp)
  have f2 : Fr [p, sl] H (upd (upd H c (.tup [.str "hand", .int k])) sl (.lst (sx2 ++ [.ref c]))) := ((Fr.refl _ _).new nc).upd (by simp)
  generalize upd (upd H c (.tup [.str "hand", .int k])) sl (.lst (sx2 ++ [.ref c])) = H2 at st2 hp2 f2
  simp only [RDa, RDb, RDv, RDk, RDx, RDe, RDd, RDp, RDq, List.getElem?_cons_zero, List.getElem?_cons_succ, List.set_cons_zero, List.set_cons_succ, List.cons.injEq, List.cons_ne_nil, reduceCtorEq, exists_eq_left', exists_eq_left, exists_and_left, and_assoc, exists_const, true_and, and_true, if_true, if_false, false_and, and_false, exists_false, false_or, or_false, true_implies, false_implies, implies_true, forall_eq, forall_eq', Bool.false_eq_true, if_neg, decide_eq_true_eq, Bool.not_eq_true', decide_eq_false_iff_not, Bool.not_true, Bool.not_false, List.length_cons, List.length_nil, sizeLine_eq, Nat.reduceAdd, Nat.reduceLeDiff, Nat.reduceLT, Int.reduceLT, Int.reduceLE, Int.emod_nonneg, ne_eq, Int.reduceEq, not_false_eq_true, not_true_eq_false, hTrack, TrackL, hp2, upd_same]
  rw [show t.re + 1 - 1 = t.re by omega]
  exact q _ (f2.upd (by simp)) ⟨⟨dx, upd_same⟩, steps_ins st2 hp2 (fun _ => by simp) npl⟩
abbrev s_Track_tell : Stmt := inClass (top 15) 4
abbrev N_Track_tell : List Str := ["self", "number"]
theorem sc_Track_tell : FnScope N_Track_tell ["self", "number"] (defScope s_Track_tell) := ⟨rfl, rfl, rfl, by decide +kernel, rfl, by decide +kernel, by decide +kernel⟩
def sp_Track_tell (K : PySem.W.Frag) : Sp := fun vs H Q _ => ∃ (p sl : Addr) (t : TS) (k : Int), vs = [.ref p, .int k] ∧ TrAt K H p sl t ∧ t.st.length < 100000 ∧ ∀ H', Fr [p, sl] H H' → TrAt K H' p sl (t.tell k) → Q .non H'
theorem ok_Track_tell {P : Program} {w : World} {K : PySem.W.Frag} {mg : Str → Option Value} {base : Heap} (F : FnP K ("Track", some "tell") "tell" "Track.tell" s_Track_tell) (hc : Cls K (He.ga K "Track")) (hm : Meth K (He.ga K "Track") "tell" (He.ma K (He.ga K "Track") "tell")) (bl : Blt mg) (hTrack : TrackF K) : MCal P w K mg base 1 (He.ga K "Track") "tell" (sp_Track_tell K) := by
  refine fn_mcal F hc hm sc_Track_tell (fun vs H Q E => by walk_at "len") (fun _ _ _ _ _ _ us hl => match us, hl with | [_, _], _ => rfl) (fun f cdv A outer s H vs Q E hr h => ?_)
  have hu := hu_of hr
  obtain ⟨p, sl, t, k, rfl, tr, hl, q⟩ := h
  obtain ⟨dx, hp⟩ := tr.ins
  have npl := tr.ne
  obtain ⟨sx, hx, al⟩ := tr.st
  refine ⟨_, (pss_one (ps_expr (pe_app (pe_fld (pv 0) rfl) (pe_tup (pa_cons pe_str (pa_cons (pv 1) pa_nil)))))), ?_⟩
  walk_at "st0"
  simp only [RDa, RDb, RDv, RDk, RDx, RDe, RDd, RDp, RDq, List.getElem?_cons_zero, List.getElem?_cons_succ, List.set_cons_zero, List.set_cons_succ, List.cons.injEq, List.cons_ne_nil, reduceCtorEq, exists_eq_left', exists_eq_left, exists_and_left, and_assoc, exists_const, true_and, and_true, if_true, if_false, false_and, and_false, exists_false, false_or, or_false, true_implies, false_implies, implies_true, forall_eq, forall_eq', Bool.false_eq_true, if_neg, decide_eq_true_eq, Bool.not_eq_true', decide_eq_false_iff_not, Bool.not_true, Bool.not_false, List.length_cons, List.length_nil, sizeLine_eq, Nat.reduceAdd, Nat.reduceLeDiff, Nat.reduceLT, Int.reduceLT, Int.reduceLE, Int.emod_nonneg, ne_eq, Int.reduceEq, not_false_eq_true, not_true_eq_false, hTrack, TrackL, hp]
  refine ⟨_, hx, fun c nc => ?_⟩
  obtain ⟨sx2, e2, l2, st2⟩ := steps_push (z := "tell") (n := k) tr.st nc
  refine ⟨_, e2, by omega, ?_⟩
  have hp2 : (upd (upd H c (.tup [.str "tell", .int k])) sl (.lst (sx2 ++ [.ref c]))) p = _ := (upd_ne npl).trans ((upd_ne (ne_of_none hp nc)).trans hp)
  have f2 : Fr [p, sl] H (upd (upd H c (.tup [.str "tell", .int k])) sl (.lst (sx2 ++ [.ref c]))) := ((Fr.refl _ _).new nc).upd (by simp)
  generalize upd (upd H c (.tup [.str "tell", .int k])) sl (.lst (sx2 ++ [.ref c])) = H2 at st2 hp2 f2
  exact q _ f2 ⟨⟨dx, hp2⟩, st2⟩
abbrev s_Track_through : Stmt := inClass (top 15) 3
abbrev N_Track_through : List Str := ["self", "k"]
theorem sc_Track_through : FnScope N_Track_through ["self", "k"] (defScope s_Track_through) := ⟨rfl, rfl, rfl, by decide +kernel, rfl, by decide +kernel, by decide +kernel⟩
def sp_Track_through (K : PySem.W.Frag) : Sp := fun vs H Q _ => ∃ (p sl : Addr) (t : TS) (k : Int), vs = [.ref p, .int k] ∧ TrAt K H p sl t ∧ t.st.length < 90000 ∧ ∀ H', Fr [p, sl] H H' → TrAt K H' p sl (t.thr k) → Q (.int t.re) H'
theorem ok_Track_through {P : Program} {w : World} {K : PySem.W.Frag} {mg : Str → Option Value} {base : Heap} (F : FnP K ("Track", some "through") "through" "Track.through" s_Track_through) (hc : Cls K (He.ga K "Track")) (hm : Meth K (He.ga K "Track") "through" (He.ma K (He.ga K "Track") "through")) (bl : Blt mg) (hTrack : TrackF K) (m_Track_hand : MCal P w K mg base 1 (He.ga K "Track") "hand" (sp_Track_hand K)) (m_Track_send : MCal P w K mg base 1 (He.ga K "Track") "send" (sp_Track_send K)) : MCal P w K mg base 2 (He.ga K "Track") "through" (sp_Track_through K) := by
  refine fn_mcal F hc hm sc_Track_through (fun vs H Q E => by walk_at "len") (fun _ _ _ _ _ _ us hl => match us, hl with | [_, _], _ => rfl) (fun f cdv A outer s H vs Q E hr h => ?_)
  have hu := hu_of hr
  obtain ⟨p, sl, t, k, rfl, tr, hl, q⟩ := h
  obtain ⟨dx, hp⟩ := tr.ins
  refine ⟨_, (pss_one (ps_ret (pe_mth (pv 0) m_Track_hand (hr.mono (by decide)) (L2N.takes_of rfl rfl rfl rfl) (pa_cons (pe_mth (pv 0) m_Track_send (hr.mono (by decide)) (L2N.takes_of rfl rfl rfl rfl) (pa_cons (pv 1) pa_nil)) pa_nil)))), ?_⟩
  walk_at "st0"
  simp only [RDa, RDb, RDv, RDk, RDx, RDe, RDd, RDp, RDq, List.getElem?_cons_zero, List.getElem?_cons_succ, List.set_cons_zero, List.set_cons_succ, List.cons.injEq, List.cons_ne_nil, reduceCtorEq, exists_eq_left', exists_eq_left, exists_and_left, and_assoc, exists_const, true_and, and_true, if_true, if_false, false_and, and_false, exists_false, false_or, or_false, true_implies, false_implies, implies_true, forall_eq, forall_eq', Bool.false_eq_true, if_neg, decide_eq_true_eq, Bool.not_eq_true', decide_eq_false_iff_not, Bool.not_true, Bool.not_false, List.length_cons, List.length_nil, sizeLine_eq, Nat.reduceAdd, Nat.reduceLeDiff, Nat.reduceLT, Int.reduceLT, Int.reduceLE, Int.emod_nonneg, ne_eq, Int.reduceEq, not_false_eq_true, not_true_eq_false, hTrack, TrackL, hp]
  refine ⟨p, sl, t, k, rfl, tr, by omega, fun H1 f1 tr1 => ?_⟩
  refine ⟨p, sl, t.send k, t.po, rfl, tr1, ?_, fun H2 f2 tr2 => q _ (f1.trans f2) tr2⟩
  show (t.st ++ [_]).length < 100000
  rw [List.length_append]
  show t.st.length + 1 < _
  omega
end RP

namespace RP
open PySem PySem.Spec PyProof.Rows L2 L2H
/-- so many texts through, and told -/
def thrs (t : TS) (k : Int) : Nat → TS
  | 0 => t
  | n + 1 => (thrs t k n).thr (k + n)
def thrTells (t : TS) (k : Int) : Nat → TS
  | 0 => t
  | n + 1 => ((thrTells t k n).thr (k + n)).tell (thrTells t k n).re
def sends (t : TS) (k : Int) : Nat → TS
  | 0 => t
  | n + 1 => (sends t k n).send (k + n)
def t0S : TS := ⟨[], 0, 0⟩
theorem thr_len (t : TS) (k : Int) : (t.thr k).st.length = t.st.length + 2 := by
  show ((t.st ++ [_]) ++ [_]).length = _
  rw [List.length_append, List.length_append]
  rfl
theorem tell_len (t : TS) (k : Int) : (t.tell k).st.length = t.st.length + 1 := by
  show (t.st ++ [_]).length = _
  rw [List.length_append]
  rfl
theorem send_len (t : TS) (k : Int) : (t.send k).st.length = t.st.length + 1 := by
  show (t.st ++ [_]).length = _
  rw [List.length_append]
  rfl
theorem thrs_len (t : TS) (k : Int) : ∀ n, (thrs t k n).st.length = t.st.length + 2 * n
  | 0 => rfl
  | n + 1 => by
    show ((thrs t k n).thr _).st.length = _
    rw [thr_len, thrs_len t k n]
    omega
theorem thrTells_len (t : TS) (k : Int) : ∀ n, (thrTells t k n).st.length = t.st.length + 3 * n
  | 0 => rfl
  | n + 1 => by
    show (((thrTells t k n).thr _).tell _).st.length = _
    rw [tell_len, thr_len, thrTells_len t k n]
    omega
theorem sends_len (t : TS) (k : Int) : ∀ n, (sends t k n).st.length = t.st.length + n
  | 0 => rfl
  | n + 1 => by
    show ((sends t k n).send _).st.length = _
    rw [send_len, sends_len t k n]
    omega
def bal (w d N : Int) : TS :=
  thrs ((if w < N then thrTells (((thrs t0S 0 (mn2 w (mn2 N (w + d))).toNat).send 0).tell ((thrs t0S 0 (mn2 w (mn2 N (w + d))).toNat).re - 1)) (mn2 w (mn2 N (w + d))) (mn2 N (w + d) - mn2 w (mn2 N (w + d))).toNat
    else (thrs t0S 0 (mn2 w (mn2 N (w + d))).toNat).send 0).hand (thrs t0S 0 (mn2 w (mn2 N (w + d))).toNat).po) (mn2 N (w + d)) (N - mn2 N (w + d)).toNat
abbrev s_by_a_letter : Stmt := top 16
abbrev N_by_a_letter : List Str := ["window", "delay", "ring", "track", "gap", "first", "k", "old"]
theorem sc_by_a_letter : FnScope N_by_a_letter ["window", "delay", "ring"] (defScope s_by_a_letter) := ⟨rfl, rfl, rfl, by decide +kernel, rfl, by decide +kernel, by decide +kernel⟩
def sp_by_a_letter (K : PySem.W.Frag) : Sp := fun vs H Q E => ∃ w d N : Int, vs = [.int w, .int d, .int N] ∧ 1 ≤ w ∧ w ≤ 20 ∧ 0 ≤ d ∧ d ≤ 20 ∧ 1 ≤ N ∧ N ≤ 200 ∧ ∀ l H', H l = none → Same H H' → StepsAt H' l (bal w d N).st → Q (.ref l) H'
theorem ok_by_a_letter {P : Program} {w : World} {K : PySem.W.Frag} {mg : Str → Option Value} {base : Heap} (F : FnP K ("by_a_letter", none) "by_a_letter" "by_a_letter" s_by_a_letter) (hm : mg "by_a_letter" = some (.ref (He.ga K "by_a_letter"))) (bl : Blt mg) (hTrack : TrackF K) (m_Track_hand : MCal P w K mg base 1 (He.ga K "Track") "hand" (sp_Track_hand K)) (c_Track : KCal P w K mg base 1 "Track" (He.ga K "Track") (sp_Track_init K)) (m_Track_send : MCal P w K mg base 1 (He.ga K "Track") "send" (sp_Track_send K)) (m_Track_tell : MCal P w K mg base 1 (He.ga K "Track") "tell" (sp_Track_tell K)) (m_Track_through : MCal P w K mg base 2 (He.ga K "Track") "through" (sp_Track_through K)) : Cal P w K mg base 3 "by_a_letter" (sp_by_a_letter K) := by
  refine fn_cal F hm sc_by_a_letter (fun vs H Q E => by walk_at "len") (fun _ _ _ _ _ _ us hl => match us, hl with | [_, _, _], _ => rfl) (fun f cdv A outer s H vs Q E hr h => ?_)
  have hu := hu_of hr
  obtain ⟨w', d, N, rfl, w1, w2, d1, d2, n1, n2, q⟩ := h
  refine ⟨_, (pss_cons (ps_set (i := 3) sc_by_a_letter.nd rfl (Or.inl rfl) (pe_mk0 c_Track (hr.mono (by decide)) (L2N.takes_of rfl rfl rfl rfl)))
  (pss_cons (ps_set (i := 4) sc_by_a_letter.nd rfl (Or.inl rfl) (pe_callB (call_min2 rfl) (by rfl) (bl.min) (by decide +kernel) (pa_cons (pv 2) (pa_cons (pe_op op_add (pv 0) (pv 1)) pa_nil))))
  (pss_cons (ps_set (i := 5) sc_by_a_letter.nd rfl (Or.inl rfl) (pe_callB (call_min2 rfl) (by rfl) (bl.min) (by decide +kernel) (pa_cons (pv 0) (pa_cons (pv 4) pa_nil))))
  (pss_cons (ps_for (passes_of rfl) rfl (pi_range1 rfl (bl.range) (pa_cons (pv 5) pa_nil)) (pg_name (i := 6) sc_by_a_letter.nd rfl (Or.inl rfl))
  (pss_one (ps_expr (pe_mth (pv 3) m_Track_through (hr.mono (by decide)) (L2N.takes_of rfl rfl rfl rfl) (pa_cons (pv 6) pa_nil)))))
  (pss_cons (ps_set (i := 7) sc_by_a_letter.nd rfl (Or.inl rfl) (pe_mth (pv 3) m_Track_send (hr.mono (by decide)) (L2N.takes_of rfl rfl rfl rfl) (pa_cons pe_int pa_nil)))
  (pss_cons (ps_if (pt_cmpR op_gt (pv 2) (pv 0) (nomark _))
  (pss_cons (ps_expr (pe_mth (pv 3) m_Track_tell (hr.mono (by decide)) (L2N.takes_of rfl rfl rfl rfl) (pa_cons (pe_op op_sub (pe_fld (pv 3) rfl) pe_int) pa_nil)))
  (pss_one (ps_for (passes_of rfl) rfl (pi_range2 rfl (bl.range) (pa_cons (pv 5) (pa_cons (pv 4) pa_nil))) (pg_name (i := 6) sc_by_a_letter.nd rfl (Or.inl rfl))
  (pss_one (ps_expr (pe_mth (pv 3) m_Track_tell (hr.mono (by decide)) (L2N.takes_of rfl rfl rfl rfl) (pa_cons (pe_mth (pv 3) m_Track_through (hr.mono (by decide)) (L2N.takes_of rfl rfl rfl rfl) (pa_cons (pv 6) pa_nil)) pa_nil)))))))
  pss_nil)
  (pss_cons (ps_expr (pe_mth (pv 3) m_Track_hand (hr.mono (by decide)) (L2N.takes_of rfl rfl rfl rfl) (pa_cons (pv 7) pa_nil)))
  (pss_cons (ps_for (passes_of rfl) rfl (pi_range2 rfl (bl.range) (pa_cons (pv 4) (pa_cons (pv 2) pa_nil))) (pg_name (i := 6) sc_by_a_letter.nd rfl (Or.inl rfl))
  (pss_one (ps_expr (pe_mth (pv 3) m_Track_through (hr.mono (by decide)) (L2N.takes_of rfl rfl rfl rfl) (pa_cons (pv 6) pa_nil)))))
  (pss_one (ps_ret (pe_fld (pv 3) rfl))))))))))), ?_⟩
  walk_at "st0"
  refine seq_gen fun N_a h_a => ?_
  simp only [RDa, RDb, RDv, RDk, RDx, RDe, RDd, RDp, RDq, List.getElem?_cons_zero, List.getElem?_cons_succ, List.set_cons_zero, List.set_cons_succ, List.cons.injEq, List.cons_ne_nil, reduceCtorEq, exists_eq_left', exists_eq_left, exists_and_left, and_assoc, exists_const, true_and, and_true, if_true, if_false, false_and, and_false, exists_false, false_or, or_false, true_implies, false_implies, implies_true, forall_eq, forall_eq', Bool.false_eq_true, if_neg, decide_eq_true_eq, Bool.not_eq_true', decide_eq_false_iff_not, Bool.not_true, Bool.not_false, List.length_cons, List.length_nil, sizeLine_eq, Nat.reduceAdd, Nat.reduceLeDiff, Nat.reduceLT, Int.reduceLT, Int.reduceLE, Int.emod_nonneg, ne_eq, Int.reduceEq, not_false_eq_true, not_true_eq_false]
  refine mk_Track (Q := fun v H => N_a [some (.int w'), some (.int d), some (.int N), some v, none, none, none, none] H) fun p sl H1 np nsl s1 tr1 => h_a _ _ ?_
  clear h_a
  have em : ∀ i j : Int, (if j < i then j else i) = mn2 i j := fun _ _ => rfl
  refine seq_gen fun N_b h_b => ?_
  simp only [RDa, RDb, RDv, RDk, RDx, RDe, RDd, RDp, RDq, List.getElem?_cons_zero, List.getElem?_cons_succ, List.set_cons_zero, List.set_cons_succ, List.cons.injEq, List.cons_ne_nil, reduceCtorEq, exists_eq_left', exists_eq_left, exists_and_left, and_assoc, exists_const, true_and, and_true, if_true, if_false, false_and, and_false, exists_false, false_or, or_false, true_implies, false_implies, implies_true, forall_eq, forall_eq', Bool.false_eq_true, if_neg, decide_eq_true_eq, Bool.not_eq_true', decide_eq_false_iff_not, Bool.not_true, Bool.not_false, List.length_cons, List.length_nil, sizeLine_eq, Nat.reduceAdd, Nat.reduceLeDiff, Nat.reduceLT, Int.reduceLT, Int.reduceLE, Int.emod_nonneg, ne_eq, Int.reduceEq, not_false_eq_true, not_true_eq_false, em]
  refine h_b _ _ ?_
  clear h_b
  refine seq_gen fun N_c h_c => ?_
  simp only [RDa, RDb, RDv, RDk, RDx, RDe, RDd, RDp, RDq, List.getElem?_cons_zero, List.getElem?_cons_succ, List.set_cons_zero, List.set_cons_succ, List.cons.injEq, List.cons_ne_nil, reduceCtorEq, exists_eq_left', exists_eq_left, exists_and_left, and_assoc, exists_const, true_and, and_true, if_true, if_false, false_and, and_false, exists_false, false_or, or_false, true_implies, false_implies, implies_true, forall_eq, forall_eq', Bool.false_eq_true, if_neg, decide_eq_true_eq, Bool.not_eq_true', decide_eq_false_iff_not, Bool.not_true, Bool.not_false, List.length_cons, List.length_nil, sizeLine_eq, Nat.reduceAdd, Nat.reduceLeDiff, Nat.reduceLT, Int.reduceLT, Int.reduceLE, Int.emod_nonneg, ne_eq, Int.reduceEq, not_false_eq_true, not_true_eq_false, em]
  refine h_c _ _ ?_
  clear h_c
  obtain ⟨gap, eg⟩ : ∃ g, g = mn2 N (w' + d) := ⟨_, rfl⟩
  obtain ⟨first, ef⟩ : ∃ g, g = mn2 w' gap := ⟨_, rfl⟩
  have hgap := mn2_le.mp (Int.le_refl (mn2 N (w' + d)))
  have hgap0 : 1 ≤ mn2 N (w' + d) := mn2_le.mpr ⟨by omega, by omega⟩
  have hfst := mn2_le.mp (Int.le_refl (mn2 w' (mn2 N (w' + d))))
  have hfst0 : 1 ≤ mn2 w' (mn2 N (w' + d)) := mn2_le.mpr ⟨by omega, by omega⟩
  have q : ∀ l H', H l = none → Same H H' → StepsAt H' l (thrs ((if w' < N then thrTells (((thrs t0S 0 first.toNat).send 0).tell ((thrs t0S 0 first.toNat).re - 1)) first (gap - first).toNat else (thrs t0S 0 first.toNat).send 0).hand (thrs t0S 0 first.toNat).po) gap (N - gap).toNat).st → Q (.ref l) H' := by
    rw [ef, eg]
    exact q
  rw [← eg] at *
  rw [← ef] at *
  refine seq_rel (fun σ1 H' => (∃ u6, σ1 = [some (.int w'), some (.int d), some (.int N), some (.ref p), some (.int gap), some (.int first), u6, none]) ∧ Fr [p, sl] H1 H' ∧ TrAt K H' p sl (thrs t0S (0) (first).toNat)) (fun N_e h_e => ?_) ?_
  · refine for_rcut (0) (first).toNat (fun H' => H1 = H') (fun Z hZ => ?_) (fun i σ1 H' => (∃ u6, σ1 = [some (.int w'), some (.int d), some (.int N), some (.ref p), some (.int gap), some (.int first), u6, none]) ∧ Fr [p, sl] H1 H' ∧ TrAt K H' p sl (thrs t0S (0) i)) ?_ ?_ ?_
    · simp only [RDa, RDb, RDv, RDk, RDx, RDe, RDd, RDp, RDq, List.getElem?_cons_zero, List.getElem?_cons_succ, List.set_cons_zero, List.set_cons_succ, List.cons.injEq, List.cons_ne_nil, reduceCtorEq, exists_eq_left', exists_eq_left, exists_and_left, and_assoc, exists_const, true_and, and_true, if_true, if_false, false_and, and_false, exists_false, false_or, or_false, true_implies, false_implies, implies_true, forall_eq, forall_eq', Bool.false_eq_true, if_neg, decide_eq_true_eq, Bool.not_eq_true', decide_eq_false_iff_not, Bool.not_true, Bool.not_false, List.length_cons, List.length_nil, sizeLine_eq, Nat.reduceAdd, Nat.reduceLeDiff, Nat.reduceLT, Int.reduceLT, Int.reduceLE, Int.emod_nonneg, ne_eq, Int.reduceEq, not_false_eq_true, not_true_eq_false]
      exact ⟨by omega, by omega, hZ _ rfl⟩
    · rintro H' rfl
      exact ⟨⟨_, rfl⟩, .refl _ _, tr1⟩
    · rintro i σ1 H' hi ⟨⟨u6, rfl⟩, f', tr'⟩
      obtain ⟨dx', hp'⟩ := tr'.ins
      have hl' := thrs_len t0S (0) i
      simp only [RDa, RDb, RDv, RDk, RDx, RDe, RDd, RDp, RDq, List.getElem?_cons_zero, List.getElem?_cons_succ, List.set_cons_zero, List.set_cons_succ, List.cons.injEq, List.cons_ne_nil, reduceCtorEq, exists_eq_left', exists_eq_left, exists_and_left, and_assoc, exists_const, true_and, and_true, if_true, if_false, false_and, and_false, exists_false, false_or, or_false, true_implies, false_implies, implies_true, forall_eq, forall_eq', Bool.false_eq_true, if_neg, decide_eq_true_eq, Bool.not_eq_true', decide_eq_false_iff_not, Bool.not_true, Bool.not_false, List.length_cons, List.length_nil, sizeLine_eq, Nat.reduceAdd, Nat.reduceLeDiff, Nat.reduceLT, Int.reduceLT, Int.reduceLE, Int.emod_nonneg, ne_eq, Int.reduceEq, not_false_eq_true, not_true_eq_false, hTrack, TrackL, hp']
      refine ⟨p, sl, _, _, rfl, tr', by show (thrs t0S 0 i).st.length < 90000; rw [hl']; show 0 + 2 * i < _; omega, fun H2 f2 tr2 => ?_⟩
      have fin : Fr [p, sl] H1 H2 ∧ TrAt K H2 p sl (thrs t0S 0 (i + 1)) := ⟨f'.trans f2, tr2⟩
      first
      | exact fin
      | exact ⟨⟨_, rfl⟩, fin⟩
      | exact ⟨_, rfl, fin⟩
    · rintro σ1 H' ⟨⟨u6, rfl⟩, f', tr'⟩
      exact h_e _ _ ⟨⟨u6, rfl⟩, f', tr'⟩
  rintro _ H2 ⟨⟨u6, rfl⟩, f_H2, tr2⟩
  have hl2 := thrs_len t0S 0 first.toNat
  obtain ⟨T1, hT1⟩ : ∃ t, t = thrs t0S 0 first.toNat := ⟨_, rfl⟩
  rw [← hT1] at q tr2 hl2
  have hl2' : T1.st.length ≤ 40 := by rw [hl2]; show 0 + 2 * first.toNat ≤ 40; omega
  obtain ⟨dx2, hp2⟩ := tr2.ins
  refine seq_gen fun N_f h_f => ?_
  simp only [RDa, RDb, RDv, RDk, RDx, RDe, RDd, RDp, RDq, List.getElem?_cons_zero, List.getElem?_cons_succ, List.set_cons_zero, List.set_cons_succ, List.cons.injEq, List.cons_ne_nil, reduceCtorEq, exists_eq_left', exists_eq_left, exists_and_left, and_assoc, exists_const, true_and, and_true, if_true, if_false, false_and, and_false, exists_false, false_or, or_false, true_implies, false_implies, implies_true, forall_eq, forall_eq', Bool.false_eq_true, if_neg, decide_eq_true_eq, Bool.not_eq_true', decide_eq_false_iff_not, Bool.not_true, Bool.not_false, List.length_cons, List.length_nil, sizeLine_eq, Nat.reduceAdd, Nat.reduceLeDiff, Nat.reduceLT, Int.reduceLT, Int.reduceLE, Int.emod_nonneg, ne_eq, Int.reduceEq, not_false_eq_true, not_true_eq_false, hTrack, TrackL, hp2]
  refine ⟨p, sl, T1, 0, rfl, tr2, by omega, fun H3 f3 tr3 => h_f _ _ ?_⟩
  clear h_f
  have f_H3 := f_H2.trans f3
  have hl3 : (T1.send 0).st.length ≤ 41 := by rw [send_len]; omega
  obtain ⟨T3, eT3⟩ : ∃ t, t = (if w' < N then thrTells ((T1.send 0).tell (T1.re - 1)) first (gap - first).toNat else T1.send 0) := ⟨_, rfl⟩
  rw [← eT3] at q
  refine seq_rel (fun σ1 H' => (∃ u6, σ1 = [some (.int w'), some (.int d), some (.int N), some (.ref p), some (.int gap), some (.int first), u6, some (.int T1.po)]) ∧ Fr [p, sl] H1 H' ∧ TrAt K H' p sl T3 ∧ T3.st.length ≤ 200) (fun N_g h_g => ?_) ?_
  · obtain ⟨dx3, hp3⟩ := tr3.ins
    simp only [RDa, RDb, RDv, RDk, RDx, RDe, RDd, RDp, RDq, List.getElem?_cons_zero, List.getElem?_cons_succ, List.set_cons_zero, List.set_cons_succ, List.cons.injEq, List.cons_ne_nil, reduceCtorEq, exists_eq_left', exists_eq_left, exists_and_left, and_assoc, exists_const, true_and, and_true, if_true, if_false, false_and, and_false, exists_false, false_or, or_false, true_implies, false_implies, implies_true, forall_eq, forall_eq', Bool.false_eq_true, if_neg, decide_eq_true_eq, Bool.not_eq_true', decide_eq_false_iff_not, Bool.not_true, Bool.not_false, List.length_cons, List.length_nil, sizeLine_eq, Nat.reduceAdd, Nat.reduceLeDiff, Nat.reduceLT, Int.reduceLT, Int.reduceLE, Int.emod_nonneg, ne_eq, Int.reduceEq, not_false_eq_true, not_true_eq_false, hTrack, TrackL, hp3]
    split
    · rename_i c
      rw [if_pos c] at eT3
      refine ⟨p, sl, T1.send 0, _, rfl, tr3, by omega, fun H4 f4 tr4 => ?_⟩
      have f_H4 := f_H3.trans f4
      have tr4 : TrAt K H4 p sl ((T1.send 0).tell (T1.re - 1)) := tr4
      have hl4 : ((T1.send 0).tell (T1.re - 1)).st.length ≤ 42 := by rw [tell_len]; omega
      obtain ⟨T4, hT4⟩ : ∃ t, t = (T1.send 0).tell (T1.re - 1) := ⟨_, rfl⟩
      rw [← hT4] at eT3 tr4 hl4
      refine for_rcut first (gap - first).toNat (fun H' => H4 = H') (fun Z hZ => ?_) (fun i σ1 H' => (∃ u6, σ1 = [some (.int w'), some (.int d), some (.int N), some (.ref p), some (.int gap), some (.int first), u6, some (.int T1.po)]) ∧ Fr [p, sl] H1 H' ∧ TrAt K H' p sl (thrTells T4 first i)) ?_ ?_ ?_
      · simp only [RDa, RDb, RDv, RDk, RDx, RDe, RDd, RDp, RDq, List.getElem?_cons_zero, List.getElem?_cons_succ, List.set_cons_zero, List.set_cons_succ, List.cons.injEq, List.cons_ne_nil, reduceCtorEq, exists_eq_left', exists_eq_left, exists_and_left, and_assoc, exists_const, true_and, and_true, if_true, if_false, false_and, and_false, exists_false, false_or, or_false, true_implies, false_implies, implies_true, forall_eq, forall_eq', Bool.false_eq_true, if_neg, decide_eq_true_eq, Bool.not_eq_true', decide_eq_false_iff_not, Bool.not_true, Bool.not_false, List.length_cons, List.length_nil, sizeLine_eq, Nat.reduceAdd, Nat.reduceLeDiff, Nat.reduceLT, Int.reduceLT, Int.reduceLE, Int.emod_nonneg, ne_eq, Int.reduceEq, not_false_eq_true, not_true_eq_false]
        exact ⟨by omega, by omega, by omega, by omega, hZ _ rfl⟩
      · rintro H' rfl
        exact ⟨⟨_, rfl⟩, f_H4, tr4⟩
      · rintro i σ1 H' hi ⟨⟨u6, rfl⟩, f', tr'⟩
        obtain ⟨dx', hp'⟩ := tr'.ins
        have hl' := thrTells_len T4 first i
        simp only [RDa, RDb, RDv, RDk, RDx, RDe, RDd, RDp, RDq, List.getElem?_cons_zero, List.getElem?_cons_succ, List.set_cons_zero, List.set_cons_succ, List.cons.injEq, List.cons_ne_nil, reduceCtorEq, exists_eq_left', exists_eq_left, exists_and_left, and_assoc, exists_const, true_and, and_true, if_true, if_false, false_and, and_false, exists_false, false_or, or_false, true_implies, false_implies, implies_true, forall_eq, forall_eq', Bool.false_eq_true, if_neg, decide_eq_true_eq, Bool.not_eq_true', decide_eq_false_iff_not, Bool.not_true, Bool.not_false, List.length_cons, List.length_nil, sizeLine_eq, Nat.reduceAdd, Nat.reduceLeDiff, Nat.reduceLT, Int.reduceLT, Int.reduceLE, Int.emod_nonneg, ne_eq, Int.reduceEq, not_false_eq_true, not_true_eq_false, hTrack, TrackL, hp']
        refine ⟨p, sl, _, _, rfl, tr', by show (thrTells T4 first i).st.length < 90000; rw [hl']; omega, fun H6 f6 tr6 => ?_⟩
        refine ⟨p, sl, _, _, rfl, tr6, ?_, fun H7 f7 tr7 => ?_⟩
        · rw [thr_len, hl']
          omega
        have fin : Fr [p, sl] H1 H7 ∧ TrAt K H7 p sl (thrTells T4 first (i + 1)) := ⟨(f'.trans f6).trans f7, tr7⟩
        first
        | exact fin
        | exact ⟨⟨_, rfl⟩, fin⟩
        | exact ⟨_, rfl, fin⟩
      · rintro σ1 H' ⟨⟨u6, rfl⟩, f', tr'⟩
        have hl' := thrTells_len T4 first (gap - first).toNat
        rw [← eT3] at tr' hl'
        exact h_g _ _ ⟨⟨u6, rfl⟩, f', tr', by omega⟩
    · rename_i c
      rw [if_neg c] at eT3
      rw [← eT3] at tr3 hl3
      exact h_g _ _ ⟨⟨_, rfl⟩, f_H3, tr3, by omega⟩
  rintro _ H4 ⟨⟨u6', rfl⟩, f_H4, tr4, hl4⟩
  obtain ⟨dx4, hp4⟩ := tr4.ins
  refine seq_gen fun N_i h_i => ?_
  simp only [RDa, RDb, RDv, RDk, RDx, RDe, RDd, RDp, RDq, List.getElem?_cons_zero, List.getElem?_cons_succ, List.set_cons_zero, List.set_cons_succ, List.cons.injEq, List.cons_ne_nil, reduceCtorEq, exists_eq_left', exists_eq_left, exists_and_left, and_assoc, exists_const, true_and, and_true, if_true, if_false, false_and, and_false, exists_false, false_or, or_false, true_implies, false_implies, implies_true, forall_eq, forall_eq', Bool.false_eq_true, if_neg, decide_eq_true_eq, Bool.not_eq_true', decide_eq_false_iff_not, Bool.not_true, Bool.not_false, List.length_cons, List.length_nil, sizeLine_eq, Nat.reduceAdd, Nat.reduceLeDiff, Nat.reduceLT, Int.reduceLT, Int.reduceLE, Int.emod_nonneg, ne_eq, Int.reduceEq, not_false_eq_true, not_true_eq_false, hTrack, TrackL, hp4]
  refine ⟨p, sl, T3, T1.po, rfl, tr4, by omega, fun H5 f5 tr5 => h_i _ _ ?_⟩
  clear h_i
  have f_H5 := f_H4.trans f5
  have hl5 : (T3.hand T1.po).st.length ≤ 201 := by
    show (T3.st ++ [_]).length ≤ _
    rw [List.length_append]
    show T3.st.length + 1 ≤ _
    omega
  obtain ⟨T5, hT5⟩ : ∃ t, t = T3.hand T1.po := ⟨_, rfl⟩
  rw [← hT5] at q tr5 hl5
  refine seq_rel (fun σ1 H' => (∃ u6, σ1 = [some (.int w'), some (.int d), some (.int N), some (.ref p), some (.int gap), some (.int first), u6, some (.int T1.po)]) ∧ Fr [p, sl] H1 H' ∧ TrAt K H' p sl (thrs T5 (gap) (N - gap).toNat)) (fun N_j h_j => ?_) ?_
  · refine for_rcut (gap) (N - gap).toNat (fun H' => H5 = H') (fun Z hZ => ?_) (fun i σ1 H' => (∃ u6, σ1 = [some (.int w'), some (.int d), some (.int N), some (.ref p), some (.int gap), some (.int first), u6, some (.int T1.po)]) ∧ Fr [p, sl] H1 H' ∧ TrAt K H' p sl (thrs T5 (gap) i)) ?_ ?_ ?_
    · simp only [RDa, RDb, RDv, RDk, RDx, RDe, RDd, RDp, RDq, List.getElem?_cons_zero, List.getElem?_cons_succ, List.set_cons_zero, List.set_cons_succ, List.cons.injEq, List.cons_ne_nil, reduceCtorEq, exists_eq_left', exists_eq_left, exists_and_left, and_assoc, exists_const, true_and, and_true, if_true, if_false, false_and, and_false, exists_false, false_or, or_false, true_implies, false_implies, implies_true, forall_eq, forall_eq', Bool.false_eq_true, if_neg, decide_eq_true_eq, Bool.not_eq_true', decide_eq_false_iff_not, Bool.not_true, Bool.not_false, List.length_cons, List.length_nil, sizeLine_eq, Nat.reduceAdd, Nat.reduceLeDiff, Nat.reduceLT, Int.reduceLT, Int.reduceLE, Int.emod_nonneg, ne_eq, Int.reduceEq, not_false_eq_true, not_true_eq_false]
      exact ⟨by omega, by omega, by omega, by omega, hZ _ rfl⟩
    · rintro H' rfl
      exact ⟨⟨_, rfl⟩, f_H5, tr5⟩
    · rintro i σ1 H' hi ⟨⟨u6, rfl⟩, f', tr'⟩
      obtain ⟨dx', hp'⟩ := tr'.ins
      have hl' := thrs_len T5 (gap) i
      simp only [RDa, RDb, RDv, RDk, RDx, RDe, RDd, RDp, RDq, List.getElem?_cons_zero, List.getElem?_cons_succ, List.set_cons_zero, List.set_cons_succ, List.cons.injEq, List.cons_ne_nil, reduceCtorEq, exists_eq_left', exists_eq_left, exists_and_left, and_assoc, exists_const, true_and, and_true, if_true, if_false, false_and, and_false, exists_false, false_or, or_false, true_implies, false_implies, implies_true, forall_eq, forall_eq', Bool.false_eq_true, if_neg, decide_eq_true_eq, Bool.not_eq_true', decide_eq_false_iff_not, Bool.not_true, Bool.not_false, List.length_cons, List.length_nil, sizeLine_eq, Nat.reduceAdd, Nat.reduceLeDiff, Nat.reduceLT, Int.reduceLT, Int.reduceLE, Int.emod_nonneg, ne_eq, Int.reduceEq, not_false_eq_true, not_true_eq_false, hTrack, TrackL, hp']
      refine ⟨p, sl, _, _, rfl, tr', by show (thrs T5 gap i).st.length < 90000; rw [hl']; omega, fun H2 f2 tr2 => ?_⟩
      have fin : Fr [p, sl] H1 H2 ∧ TrAt K H2 p sl (thrs T5 gap (i + 1)) := ⟨f'.trans f2, tr2⟩
      first
      | exact fin
      | exact ⟨⟨_, rfl⟩, fin⟩
      | exact ⟨_, rfl, fin⟩
    · rintro σ1 H' ⟨⟨u6, rfl⟩, f', tr'⟩
      exact h_j _ _ ⟨⟨u6, rfl⟩, f', tr'⟩
  rintro _ H6 ⟨⟨u6'', rfl⟩, f_H6, tr6⟩
  obtain ⟨dx6, hp6⟩ := tr6.ins
  simp only [RDa, RDb, RDv, RDk, RDx, RDe, RDd, RDp, RDq, List.getElem?_cons_zero, List.getElem?_cons_succ, List.set_cons_zero, List.set_cons_succ, List.cons.injEq, List.cons_ne_nil, reduceCtorEq, exists_eq_left', exists_eq_left, exists_and_left, and_assoc, exists_const, true_and, and_true, if_true, if_false, false_and, and_false, exists_false, false_or, or_false, true_implies, false_implies, implies_true, forall_eq, forall_eq', Bool.false_eq_true, if_neg, decide_eq_true_eq, Bool.not_eq_true', decide_eq_false_iff_not, Bool.not_true, Bool.not_false, List.length_cons, List.length_nil, sizeLine_eq, Nat.reduceAdd, Nat.reduceLeDiff, Nat.reduceLT, Int.reduceLT, Int.reduceLE, Int.emod_nonneg, ne_eq, Int.reduceEq, not_false_eq_true, not_true_eq_false, hTrack, TrackL, hp6]
  exact q sl H6 nsl (fun c o e => f_H6 _ _ (by
    simp only [List.mem_cons, List.not_mem_nil, or_false, not_or]
    exact ⟨ne_of_none e np, ne_of_none e nsl⟩) (s1 _ _ e)) tr6.st
end RP

namespace RP
open PySem PySem.Spec PyProof.Rows L2
/-! the steps of breaking, by the plain rows -/
structure TM (m0 : M) (t : TS) (m : M) : Prop where
  po : t.po = m.ls.length
  re : t.re = m.an.length
  run : m0.run t.st = some m
theorem send_ok {m : M} {k : Int} (h1 : m.base ≤ k) (h2 : k ≤ m.last) : m.step "send" k = some ((m.ls.length : Int), sentM m k) := by
  have est : m.step "send" k = m.send k := rfl
  rw [est]
  unfold M.send
  rw [if_pos ⟨h1, h2⟩]
  rfl
theorem hand_ok {m : M} {n : Int} (h : isT n m.ls.length m.d = true) : m.step "hand" n = some ((m.an.length : Int), m.handed (m.ls.getD n.toNat (0, ""))) := by
  have est : m.step "hand" n = m.hand n := rfl
  rw [est]
  unfold M.hand
  rw [if_pos h]
theorem tell_ok {m : M} {n : Int} (h : isT n m.an.length m.b = true) : m.step "tell" n = some (sBase m.base m.top m.ring (m.an.getD n.toNat 0), { m with base := sBase m.base m.top m.ring (m.an.getD n.toNat 0) }) := by
  have est : m.step "tell" n = m.tell n := rfl
  rw [est]
  unfold M.tell
  rw [if_pos h]
theorem TM.send {m0 m : M} {t : TS} (tm : TM m0 t m) {k : Int} (h1 : m.base ≤ k) (h2 : k ≤ m.last) : TM m0 (t.send k) (sentM m k) :=
  ⟨by show t.po + 1 = ((m.ls ++ [_]).length : Int); rw [tm.po, List.length_append]; rfl, tm.re, M.run_snoc _ _ _ _ _ _ _ tm.run (send_ok h1 h2)⟩
theorem TM.hand {m0 m : M} {t : TS} (tm : TM m0 t m) {n : Int} (h : isT n m.ls.length m.d = true) : TM m0 (t.hand n) (m.handed (m.ls.getD n.toNat (0, ""))) :=
  ⟨tm.po, by show t.re + 1 = ((m.an ++ [_]).length : Int); rw [tm.re, List.length_append]; rfl, M.run_snoc _ _ _ _ _ _ _ tm.run (hand_ok h)⟩
theorem TM.tell {m0 m : M} {t : TS} (tm : TM m0 t m) {n : Int} (h : isT n m.an.length m.b = true) : TM m0 (t.tell n) { m with base := sBase m.base m.top m.ring (m.an.getD n.toNat 0) } :=
  ⟨tm.po, tm.re, M.run_snoc _ _ _ _ _ _ _ tm.run (tell_ok h)⟩
theorem TM.const {m0 m : M} {t : TS} (tm : TM m0 t m) : m.w = m0.w ∧ m.r = m0.r ∧ m.d = m0.d ∧ m.b = m0.b ∧ m.ring = m0.ring ∧ m.tx = m0.tx := M.run_const _ _ _ tm.run
/-- a state in which the next texts are plain -/
structure PS (m0 : M) (t : TS) (m : M) (bs k : Int) (kp : List (Int × Str)) : Prop where
  tm : TM m0 t m
  base : m.base = bs
  top : m.top = k
  want : m.want = k
  out : m.out = m0.tx.take k.toNat
  kept : m.kept = kp
theorem hdrop_none {kp : List (Int × Str)} {k : Int} (x : Str) (h : ∀ q ∈ kp, q.1 ≠ k) : hdrop (kp ++ [(k, x)]) k = kp := by
  unfold hdrop
  rw [List.filter_append, List.filter_cons, decide_eq_false (by simp)]
  simp only [Bool.false_eq_true, if_false, List.filter_nil, List.append_nil]
  exact List.filter_eq_self.mpr fun q hq => decide_eq_true (h q hq)
theorem hget_snoc {kp : List (Int × Str)} {k : Int} (x : Str) (h : ∀ q ∈ kp, q.1 ≠ k) : hget (kp ++ [(k, x)]) k = some x := by
  have n := hget_none.mpr h
  unfold hget at n ⊢
  rw [Option.map_eq_none_iff] at n
  rw [List.find?_append, n, Option.none_or, List.find?_cons, decide_eq_true rfl]
  rfl
theorem take_next {tx : List Str} {k : Int} (h0 : 0 ≤ k) (h : k < tx.length) : tx.take k.toNat ++ [tx.getD k.toNat ""] = tx.take (k + 1).toNat := by
  have wl : k.toNat < tx.length := by omega
  rw [show (k + 1).toNat = k.toNat + 1 by omega, List.take_succ, List.getElem?_eq_getElem wl, List.getD_eq_getElem?_getD, List.getElem?_eq_getElem wl]
  rfl
/-- the text that is wanted comes -/
theorem came_want {r ring k : Int} {g : List Str} {kp : List (Int × Str)} {x : Str} (hr : 0 < r) (h : ∀ q ∈ kp, q.1 ≠ k) : tkCame r ring k g kp (k % ring) x = drained (k + 1) (g ++ [x]) kp := by
  have e : (k % ring - k) % ring = 0 := by rw [Int.emod_sub_emod, Int.sub_self, Int.zero_emod]
  unfold tkCame tkPut
  rw [e, Int.add_zero, if_pos ⟨hr, hget_none.mpr h⟩, drained_some (hget_snoc x h), hdrop_none x h]
theorem PS.thr' {m0 m : M} {t : TS} {bs k : Int} {kp : List (Int × Str)} (p : PS m0 t m bs k kp) (h0 : 0 ≤ k) (hb : bs ≤ k) (hw : k < bs + m0.w) (hl : k < m0.tx.length) (hk : ∀ q ∈ kp, q.1 ≠ k) (hr : 0 < m0.r) (hd : 0 ≤ m0.d) :
    ∃ m', TM m0 (t.thr k) m' ∧ m'.base = bs ∧ m'.top = k + 1 ∧ (m'.want, m'.out, m'.kept) = drained (k + 1) (m0.tx.take (k + 1).toNat) kp ∧ m'.ls = m.ls ++ [(k % m0.ring, m0.tx.getD k.toNat "")] ∧ m'.an = m.an ++ [(drained (k + 1) (m0.tx.take (k + 1).toNat) kp).1 % m0.ring] ∧ t.re = m.an.length := by
  have c := p.tm.const
  have hc1 : m.base ≤ k := by rw [p.base]; exact hb
  have hc2 : k ≤ m.last := by
    rw [last_le, p.top, p.base, c.1, c.2.2.2.2.2]
    omega
  have t1 := p.tm.send hc1 hc2
  have hls : (sentM m k).ls = m.ls ++ [(k % m0.ring, m0.tx.getD k.toNat "")] := by
    show m.ls ++ [(k % m.ring, m.tx.getD k.toNat "")] = _
    rw [c.2.2.2.2.1, c.2.2.2.2.2]
  have hT : isT t.po (sentM m k).ls.length (sentM m k).d = true := by
    rw [isT_iff, hls, List.length_append, p.tm.po]
    have e : (sentM m k).d = m0.d := c.2.2.1
    rw [e]
    show 0 ≤ (m.ls.length : Int) ∧ ((m.ls.length + 1 : Nat) : Int) - 1 - m0.d ≤ (m.ls.length : Int) ∧ (m.ls.length : Int) < ((m.ls.length + 1 : Nat) : Int)
    omega
  have t2 := t1.hand hT
  have eg : (sentM m k).ls.getD t.po.toNat (0, "") = (k % m0.ring, m0.tx.getD k.toNat "") := by
    rw [hls, p.tm.po, Int.toNat_natCast, List.getD_eq_getElem?_getD, List.getElem?_append_right (Nat.le_refl _), Nat.sub_self]
    rfl
  rw [eg] at t2
  have ec : tkCame (sentM m k).r (sentM m k).ring (sentM m k).want (sentM m k).out (sentM m k).kept (k % m0.ring) (m0.tx.getD k.toNat "") = drained (k + 1) (m0.tx.take (k + 1).toNat) kp := by
    show tkCame m.r m.ring m.want m.out m.kept (k % m0.ring) (m0.tx.getD k.toNat "") = _
    rw [p.want, p.out, p.kept, c.2.2.2.2.1, came_want (by rw [c.2.1]; exact hr) hk, take_next h0 hl]
  refine ⟨_, t2, p.base, ?_, ?_, hls, ?_, p.tm.re⟩
  · show sTop m.top k = k + 1
    unfold sTop
    rw [if_pos p.top.symm, p.top]
  · show ((tkCame (sentM m k).r (sentM m k).ring (sentM m k).want (sentM m k).out (sentM m k).kept (k % m0.ring) (m0.tx.getD k.toNat "")).1, (tkCame (sentM m k).r (sentM m k).ring (sentM m k).want (sentM m k).out (sentM m k).kept (k % m0.ring) (m0.tx.getD k.toNat "")).2.1, (tkCame (sentM m k).r (sentM m k).ring (sentM m k).want (sentM m k).out (sentM m k).kept (k % m0.ring) (m0.tx.getD k.toNat "")).2.2) = _
    rw [ec]
  · show m.an ++ [(tkCame (sentM m k).r (sentM m k).ring (sentM m k).want (sentM m k).out (sentM m k).kept (k % m0.ring) (m0.tx.getD k.toNat "")).1 % m.ring] = _
    rw [ec, c.2.2.2.2.1]
theorem PS.thr {m0 m : M} {t : TS} {bs k : Int} {kp : List (Int × Str)} (p : PS m0 t m bs k kp) (h0 : 0 ≤ k) (hb : bs ≤ k) (hw : k < bs + m0.w) (hl : k < m0.tx.length) (hk : ∀ q ∈ kp, k + 1 < q.1) (hr : 0 < m0.r) (hd : 0 ≤ m0.d) :
    ∃ m', PS m0 (t.thr k) m' bs (k + 1) kp ∧ m'.ls = m.ls ++ [(k % m0.ring, m0.tx.getD k.toNat "")] ∧ m'.an = m.an ++ [(k + 1) % m0.ring] ∧ t.re = m.an.length := by
  obtain ⟨m', h1, h2, h3, h4, h5, h6, h7⟩ := p.thr' h0 hb hw hl (fun q hq => by have := hk q hq; omega) hr hd
  have e : drained (k + 1) (m0.tx.take (k + 1).toNat) kp = (k + 1, m0.tx.take (k + 1).toNat, kp) := drained_none (hget_none.mpr fun q hq => by have := hk q hq; omega)
  rw [e] at h4 h6
  have h8 := Prod.mk.inj h4
  have h9 := Prod.mk.inj h8.2
  exact ⟨m', ⟨h1, h2, h3, h8.1, h9.1, h9.2⟩, h5, h6, h7⟩
/-- the last answer comes -/
theorem PS.tell {m0 m : M} {t : TS} {bs k : Int} {kp : List (Int × Str)} (p : PS m0 t m bs k kp) {an : List Int} (ha : m.an = an ++ [k % m0.ring]) (hb : bs ≤ k) (hn : k - bs < m0.ring) (hbb : 0 ≤ m0.b) : PS m0 (t.tell (an.length : Nat)) { m with base := k } k k kp := by
  have c := p.tm.const
  have hT : isT ((an.length : Nat) : Int) m.an.length m.b = true := by
    rw [isT_iff, ha, List.length_append, c.2.2.2.1]
    show 0 ≤ ((an.length : Nat) : Int) ∧ ((an.length + 1 : Nat) : Int) - 1 - m0.b ≤ ((an.length : Nat) : Int) ∧ ((an.length : Nat) : Int) < ((an.length + 1 : Nat) : Int)
    omega
  have t1 := p.tm.tell hT
  have eg : m.an.getD (((an.length : Nat) : Int)).toNat 0 = k % m0.ring := by
    rw [ha, Int.toNat_natCast, List.getD_eq_getElem?_getD, List.getElem?_append_right (Nat.le_refl _), Nat.sub_self]
    rfl
  have es : sBase m.base m.top m.ring (m.an.getD (((an.length : Nat) : Int)).toNat 0) = k := by
    rw [eg, p.base, p.top, c.2.2.2.2.1]
    unfold sBase
    rw [Int.emod_sub_emod, Int.emod_eq_of_lt (by omega) hn, show bs + (k - bs) = k by omega, if_pos (Int.le_refl _)]
  rw [es] at t1
  exact ⟨t1, rfl, p.top, p.want, p.out, p.kept⟩
theorem PS.thrs {m0 : M} {bs k : Int} {kp : List (Int × Str)} : ∀ (n : Nat) {m : M} {t : TS}, PS m0 t m bs k kp → 0 ≤ k → bs ≤ k → k + n ≤ bs + m0.w → k + n ≤ m0.tx.length → (∀ q ∈ kp, k + n < q.1) → 0 < m0.r → 0 ≤ m0.d →
    ∃ m' an, PS m0 (RP.thrs t k n) m' bs (k + n) kp ∧ (∃ l, m'.ls = m.ls ++ l ∧ l.length = n) ∧ m'.an = m.an ++ an ∧ an.length = n ∧ (0 < n → ∃ an2, m'.an = an2 ++ [(k + n) % m0.ring])
  | 0, m, t, p, _, _, _, _, _, _, _ => ⟨m, [], by rw [show k + ((0 : Nat) : Int) = k by omega]; exact p, ⟨[], by simp, rfl⟩, by simp, rfl, fun h => absurd h (by decide)⟩
  | n + 1, m, t, p, h0, hb, hw, hl, hk, hr, hd => by
    obtain ⟨m1, an, p1, ⟨l, el, ll⟩, ea, la, _⟩ := PS.thrs n p h0 hb (by omega) (by omega) (fun q hq => by have := hk q hq; omega) hr hd
    obtain ⟨m2, p2, e1, e2, _⟩ := p1.thr (by omega) (by omega) (by omega) (by omega) (fun q hq => by have := hk q hq; omega) hr hd
    have ek : k + ((n : Nat) : Int) + 1 = k + ((n + 1 : Nat) : Int) := by omega
    rw [ek] at p2 e2
    refine ⟨m2, an ++ [(k + ((n + 1 : Nat) : Int)) % m0.ring], p2, ⟨l ++ [_], by rw [e1, el, List.append_assoc], by rw [List.length_append, ll]; rfl⟩, by rw [e2, ea, List.append_assoc], by rw [List.length_append, la]; rfl, fun _ => ⟨m1.an, e2⟩⟩
theorem PS.thrTells {m0 : M} {k : Int} : ∀ (n : Nat) {m : M} {t : TS}, PS m0 t m k k [] → 0 ≤ k → k + n ≤ m0.tx.length → 1 ≤ m0.w → 1 < m0.ring → 0 < m0.r → 0 ≤ m0.d → 0 ≤ m0.b →
    ∃ m', PS m0 (RP.thrTells t k n) m' (k + n) (k + n) [] ∧ (∃ l, m'.ls = m.ls ++ l ∧ l.length = n) ∧ (∃ an, m'.an = m.an ++ an ∧ an.length = n)
  | 0, m, t, p, _, _, _, _, _, _, _ => ⟨m, by rw [show k + ((0 : Nat) : Int) = k by omega]; exact p, ⟨[], by simp, rfl⟩, ⟨[], by simp, rfl⟩⟩
  | n + 1, m, t, p, h0, hl, hw, hg, hr, hd, hb => by
    obtain ⟨m1, p1, ⟨l, el, ll⟩, ⟨an, ea, la⟩⟩ := PS.thrTells n p h0 (by omega) hw hg hr hd hb
    obtain ⟨m2, p2, e1, e2, e3⟩ := p1.thr (by omega) (by omega) (by omega) (by omega) (fun q hq => by cases hq) hr hd
    have ek : k + ((n : Nat) : Int) + 1 = k + ((n + 1 : Nat) : Int) := by omega
    rw [ek] at p2 e2
    have p3 := p2.tell e2 (by omega) (by omega) hb
    rw [← e3] at p3
    exact ⟨_, p3, ⟨l ++ [_], by show m2.ls = _; rw [e1, el, List.append_assoc], by rw [List.length_append, ll]; rfl⟩, ⟨an ++ [_], by show m2.an = _; rw [e2, ea, List.append_assoc], by rw [List.length_append, la]; rfl⟩⟩
/-- texts that are unlike -/
def Unlike (tx : List Str) : Prop := ∀ i j : Nat, i < tx.length → j < tx.length → i ≠ j → tx.getD i "" ≠ tx.getD j ""
theorem wrong_out {m : M} {N : Nat} {x : Str} (h : N < m.tx.length) (hx : x ≠ m.tx.getD N "") (ho : m.out = m.tx.take N ++ [x]) : m.isWrong = true := by
  have hl : m.out.length = N + 1 := by
    rw [ho, List.length_append, List.length_take]
    show min N m.tx.length + 1 = _
    omega
  have ne : ¬ m.out = m.tx.take m.out.length := by
    rw [hl, ho, List.take_succ, List.getElem?_eq_getElem h]
    intro e
    have e2 := (List.append_inj' e rfl).2
    have e3 : x = m.tx[N] := by simpa using e2
    apply hx
    rw [e3, List.getD_eq_getElem?_getD, List.getElem?_eq_getElem h]
    rfl
  unfold M.isWrong
  rw [decide_eq_false ne]
  rfl
theorem wrong_base {m : M} (h : (m.out.length : Int) < m.base) : m.isWrong = true := by
  unfold M.isWrong
  rw [decide_eq_true h, Bool.or_true]
theorem bal_wrong {w r d b N : Int} {tx : List Str} (hw : 1 ≤ w) (hr : 1 ≤ r) (hrw : r ≤ w) (hd : 0 ≤ d) (hb : 0 ≤ b) (hN : 1 ≤ N) (hlt : N < w + r + d) (hl : (tx.length : Int) = N + 1) (hu : Unlike tx) : ∃ m, (M.begun w r d b N tx).run (bal w d N).st = some m ∧ m.isWrong = true := by
  obtain ⟨gap, eg⟩ : ∃ g, g = mn2 N (w + d) := ⟨_, rfl⟩
  obtain ⟨first, ef⟩ : ∃ g, g = mn2 w gap := ⟨_, rfl⟩
  have hgap : (gap = N ∧ N ≤ w + d) ∨ (gap = w + d ∧ w + d < N) := by
    rw [eg]
    unfold mn2
    split <;> omega
  have hfirst : (first = w ∧ w ≤ gap) ∨ (first = gap ∧ gap < w) := by
    rw [ef]
    unfold mn2
    split <;> omega
  unfold bal
  rw [← eg, ← ef]
  obtain ⟨m0, em⟩ : ∃ m0, m0 = M.begun w r d b N tx := ⟨_, rfl⟩
  rw [← em]
  have c0 : m0.w = w ∧ m0.r = r ∧ m0.d = d ∧ m0.b = b ∧ m0.ring = N ∧ m0.tx = tx := by rw [em]; exact ⟨rfl, rfl, rfl, rfl, rfl, rfl⟩
  have p0 : PS m0 t0S m0 0 0 [] := by rw [em]; exact ⟨⟨rfl, rfl, rfl⟩, rfl, rfl, rfl, rfl, rfl⟩
  have l0 : m0.ls = [] ∧ m0.an = [] := by rw [em]; exact ⟨rfl, rfl⟩
  clear em
  obtain ⟨c1, c2, c3, c4, c5, c6⟩ := c0
  obtain ⟨m1, an, p1, ⟨l, el, ll⟩, ea, la, hla⟩ := p0.thrs first.toNat (by decide) (Int.le_refl _) (by rw [c1]; omega) (by rw [c6]; omega) (fun q hq => by cases hq) (by rw [c2]; omega) (by rw [c3]; omega)
  obtain ⟨an2, ean2⟩ := hla (by omega)
  rw [show (0 : Int) + (first.toNat : Int) = first by omega] at p1 ean2
  generalize thrs t0S 0 first.toNat = t1 at p1 ⊢
  have k1 := p1.tm.const
  have hs : m1.base ≤ 0 ∧ (0 : Int) ≤ m1.last := by
    rw [last_le, p1.base, p1.top, k1.1, k1.2.2.2.2.2, c1, c6]
    omega
  have tm2 := p1.tm.send hs.1 hs.2
  have ep2 : (sentM m1 0).ls = m1.ls ++ [(0, tx.getD 0 "")] := by
    show m1.ls ++ [((0 : Int) % m1.ring, m1.tx.getD (0 : Int).toNat "")] = _
    rw [Int.zero_emod, k1.2.2.2.2.2, c6]
    rfl
  have p2 : PS m0 (t1.send 0) (sentM m1 0) 0 first [] := ⟨tm2, p1.base, by show sTop m1.top 0 = first; unfold sTop; rw [p1.top, if_neg (by omega)], p1.want, p1.out, p1.kept⟩
  have hl1 : m1.ls.length = first.toNat := by rw [el, l0.1, List.nil_append, ll]
  obtain ⟨t3, et3⟩ : ∃ t3, t3 = (if w < N then thrTells ((t1.send 0).tell (t1.re - 1)) first (gap - first).toNat else t1.send 0) := ⟨_, rfl⟩
  rw [← et3]
  obtain ⟨m3, bs, p3, ⟨l3, e3, hl3⟩, hbs⟩ : ∃ m3 bs, PS m0 t3 m3 bs gap [] ∧ (∃ l3, m3.ls = m1.ls ++ [(0, tx.getD 0 "")] ++ l3 ∧ (l3.length : Int) ≤ d) ∧ 0 ≤ bs ∧ bs ≤ gap ∧ N ≤ bs + w := by
    by_cases c : w < N
    · rw [if_pos c] at et3
      have eq : (sentM m1 0).an = an2 ++ [first % m0.ring] := ean2
      have q := p2.tell eq (by omega) (by rw [c5]; omega) (by rw [c4]; omega)
      have er : t1.re - 1 = ((an2.length : Nat) : Int) := by
        rw [p1.tm.re, ean2, List.length_append]
        show ((an2.length + 1 : Nat) : Int) - 1 = _
        omega
      rw [← er] at q
      obtain ⟨m3, p3, ⟨l3, e3, h3⟩, _⟩ := q.thrTells (gap - first).toNat (by omega) (by rw [c6]; omega) (by rw [c1]; exact hw) (by rw [c5]; omega) (by rw [c2]; omega) (by rw [c3]; exact hd) (by rw [c4]; exact hb)
      rw [show first + ((gap - first).toNat : Int) = gap by omega, ← et3] at p3
      exact ⟨m3, gap, p3, ⟨l3, by rw [e3]; show (sentM m1 0).ls ++ l3 = _; rw [ep2], by omega⟩, by omega, by omega, by omega⟩
    · rw [if_neg c] at et3
      have e : first = gap := by omega
      rw [e, ← et3] at p2
      exact ⟨_, 0, p2, ⟨[], by rw [ep2, List.append_nil], by show ((0 : Nat) : Int) ≤ d; omega⟩, by omega, by omega, by omega⟩
  have k3 := p3.tm.const
  have hT : isT t1.po m3.ls.length m3.d = true := by
    rw [isT_iff, e3, k3.2.2.1, c3, p1.tm.po]
    simp only [List.length_append, List.length_cons, List.length_nil]
    omega
  have tm4 := p3.tm.hand hT
  have eg4 : m3.ls.getD t1.po.toNat (0, "") = (0, tx.getD 0 "") := by
    rw [e3, p1.tm.po, Int.toNat_natCast, List.getD_eq_getElem?_getD, List.append_assoc, List.getElem?_append_right (Nat.le_refl _), Nat.sub_self]
    rfl
  rw [eg4] at tm4
  have es : (0 - gap) % N = N - gap := by
    rw [← Int.add_emod_right]
    exact (show (0 - gap + N) % N = N - gap by rw [show 0 - gap + N = N - gap by omega]; exact Int.emod_eq_of_lt (by omega) (by omega))
  have ec : tkCame m3.r m3.ring m3.want m3.out m3.kept 0 (tx.getD 0 "") = drained gap (tx.take gap.toNat) [(N, tx.getD 0 "")] := by
    rw [p3.want, p3.out, p3.kept, k3.2.1, k3.2.2.2.2.1, c2, c5, c6]
    unfold tkCame tkPut
    rw [es, show gap + (N - gap) = N by omega, if_pos ⟨by omega, rfl⟩]
    rfl
  have hne : tx.getD 0 "" ≠ tx.getD N.toNat "" := hu 0 N.toNat (by omega) (by omega) (by omega)
  rcases hgap with ⟨hg, _⟩ | ⟨hg, hg2⟩
  · rw [show (N - gap).toNat = 0 by omega]
    refine ⟨_, tm4.run, ?_⟩
    refine wrong_out (N := N.toNat) (x := tx.getD 0 "") ?_ ?_ ?_
    · show N.toNat < m3.tx.length
      rw [k3.2.2.2.2.2, c6]
      omega
    · show _ ≠ m3.tx.getD N.toNat ""
      rw [k3.2.2.2.2.2, c6]
      exact hne
    · show (tkCame m3.r m3.ring m3.want m3.out m3.kept 0 (tx.getD 0 "")).2.1 = m3.tx.take N.toNat ++ [_]
      have e1 : hget [(N, tx.getD 0 "")] gap = some (tx.getD 0 "") := by
        rw [hg]
        exact hget_snoc (kp := []) _ (fun q hq => by cases hq)
      rw [ec, drained_some e1, k3.2.2.2.2.2, c6]
      have e2 : hdrop [(N, tx.getD 0 "")] gap = [] := by
        rw [hg]
        exact hdrop_none (kp := []) _ (fun q hq => by cases hq)
      rw [e2, drained_none rfl, hg]
  · have e1 : drained gap (tx.take gap.toNat) [(N, tx.getD 0 "")] = (gap, tx.take gap.toNat, [(N, tx.getD 0 "")]) := drained_none (hget_none.mpr fun q hq => by
      rw [List.mem_singleton.mp hq]
      show N ≠ gap
      omega)
    rw [e1] at ec
    have p4 : PS m0 (t3.hand t1.po) (m3.handed (0, tx.getD 0 "")) bs gap [(N, tx.getD 0 "")] := ⟨tm4, p3.base, p3.top, by show (tkCame m3.r m3.ring m3.want m3.out m3.kept 0 (tx.getD 0 "")).1 = gap; rw [ec], by show (tkCame m3.r m3.ring m3.want m3.out m3.kept 0 (tx.getD 0 "")).2.1 = _; rw [ec, c6], by show (tkCame m3.r m3.ring m3.want m3.out m3.kept 0 (tx.getD 0 "")).2.2 = _; rw [ec]⟩
    obtain ⟨n, hn⟩ : ∃ n, (N - gap).toNat = n + 1 := ⟨(N - gap).toNat - 1, by omega⟩
    obtain ⟨m5, _, p5, _⟩ := p4.thrs n (by omega) (by omega) (by rw [c1]; omega) (by rw [c6]; omega) (fun q hq => by rw [List.mem_singleton.mp hq]; show gap + (n : Int) < N; omega) (by rw [c2]; omega) (by rw [c3]; exact hd)
    obtain ⟨m6, t6, _, _, e6, _⟩ := p5.thr' (by omega) (by omega) (by rw [c1]; omega) (by rw [c6]; omega) (fun q hq => by rw [List.mem_singleton.mp hq]; show N ≠ gap + (n : Int); omega) (by rw [c2]; omega) (by rw [c3]; exact hd)
    rw [hn]
    have k6 := t6.const
    refine ⟨m6, t6.run, ?_⟩
    have eN : gap + (n : Int) + 1 = N := by omega
    have e7 : hget [(N, tx.getD 0 "")] N = some (tx.getD 0 "") := hget_snoc (kp := []) _ (fun q hq => by cases hq)
    have e8 : hdrop [(N, tx.getD 0 "")] N = [] := hdrop_none (kp := []) _ (fun q hq => by cases hq)
    rw [eN, drained_some e7, e8, drained_none rfl] at e6
    have e9 := (Prod.mk.inj (Prod.mk.inj e6).2).1
    refine wrong_out (N := N.toNat) (x := tx.getD 0 "") ?_ ?_ ?_
    · rw [k6.2.2.2.2.2, c6]
      omega
    · rw [k6.2.2.2.2.2, c6]
      exact hne
    · rw [e9, k6.2.2.2.2.2]
end RP

namespace RP
open PySem PySem.Spec PyProof.Rows L2 L2H
def baaT (s : Int) : TS := if s = 0 then (t0S.thr 0).tell 0 else (((thrs (t0S.send 0) 1 s.toNat).thr 0).tell (thrs (t0S.send 0) 1 s.toNat).re)
def baaB (lag s : Int) : Int := if s = 0 then lag + 1 else lag
def baaO (s : Int) : Int := if s = 0 then 0 else s - 1
def baa (w b N : Int) : TS := (sends (thrTells (baaT (mx2 0 (N - w - b))) (mx2 0 (N - w - b) + 1) (baaB (N - w) (mx2 0 (N - w - b)) - (mx2 0 (N - w - b) + 1)).toNat) (baaB (N - w) (mx2 0 (N - w - b))) w.toNat).tell (baaO (mx2 0 (N - w - b)))
abbrev s_by_an_answer : Stmt := top 17
abbrev N_by_an_answer : List Str := ["window", "back", "ring", "track", "lag", "spare", "old", "base", "k"]
theorem sc_by_an_answer : FnScope N_by_an_answer ["window", "back", "ring"] (defScope s_by_an_answer) := ⟨rfl, rfl, rfl, by decide +kernel, rfl, by decide +kernel, by decide +kernel⟩
def sp_by_an_answer (K : PySem.W.Frag) : Sp := fun vs H Q E => ∃ w b N : Int, vs = [.int w, .int b, .int N] ∧ 1 ≤ w ∧ w ≤ 20 ∧ 0 ≤ b ∧ b ≤ 20 ∧ w ≤ N ∧ N ≤ 200 ∧ ∀ l H', H l = none → Same H H' → StepsAt H' l (baa w b N).st → Q (.ref l) H'
theorem ok_by_an_answer {P : Program} {w : World} {K : PySem.W.Frag} {mg : Str → Option Value} {base : Heap} (F : FnP K ("by_an_answer", none) "by_an_answer" "by_an_answer" s_by_an_answer) (hm : mg "by_an_answer" = some (.ref (He.ga K "by_an_answer"))) (bl : Blt mg) (hTrack : TrackF K) (c_Track : KCal P w K mg base 1 "Track" (He.ga K "Track") (sp_Track_init K)) (m_Track_send : MCal P w K mg base 1 (He.ga K "Track") "send" (sp_Track_send K)) (m_Track_tell : MCal P w K mg base 1 (He.ga K "Track") "tell" (sp_Track_tell K)) (m_Track_through : MCal P w K mg base 2 (He.ga K "Track") "through" (sp_Track_through K)) : Cal P w K mg base 3 "by_an_answer" (sp_by_an_answer K) := by
  refine fn_cal F hm sc_by_an_answer (fun vs H Q E => by walk_at "len") (fun _ _ _ _ _ _ us hl => match us, hl with | [_, _, _], _ => rfl) (fun f cdv A outer s H vs Q E hr h => ?_)
  have hu := hu_of hr
  obtain ⟨w', b, N, rfl, w1, w2, b1, b2, n1, n2, q⟩ := h
  refine ⟨_, (pss_cons (ps_set (i := 3) sc_by_an_answer.nd rfl (Or.inl rfl) (pe_mk0 c_Track (hr.mono (by decide)) (L2N.takes_of rfl rfl rfl rfl)))
  (pss_cons (ps_set (i := 4) sc_by_an_answer.nd rfl (Or.inl rfl) (pe_op op_sub (pv 2) (pv 0)))
  (pss_cons (ps_set (i := 5) sc_by_an_answer.nd rfl (Or.inl rfl) (pe_callB (call_max2 rfl) (by rfl) (bl.max) (by decide +kernel) (pa_cons pe_int (pa_cons (pe_op op_sub (pv 4) (pv 1)) pa_nil))))
  (pss_cons (ps_set (i := 6) sc_by_an_answer.nd rfl (Or.inl rfl) pe_int)
  (pss_cons (ps_set (i := 7) sc_by_an_answer.nd rfl (Or.inl rfl) (pv 4))
  (pss_cons (ps_if (pt_cmpR op_eq (pv 5) pe_int (nomark _))
  (pss_cons (ps_expr (pe_mth (pv 3) m_Track_tell (hr.mono (by decide)) (L2N.takes_of rfl rfl rfl rfl) (pa_cons (pe_mth (pv 3) m_Track_through (hr.mono (by decide)) (L2N.takes_of rfl rfl rfl rfl) (pa_cons pe_int pa_nil)) pa_nil)))
  (pss_one (ps_set (i := 7) sc_by_an_answer.nd rfl (Or.inl rfl) (pe_op op_add (pv 4) pe_int))))
  (pss_cons (ps_expr (pe_mth (pv 3) m_Track_send (hr.mono (by decide)) (L2N.takes_of rfl rfl rfl rfl) (pa_cons pe_int pa_nil)))
  (pss_cons (ps_for (passes_of rfl) rfl (pi_range2 rfl (bl.range) (pa_cons pe_int (pa_cons (pe_op op_add (pv 5) pe_int) pa_nil))) (pg_name (i := 8) sc_by_an_answer.nd rfl (Or.inl rfl))
  (pss_one (ps_set (i := 6) sc_by_an_answer.nd rfl (Or.inl rfl) (pe_mth (pv 3) m_Track_through (hr.mono (by decide)) (L2N.takes_of rfl rfl rfl rfl) (pa_cons (pv 8) pa_nil)))))
  (pss_one (ps_expr (pe_mth (pv 3) m_Track_tell (hr.mono (by decide)) (L2N.takes_of rfl rfl rfl rfl) (pa_cons (pe_mth (pv 3) m_Track_through (hr.mono (by decide)) (L2N.takes_of rfl rfl rfl rfl) (pa_cons pe_int pa_nil)) pa_nil)))))))
  (pss_cons (ps_for (passes_of rfl) rfl (pi_range2 rfl (bl.range) (pa_cons (pe_op op_add (pv 5) pe_int) (pa_cons (pv 7) pa_nil))) (pg_name (i := 8) sc_by_an_answer.nd rfl (Or.inl rfl))
  (pss_one (ps_expr (pe_mth (pv 3) m_Track_tell (hr.mono (by decide)) (L2N.takes_of rfl rfl rfl rfl) (pa_cons (pe_mth (pv 3) m_Track_through (hr.mono (by decide)) (L2N.takes_of rfl rfl rfl rfl) (pa_cons (pv 8) pa_nil)) pa_nil)))))
  (pss_cons (ps_for (passes_of rfl) rfl (pi_range2 rfl (bl.range) (pa_cons (pv 7) (pa_cons (pe_op op_add (pv 7) (pv 0)) pa_nil))) (pg_name (i := 8) sc_by_an_answer.nd rfl (Or.inl rfl))
  (pss_one (ps_expr (pe_mth (pv 3) m_Track_send (hr.mono (by decide)) (L2N.takes_of rfl rfl rfl rfl) (pa_cons (pv 8) pa_nil)))))
  (pss_cons (ps_expr (pe_mth (pv 3) m_Track_tell (hr.mono (by decide)) (L2N.takes_of rfl rfl rfl rfl) (pa_cons (pv 6) pa_nil)))
  (pss_one (ps_ret (pe_fld (pv 3) rfl)))))))))))), ?_⟩
  walk_at "st0"
  refine seq_gen fun N_a h_a => ?_
  simp only [RDa, RDb, RDv, RDk, RDx, RDe, RDd, RDp, RDq, List.getElem?_cons_zero, List.getElem?_cons_succ, List.set_cons_zero, List.set_cons_succ, List.cons.injEq, List.cons_ne_nil, reduceCtorEq, exists_eq_left', exists_eq_left, exists_and_left, and_assoc, exists_const, true_and, and_true, if_true, if_false, false_and, and_false, exists_false, false_or, or_false, true_implies, false_implies, implies_true, forall_eq, forall_eq', Bool.false_eq_true, if_neg, decide_eq_true_eq, Bool.not_eq_true', decide_eq_false_iff_not, Bool.not_true, Bool.not_false, List.length_cons, List.length_nil, sizeLine_eq, Nat.reduceAdd, Nat.reduceLeDiff, Nat.reduceLT, Int.reduceLT, Int.reduceLE, Int.emod_nonneg, ne_eq, Int.reduceEq, not_false_eq_true, not_true_eq_false]
  refine mk_Track (Q := fun v H => N_a [some (.int w'), some (.int b), some (.int N), some v, none, none, none, none, none] H) fun p sl H1 np nsl s1 tr1 => h_a _ _ ?_
  clear h_a
  refine seq_gen fun N_b h_b => ?_
  simp only [RDa, RDb, RDv, RDk, RDx, RDe, RDd, RDp, RDq, List.getElem?_cons_zero, List.getElem?_cons_succ, List.set_cons_zero, List.set_cons_succ, List.cons.injEq, List.cons_ne_nil, reduceCtorEq, exists_eq_left', exists_eq_left, exists_and_left, and_assoc, exists_const, true_and, and_true, if_true, if_false, false_and, and_false, exists_false, false_or, or_false, true_implies, false_implies, implies_true, forall_eq, forall_eq', Bool.false_eq_true, if_neg, decide_eq_true_eq, Bool.not_eq_true', decide_eq_false_iff_not, Bool.not_true, Bool.not_false, List.length_cons, List.length_nil, sizeLine_eq, Nat.reduceAdd, Nat.reduceLeDiff, Nat.reduceLT, Int.reduceLT, Int.reduceLE, Int.emod_nonneg, ne_eq, Int.reduceEq, not_false_eq_true, not_true_eq_false]
  refine h_b _ _ ?_
  clear h_b
  refine seq_gen fun N_c h_c => ?_
  simp only [RDa, RDb, RDv, RDk, RDx, RDe, RDd, RDp, RDq, List.getElem?_cons_zero, List.getElem?_cons_succ, List.set_cons_zero, List.set_cons_succ, List.cons.injEq, List.cons_ne_nil, reduceCtorEq, exists_eq_left', exists_eq_left, exists_and_left, and_assoc, exists_const, true_and, and_true, if_true, if_false, false_and, and_false, exists_false, false_or, or_false, true_implies, false_implies, implies_true, forall_eq, forall_eq', Bool.false_eq_true, if_neg, decide_eq_true_eq, Bool.not_eq_true', decide_eq_false_iff_not, Bool.not_true, Bool.not_false, List.length_cons, List.length_nil, sizeLine_eq, Nat.reduceAdd, Nat.reduceLeDiff, Nat.reduceLT, Int.reduceLT, Int.reduceLE, Int.emod_nonneg, ne_eq, Int.reduceEq, not_false_eq_true, not_true_eq_false]
  rw [show (if N - w' - b > 0 then N - w' - b else 0) = mx2 0 (N - w' - b) from rfl]
  refine h_c _ _ ?_
  clear h_c
  obtain ⟨s, es⟩ : ∃ s, s = mx2 0 (N - w' - b) := ⟨_, rfl⟩
  have hs : 0 ≤ s ∧ s ≤ N - w' := by
    rw [es]
    unfold mx2
    split <;> omega
  have q : ∀ l H', H l = none → Same H H' → StepsAt H' l ((sends (thrTells (baaT s) (s + 1) (baaB (N - w') s - (s + 1)).toNat) (baaB (N - w') s) w'.toNat).tell (baaO s)).st → Q (.ref l) H' := by
    rw [es]
    exact q
  rw [← es] at *
  clear es
  refine seq_gen fun N_d h_d => ?_
  simp only [RDa, RDb, RDv, RDk, RDx, RDe, RDd, RDp, RDq, List.getElem?_cons_zero, List.getElem?_cons_succ, List.set_cons_zero, List.set_cons_succ, List.cons.injEq, List.cons_ne_nil, reduceCtorEq, exists_eq_left', exists_eq_left, exists_and_left, and_assoc, exists_const, true_and, and_true, if_true, if_false, false_and, and_false, exists_false, false_or, or_false, true_implies, false_implies, implies_true, forall_eq, forall_eq', Bool.false_eq_true, if_neg, decide_eq_true_eq, Bool.not_eq_true', decide_eq_false_iff_not, Bool.not_true, Bool.not_false, List.length_cons, List.length_nil, sizeLine_eq, Nat.reduceAdd, Nat.reduceLeDiff, Nat.reduceLT, Int.reduceLT, Int.reduceLE, Int.emod_nonneg, ne_eq, Int.reduceEq, not_false_eq_true, not_true_eq_false]
  refine h_d _ _ ?_
  clear h_d
  refine seq_gen fun N_e h_e => ?_
  simp only [RDa, RDb, RDv, RDk, RDx, RDe, RDd, RDp, RDq, List.getElem?_cons_zero, List.getElem?_cons_succ, List.set_cons_zero, List.set_cons_succ, List.cons.injEq, List.cons_ne_nil, reduceCtorEq, exists_eq_left', exists_eq_left, exists_and_left, and_assoc, exists_const, true_and, and_true, if_true, if_false, false_and, and_false, exists_false, false_or, or_false, true_implies, false_implies, implies_true, forall_eq, forall_eq', Bool.false_eq_true, if_neg, decide_eq_true_eq, Bool.not_eq_true', decide_eq_false_iff_not, Bool.not_true, Bool.not_false, List.length_cons, List.length_nil, sizeLine_eq, Nat.reduceAdd, Nat.reduceLeDiff, Nat.reduceLT, Int.reduceLT, Int.reduceLE, Int.emod_nonneg, ne_eq, Int.reduceEq, not_false_eq_true, not_true_eq_false]
  refine h_e _ _ ?_
  clear h_e
  refine seq_rel (fun σ1 H' => (∃ u8, σ1 = [some (.int w'), some (.int b), some (.int N), some (.ref p), some (.int (N - w')), some (.int s), some (.int (baaO s)), some (.int (baaB (N - w') s)), u8]) ∧ Fr [p, sl] H1 H' ∧ TrAt K H' p sl (baaT s) ∧ (baaT s).st.length ≤ 600) (fun N_f h_f => ?_) ?_
  · obtain ⟨dx1, hp1⟩ := tr1.ins
    simp only [RDa, RDb, RDv, RDk, RDx, RDe, RDd, RDp, RDq, List.getElem?_cons_zero, List.getElem?_cons_succ, List.set_cons_zero, List.set_cons_succ, List.cons.injEq, List.cons_ne_nil, reduceCtorEq, exists_eq_left', exists_eq_left, exists_and_left, and_assoc, exists_const, true_and, and_true, if_true, if_false, false_and, and_false, exists_false, false_or, or_false, true_implies, false_implies, implies_true, forall_eq, forall_eq', Bool.false_eq_true, if_neg, decide_eq_true_eq, Bool.not_eq_true', decide_eq_false_iff_not, Bool.not_true, Bool.not_false, List.length_cons, List.length_nil, sizeLine_eq, Nat.reduceAdd, Nat.reduceLeDiff, Nat.reduceLT, Int.reduceLT, Int.reduceLE, Int.emod_nonneg, ne_eq, Int.reduceEq, not_false_eq_true, not_true_eq_false, hTrack, TrackL, hp1]
    split
    · rename_i c
      refine ⟨p, sl, _, _, rfl, tr1, by decide, fun H2 f2 tr2 => ?_⟩
      refine ⟨p, sl, _, _, rfl, tr2, by decide, fun H3 f3 tr3 => ?_⟩
      refine h_f _ _ ?_
      unfold baaT baaB baaO
      rw [if_pos c, if_pos c, if_pos c]
      refine ⟨⟨_, rfl⟩, f2.trans f3, tr3, by decide⟩
    · rename_i c
      refine ⟨p, sl, _, _, rfl, tr1, by decide, fun H2 f2 tr2 => ?_⟩
      have hre : ∀ i, (thrs (t0S.send 0) 1 i).re = i := by
        intro i
        induction i with
        | zero => rfl
        | succ n ih =>
          show (thrs (t0S.send 0) 1 n).re + 1 = _
          rw [ih]
          rfl
      show tFor _ _ _ _ _ _
      refine for_rcut 1 s.toNat (fun H' => H2 = H') (fun Z hZ => ?_) (fun i σ1 H' => (∃ u8, σ1 = [some (.int w'), some (.int b), some (.int N), some (.ref p), some (.int (N - w')), some (.int s), some (.int (if i = 0 then 0 else (i : Int) - 1)), some (.int (N - w')), u8]) ∧ Fr [p, sl] H1 H' ∧ TrAt K H' p sl (thrs (t0S.send 0) 1 i)) ?_ ?_ ?_
      · simp only [RDa, RDb, RDv, RDk, RDx, RDe, RDd, RDp, RDq, List.getElem?_cons_zero, List.getElem?_cons_succ, List.set_cons_zero, List.set_cons_succ, List.cons.injEq, List.cons_ne_nil, reduceCtorEq, exists_eq_left', exists_eq_left, exists_and_left, and_assoc, exists_const, true_and, and_true, if_true, if_false, false_and, and_false, exists_false, false_or, or_false, true_implies, false_implies, implies_true, forall_eq, forall_eq', Bool.false_eq_true, if_neg, decide_eq_true_eq, Bool.not_eq_true', decide_eq_false_iff_not, Bool.not_true, Bool.not_false, List.length_cons, List.length_nil, sizeLine_eq, Nat.reduceAdd, Nat.reduceLeDiff, Nat.reduceLT, Int.reduceLT, Int.reduceLE, Int.emod_nonneg, ne_eq, Int.reduceEq, not_false_eq_true, not_true_eq_false]
        rw [show s + 1 - 1 = s by omega]
        exact ⟨by omega, by omega, by omega, by omega, hZ _ rfl⟩
      · rintro H' rfl
        exact ⟨⟨_, rfl⟩, f2, tr2⟩
      · rintro i σ1 H' hi ⟨⟨u8, rfl⟩, f', tr'⟩
        obtain ⟨dx', hp'⟩ := tr'.ins
        have hl' := thrs_len (t0S.send 0) 1 i
        simp only [RDa, RDb, RDv, RDk, RDx, RDe, RDd, RDp, RDq, List.getElem?_cons_zero, List.getElem?_cons_succ, List.set_cons_zero, List.set_cons_succ, List.cons.injEq, List.cons_ne_nil, reduceCtorEq, exists_eq_left', exists_eq_left, exists_and_left, and_assoc, exists_const, true_and, and_true, if_true, if_false, false_and, and_false, exists_false, false_or, or_false, true_implies, false_implies, implies_true, forall_eq, forall_eq', Bool.false_eq_true, if_neg, decide_eq_true_eq, Bool.not_eq_true', decide_eq_false_iff_not, Bool.not_true, Bool.not_false, List.length_cons, List.length_nil, sizeLine_eq, Nat.reduceAdd, Nat.reduceLeDiff, Nat.reduceLT, Int.reduceLT, Int.reduceLE, Int.emod_nonneg, ne_eq, Int.reduceEq, not_false_eq_true, not_true_eq_false, hTrack, TrackL, hp']
        refine ⟨p, sl, _, _, rfl, tr', by show (thrs (t0S.send 0) 1 i).st.length < 90000; rw [hl']; show 1 + 2 * i < _; omega, fun H4 f4 tr4 => ?_⟩
        have fin : Fr [p, sl] H1 H4 ∧ TrAt K H4 p sl (thrs (t0S.send 0) 1 (i + 1)) := ⟨f'.trans f4, tr4⟩
        have eo : (thrs (t0S.send 0) 1 i).re = ((i + 1 : Nat) : Int) - 1 := by rw [hre]; omega
        rw [eo]
        exact ⟨rfl, ⟨_, rfl⟩, fin⟩
      · rintro σ1 H3 ⟨⟨u8, rfl⟩, f_H3, tr3⟩
        rw [if_neg (by omega), show ((s.toNat : Nat) : Int) - 1 = s - 1 by omega]
        obtain ⟨dx3, hp3⟩ := tr3.ins
        simp only [RDa, RDb, RDv, RDk, RDx, RDe, RDd, RDp, RDq, List.getElem?_cons_zero, List.getElem?_cons_succ, List.set_cons_zero, List.set_cons_succ, List.cons.injEq, List.cons_ne_nil, reduceCtorEq, exists_eq_left', exists_eq_left, exists_and_left, and_assoc, exists_const, true_and, and_true, if_true, if_false, false_and, and_false, exists_false, false_or, or_false, true_implies, false_implies, implies_true, forall_eq, forall_eq', Bool.false_eq_true, if_neg, decide_eq_true_eq, Bool.not_eq_true', decide_eq_false_iff_not, Bool.not_true, Bool.not_false, List.length_cons, List.length_nil, sizeLine_eq, Nat.reduceAdd, Nat.reduceLeDiff, Nat.reduceLT, Int.reduceLT, Int.reduceLE, Int.emod_nonneg, ne_eq, Int.reduceEq, not_false_eq_true, not_true_eq_false, hTrack, TrackL, hp3]
        have hl3 : (thrs (t0S.send 0) 1 s.toNat).st.length ≤ 401 := by
          rw [thrs_len]
          show 1 + 2 * s.toNat ≤ _
          omega
        refine ⟨p, sl, _, _, rfl, tr3, by omega, fun H4 f4 tr4 => ?_⟩
        refine ⟨p, sl, _, _, rfl, tr4, by rw [thr_len]; omega, fun H5 f5 tr5 => ?_⟩
        refine h_f _ _ ?_
        unfold baaT baaB baaO
        rw [if_neg c, if_neg c, if_neg c]
        refine ⟨⟨_, rfl⟩, (f_H3.trans f4).trans f5, tr5, ?_⟩
        rw [tell_len, thr_len]
        omega
  rintro _ H2 ⟨⟨u8, rfl⟩, f_H2, tr2, hl2⟩
  obtain ⟨B, eB⟩ : ∃ B, B = baaB (N - w') s := ⟨_, rfl⟩
  have hB : s ≤ B ∧ B ≤ 201 := by
    rw [eB]
    unfold baaB
    split <;> omega
  rw [← eB] at q ⊢
  obtain ⟨T1, eT1⟩ : ∃ t, t = baaT s := ⟨_, rfl⟩
  rw [← eT1] at q tr2 hl2
  refine seq_rel (fun σ1 H' => (∃ u8, σ1 = [some (.int w'), some (.int b), some (.int N), some (.ref p), some (.int (N - w')), some (.int s), some (.int (baaO s)), some (.int B), u8]) ∧ Fr [p, sl] H1 H' ∧ TrAt K H' p sl (thrTells T1 (s + 1) (B - (s + 1)).toNat)) (fun N_h h_h => ?_) ?_
  · refine for_rcut (s + 1) (B - (s + 1)).toNat (fun H' => H2 = H') (fun Z hZ => ?_) (fun i σ1 H' => (∃ u8, σ1 = [some (.int w'), some (.int b), some (.int N), some (.ref p), some (.int (N - w')), some (.int s), some (.int (baaO s)), some (.int B), u8]) ∧ Fr [p, sl] H1 H' ∧ TrAt K H' p sl (thrTells T1 (s + 1) i)) ?_ ?_ ?_
    · simp only [RDa, RDb, RDv, RDk, RDx, RDe, RDd, RDp, RDq, List.getElem?_cons_zero, List.getElem?_cons_succ, List.set_cons_zero, List.set_cons_succ, List.cons.injEq, List.cons_ne_nil, reduceCtorEq, exists_eq_left', exists_eq_left, exists_and_left, and_assoc, exists_const, true_and, and_true, if_true, if_false, false_and, and_false, exists_false, false_or, or_false, true_implies, false_implies, implies_true, forall_eq, forall_eq', Bool.false_eq_true, if_neg, decide_eq_true_eq, Bool.not_eq_true', decide_eq_false_iff_not, Bool.not_true, Bool.not_false, List.length_cons, List.length_nil, sizeLine_eq, Nat.reduceAdd, Nat.reduceLeDiff, Nat.reduceLT, Int.reduceLT, Int.reduceLE, Int.emod_nonneg, ne_eq, Int.reduceEq, not_false_eq_true, not_true_eq_false]
      exact ⟨by omega, by omega, by omega, by omega, hZ _ rfl⟩
    · rintro H' rfl
      exact ⟨⟨_, rfl⟩, f_H2, tr2⟩
    · rintro i σ1 H' hi ⟨⟨u8, rfl⟩, f', tr'⟩
      obtain ⟨dx', hp'⟩ := tr'.ins
      have hl' := thrTells_len T1 (s + 1) i
      simp only [RDa, RDb, RDv, RDk, RDx, RDe, RDd, RDp, RDq, List.getElem?_cons_zero, List.getElem?_cons_succ, List.set_cons_zero, List.set_cons_succ, List.cons.injEq, List.cons_ne_nil, reduceCtorEq, exists_eq_left', exists_eq_left, exists_and_left, and_assoc, exists_const, true_and, and_true, if_true, if_false, false_and, and_false, exists_false, false_or, or_false, true_implies, false_implies, implies_true, forall_eq, forall_eq', Bool.false_eq_true, if_neg, decide_eq_true_eq, Bool.not_eq_true', decide_eq_false_iff_not, Bool.not_true, Bool.not_false, List.length_cons, List.length_nil, sizeLine_eq, Nat.reduceAdd, Nat.reduceLeDiff, Nat.reduceLT, Int.reduceLT, Int.reduceLE, Int.emod_nonneg, ne_eq, Int.reduceEq, not_false_eq_true, not_true_eq_false, hTrack, TrackL, hp']
      refine ⟨p, sl, _, _, rfl, tr', by show (thrTells T1 (s + 1) i).st.length < 90000; rw [hl']; omega, fun H6 f6 tr6 => ?_⟩
      refine ⟨p, sl, _, _, rfl, tr6, ?_, fun H7 f7 tr7 => ?_⟩
      · rw [thr_len, hl']
        omega
      have fin : Fr [p, sl] H1 H7 ∧ TrAt K H7 p sl (thrTells T1 (s + 1) (i + 1)) := ⟨(f'.trans f6).trans f7, tr7⟩
      first
      | exact fin
      | exact ⟨⟨_, rfl⟩, fin⟩
      | exact ⟨_, rfl, fin⟩
    · rintro σ1 H' ⟨⟨u8, rfl⟩, f', tr'⟩
      exact h_h _ _ ⟨⟨u8, rfl⟩, f', tr'⟩
  rintro _ H3 ⟨⟨u8', rfl⟩, f_H3, tr3⟩
  have hl3 := thrTells_len T1 (s + 1) (B - (s + 1)).toNat
  obtain ⟨T2, eT2⟩ : ∃ t, t = thrTells T1 (s + 1) (B - (s + 1)).toNat := ⟨_, rfl⟩
  rw [← eT2] at q tr3 hl3
  refine seq_rel (fun σ1 H' => (∃ u8, σ1 = [some (.int w'), some (.int b), some (.int N), some (.ref p), some (.int (N - w')), some (.int s), some (.int (baaO s)), some (.int B), u8]) ∧ Fr [p, sl] H1 H' ∧ TrAt K H' p sl (sends T2 B w'.toNat)) (fun N_i h_i => ?_) ?_
  · refine for_rcut B w'.toNat (fun H' => H3 = H') (fun Z hZ => ?_) (fun i σ1 H' => (∃ u8, σ1 = [some (.int w'), some (.int b), some (.int N), some (.ref p), some (.int (N - w')), some (.int s), some (.int (baaO s)), some (.int B), u8]) ∧ Fr [p, sl] H1 H' ∧ TrAt K H' p sl (sends T2 B i)) ?_ ?_ ?_
    · simp only [RDa, RDb, RDv, RDk, RDx, RDe, RDd, RDp, RDq, List.getElem?_cons_zero, List.getElem?_cons_succ, List.set_cons_zero, List.set_cons_succ, List.cons.injEq, List.cons_ne_nil, reduceCtorEq, exists_eq_left', exists_eq_left, exists_and_left, and_assoc, exists_const, true_and, and_true, if_true, if_false, false_and, and_false, exists_false, false_or, or_false, true_implies, false_implies, implies_true, forall_eq, forall_eq', Bool.false_eq_true, if_neg, decide_eq_true_eq, Bool.not_eq_true', decide_eq_false_iff_not, Bool.not_true, Bool.not_false, List.length_cons, List.length_nil, sizeLine_eq, Nat.reduceAdd, Nat.reduceLeDiff, Nat.reduceLT, Int.reduceLT, Int.reduceLE, Int.emod_nonneg, ne_eq, Int.reduceEq, not_false_eq_true, not_true_eq_false]
      rw [show B + w' - B = w' by omega]
      exact ⟨by omega, by omega, by omega, by omega, hZ _ rfl⟩
    · rintro H' rfl
      exact ⟨⟨_, rfl⟩, f_H3, tr3⟩
    · rintro i σ1 H' hi ⟨⟨u8, rfl⟩, f', tr'⟩
      obtain ⟨dx', hp'⟩ := tr'.ins
      have hl' := sends_len T2 B i
      simp only [RDa, RDb, RDv, RDk, RDx, RDe, RDd, RDp, RDq, List.getElem?_cons_zero, List.getElem?_cons_succ, List.set_cons_zero, List.set_cons_succ, List.cons.injEq, List.cons_ne_nil, reduceCtorEq, exists_eq_left', exists_eq_left, exists_and_left, and_assoc, exists_const, true_and, and_true, if_true, if_false, false_and, and_false, exists_false, false_or, or_false, true_implies, false_implies, implies_true, forall_eq, forall_eq', Bool.false_eq_true, if_neg, decide_eq_true_eq, Bool.not_eq_true', decide_eq_false_iff_not, Bool.not_true, Bool.not_false, List.length_cons, List.length_nil, sizeLine_eq, Nat.reduceAdd, Nat.reduceLeDiff, Nat.reduceLT, Int.reduceLT, Int.reduceLE, Int.emod_nonneg, ne_eq, Int.reduceEq, not_false_eq_true, not_true_eq_false, hTrack, TrackL, hp']
      refine ⟨p, sl, _, _, rfl, tr', by show (sends T2 B i).st.length < 100000; rw [hl']; omega, fun H6 f6 tr6 => ?_⟩
      have fin : Fr [p, sl] H1 H6 ∧ TrAt K H6 p sl (sends T2 B (i + 1)) := ⟨f'.trans f6, tr6⟩
      first
      | exact fin
      | exact ⟨⟨_, rfl⟩, fin⟩
      | exact ⟨_, rfl, fin⟩
    · rintro σ1 H' ⟨⟨u8, rfl⟩, f', tr'⟩
      exact h_i _ _ ⟨⟨u8, rfl⟩, f', tr'⟩
  rintro _ H4 ⟨⟨u8'', rfl⟩, f_H4, tr4⟩
  have hl4 := sends_len T2 B w'.toNat
  obtain ⟨dx4, hp4⟩ := tr4.ins
  refine seq_gen fun N_j h_j => ?_
  simp only [RDa, RDb, RDv, RDk, RDx, RDe, RDd, RDp, RDq, List.getElem?_cons_zero, List.getElem?_cons_succ, List.set_cons_zero, List.set_cons_succ, List.cons.injEq, List.cons_ne_nil, reduceCtorEq, exists_eq_left', exists_eq_left, exists_and_left, and_assoc, exists_const, true_and, and_true, if_true, if_false, false_and, and_false, exists_false, false_or, or_false, true_implies, false_implies, implies_true, forall_eq, forall_eq', Bool.false_eq_true, if_neg, decide_eq_true_eq, Bool.not_eq_true', decide_eq_false_iff_not, Bool.not_true, Bool.not_false, List.length_cons, List.length_nil, sizeLine_eq, Nat.reduceAdd, Nat.reduceLeDiff, Nat.reduceLT, Int.reduceLT, Int.reduceLE, Int.emod_nonneg, ne_eq, Int.reduceEq, not_false_eq_true, not_true_eq_false, hTrack, TrackL, hp4]
  refine ⟨p, sl, _, _, rfl, tr4, by omega, fun H5 f5 tr5 => h_j _ _ ?_⟩
  clear h_j
  have f_H5 := f_H4.trans f5
  obtain ⟨dx5, hp5⟩ := tr5.ins
  simp only [RDa, RDb, RDv, RDk, RDx, RDe, RDd, RDp, RDq, List.getElem?_cons_zero, List.getElem?_cons_succ, List.set_cons_zero, List.set_cons_succ, List.cons.injEq, List.cons_ne_nil, reduceCtorEq, exists_eq_left', exists_eq_left, exists_and_left, and_assoc, exists_const, true_and, and_true, if_true, if_false, false_and, and_false, exists_false, false_or, or_false, true_implies, false_implies, implies_true, forall_eq, forall_eq', Bool.false_eq_true, if_neg, decide_eq_true_eq, Bool.not_eq_true', decide_eq_false_iff_not, Bool.not_true, Bool.not_false, List.length_cons, List.length_nil, sizeLine_eq, Nat.reduceAdd, Nat.reduceLeDiff, Nat.reduceLT, Int.reduceLT, Int.reduceLE, Int.emod_nonneg, ne_eq, Int.reduceEq, not_false_eq_true, not_true_eq_false, hTrack, TrackL, hp5]
  exact q sl H5 nsl (fun c o e => f_H5 _ _ (by
    simp only [List.mem_cons, List.not_mem_nil, or_false, not_or]
    exact ⟨ne_of_none e np, ne_of_none e nsl⟩) (s1 _ _ e)) tr5.st
end RP

namespace RP
open PySem PySem.Spec PyProof.Rows L2
/-! the steps of breaking by an old answer -/
def runK (tx : List Str) : Int → Nat → List (Int × Str)
  | _, 0 => []
  | k, n + 1 => (k, tx.getD k.toNat "") :: runK tx (k + 1) n
theorem runK_snoc (tx : List Str) : ∀ (n : Nat) (k : Int), runK tx k (n + 1) = runK tx k n ++ [(k + n, tx.getD (k + n).toNat "")]
  | 0, k => by
    show [(k, _)] = [] ++ [(k + ((0 : Nat) : Int), _)]
    rw [show k + ((0 : Nat) : Int) = k by omega]
    rfl
  | n + 1, k => by
    show (k, _) :: runK tx (k + 1) (n + 1) = _
    rw [runK_snoc tx n (k + 1), show k + 1 + (n : Int) = k + ((n + 1 : Nat) : Int) by omega]
    rfl
theorem runK_mem {tx : List Str} : ∀ {n : Nat} {k : Int} {q : Int × Str}, q ∈ runK tx k n → k ≤ q.1 ∧ q.1 < k + n
  | 0, _, _, h => by cases h
  | n + 1, k, q, h => by
    rcases List.mem_cons.mp h with e | h
    · rw [e]
      show k ≤ k ∧ k < k + ((n + 1 : Nat) : Int)
      omega
    · have := runK_mem h
      omega
theorem drained_run {tx : List Str} : ∀ (n : Nat) (k : Int), 0 ≤ k → k + n ≤ tx.length → drained k (tx.take k.toNat) (runK tx k n) = (k + n, tx.take (k + n).toNat, [])
  | 0, k, _, _ => by
    rw [show k + ((0 : Nat) : Int) = k by omega]
    exact drained_none rfl
  | n + 1, k, h0, h => by
    have e1 : hget (runK tx k (n + 1)) k = some (tx.getD k.toNat "") := by
      show (((k, tx.getD k.toNat "") :: runK tx (k + 1) n).find? fun p => decide (p.1 = k)).map (·.2) = _
      rw [List.find?_cons, decide_eq_true rfl]
      rfl
    have e2 : hdrop (runK tx k (n + 1)) k = runK tx (k + 1) n := by
      show (((k, tx.getD k.toNat "") :: runK tx (k + 1) n).filter fun p => decide (p.1 ≠ k)) = _
      rw [List.filter_cons, decide_eq_false (by simp)]
      simp only [Bool.false_eq_true, if_false]
      exact List.filter_eq_self.mpr fun q hq => decide_eq_true (by have := runK_mem hq; omega)
    rw [drained_some e1, e2, take_next h0 (by omega), drained_run n (k + 1) (by omega) (by omega), show k + 1 + (n : Int) = k + ((n + 1 : Nat) : Int) by omega]
structure BP (m0 : M) (t : TS) (m : M) (j : Nat) : Prop where
  tm : TM m0 t m
  base : m.base = 0
  top : m.top = 1 + j
  want : m.want = 0
  out : m.out = []
  kept : m.kept = runK m0.tx 1 j
  an : m.an = List.replicate j 0
theorem BP.thr {m0 m : M} {t : TS} {j : Nat} (p : BP m0 t m j) (hw : 1 + (j : Int) < m0.w) (hl : 1 + (j : Int) < m0.tx.length) (hr : 1 + (j : Int) < m0.r) (hg : 1 + (j : Int) < m0.ring) (hd : 0 ≤ m0.d) : ∃ m', BP m0 (t.thr (1 + j)) m' (j + 1) := by
  have c := p.tm.const
  have hc1 : m.base ≤ 1 + (j : Int) := by rw [p.base]; omega
  have hc2 : 1 + (j : Int) ≤ m.last := by
    rw [last_le, p.top, p.base, c.1, c.2.2.2.2.2]
    omega
  have t1 := p.tm.send hc1 hc2
  have hls : (sentM m (1 + j)).ls = m.ls ++ [(1 + (j : Int), m0.tx.getD (1 + (j : Int)).toNat "")] := by
    show m.ls ++ [((1 + (j : Int)) % m.ring, m.tx.getD (1 + (j : Int)).toNat "")] = _
    rw [c.2.2.2.2.1, c.2.2.2.2.2, Int.emod_eq_of_lt (by omega) hg]
  have hT : isT t.po (sentM m (1 + j)).ls.length (sentM m (1 + j)).d = true := by
    rw [isT_iff, hls, List.length_append, p.tm.po]
    have e : (sentM m (1 + j)).d = m0.d := c.2.2.1
    rw [e]
    show 0 ≤ (m.ls.length : Int) ∧ ((m.ls.length + 1 : Nat) : Int) - 1 - m0.d ≤ (m.ls.length : Int) ∧ (m.ls.length : Int) < ((m.ls.length + 1 : Nat) : Int)
    omega
  have t2 := t1.hand hT
  have eg : (sentM m (1 + j)).ls.getD t.po.toNat (0, "") = (1 + (j : Int), m0.tx.getD (1 + (j : Int)).toNat "") := by
    rw [hls, p.tm.po, Int.toNat_natCast, List.getD_eq_getElem?_getD, List.getElem?_append_right (Nat.le_refl _), Nat.sub_self]
    rfl
  rw [eg] at t2
  have ek : runK m0.tx 1 j ++ [(1 + (j : Int), m0.tx.getD (1 + (j : Int)).toNat "")] = runK m0.tx 1 (j + 1) := (runK_snoc _ _ _).symm
  have ec : tkCame m.r m.ring m.want m.out m.kept (1 + (j : Int)) (m0.tx.getD (1 + (j : Int)).toNat "") = (0, [], runK m0.tx 1 (j + 1)) := by
    rw [p.want, p.out, p.kept, c.2.2.2.2.1, c.2.1]
    unfold tkCame tkPut
    rw [show (1 + (j : Int) - 0) % m0.ring = 1 + j by rw [Int.sub_zero]; exact Int.emod_eq_of_lt (by omega) hg, Int.zero_add, if_pos ⟨hr, hget_none.mpr fun q hq => by have := runK_mem hq; omega⟩, ek]
    exact drained_none (hget_none.mpr fun q hq => by have := runK_mem hq; omega)
  refine ⟨_, t2, p.base, ?_, ?_, ?_, ?_, ?_⟩
  · show sTop m.top (1 + j) = _
    unfold sTop
    rw [if_pos p.top.symm, p.top]
    omega
  · show (tkCame m.r m.ring m.want m.out m.kept (1 + (j : Int)) (m0.tx.getD (1 + (j : Int)).toNat "")).1 = _
    rw [ec]
  · show (tkCame m.r m.ring m.want m.out m.kept (1 + (j : Int)) (m0.tx.getD (1 + (j : Int)).toNat "")).2.1 = _
    rw [ec]
  · show (tkCame m.r m.ring m.want m.out m.kept (1 + (j : Int)) (m0.tx.getD (1 + (j : Int)).toNat "")).2.2 = _
    rw [ec]
  · show m.an ++ [(tkCame m.r m.ring m.want m.out m.kept (1 + (j : Int)) (m0.tx.getD (1 + (j : Int)).toNat "")).1 % m.ring] = _
    rw [ec, p.an, List.replicate_succ']
    show _ ++ [(0 : Int) % m.ring] = _
    rw [Int.zero_emod]
theorem BP.thrs {m0 : M} : ∀ (n : Nat) {m : M} {t : TS}, BP m0 t m 0 → (n : Int) < m0.w → (n : Int) < m0.tx.length → (n : Int) < m0.r → (n : Int) < m0.ring → 0 ≤ m0.d → ∃ m', BP m0 (RP.thrs t 1 n) m' n
  | 0, m, t, p, _, _, _, _, _ => ⟨m, p⟩
  | n + 1, m, t, p, hw, hl, hr, hg, hd => by
    obtain ⟨m1, p1⟩ := BP.thrs n p (by omega) (by omega) (by omega) (by omega) hd
    exact p1.thr (by omega) (by omega) (by omega) (by omega) hd
/-- texts are sent and none is handed -/
theorem PS.sends {m0 : M} {bs k : Int} {kp : List (Int × Str)} {w2 : Int} {o2 : List Str} : ∀ (n : Nat) {m : M} {t : TS}, TM m0 t m → m.base = bs → m.top = k → m.out = o2 → bs ≤ k → k + n ≤ bs + m0.w → k + n ≤ m0.tx.length →
    ∃ m', TM m0 (RP.sends t k n) m' ∧ m'.base = bs ∧ m'.top = k + n ∧ m'.out = o2 ∧ m'.an = m.an
  | 0, m, t, p, h1, h2, h3, _, _, _ => ⟨m, p, h1, by rw [h2]; omega, h3, rfl⟩
  | n + 1, m, t, p, h1, h2, h3, hb, hw, hl => by
    obtain ⟨m1, p1, b1, t1, o1, a1⟩ := PS.sends (kp := kp) (w2 := w2) n p h1 h2 h3 hb (by omega) (by omega)
    have c := p1.const
    have hc2 : k + (n : Int) ≤ m1.last := by
      rw [last_le, b1, t1, c.1, c.2.2.2.2.2]
      omega
    refine ⟨_, p1.send (by rw [b1]; omega) hc2, b1, ?_, o1, a1⟩
    show sTop m1.top (k + n) = _
    unfold sTop
    rw [if_pos t1.symm, t1]
    omega
theorem tail_wrong {m0 m : M} {t : TS} {B O v : Int} {an1 an2 : List Int} (p : PS m0 t m B B []) (h0 : 0 ≤ B) (hw : 0 < m0.w) (hl : B + m0.w ≤ m0.tx.length) (ha : m.an = an1 ++ v :: an2) (ho : O = an1.length) (hb : (an2.length : Int) ≤ m0.b) (hv : (v - B) % m0.ring = m0.w) :
    ∃ m', m0.run ((RP.sends t B m0.w.toNat).tell O).st = some m' ∧ m'.isWrong = true := by
  obtain ⟨m1, p1, b1, t1, o1, a1⟩ := PS.sends (kp := []) (w2 := 0) m0.w.toNat p.tm p.base p.top p.out (Int.le_refl _) (by omega) (by omega)
  have c := p1.const
  have hT : isT O m1.an.length m1.b = true := by
    rw [isT_iff, a1, ha, c.2.2.2.1, ho]
    simp only [List.length_append, List.length_cons]
    omega
  have q := p1.tell hT
  refine ⟨_, q.run, wrong_base ?_⟩
  have ev : m1.an.getD O.toNat 0 = v := by
    rw [a1, ha, ho, Int.toNat_natCast, List.getD_eq_getElem?_getD, List.getElem?_append_right (Nat.le_refl _), Nat.sub_self]
    rfl
  show (m1.out.length : Int) < sBase m1.base m1.top m1.ring (m1.an.getD O.toNat 0)
  rw [ev, b1, t1, c.2.2.2.2.1, o1]
  unfold sBase
  rw [hv, if_pos (by omega), List.length_take]
  omega
theorem baa_wrong {w r d b N : Int} {tx : List Str} (hr : 1 ≤ r) (hrw : r ≤ w) (hd : 0 ≤ d) (hb : 0 ≤ b) (hge : w + r + d ≤ N) (hlt : N < w + r + b) (hl : (tx.length : Int) = N + 1) : ∃ m, (M.begun w r d b N tx).run (baa w b N).st = some m ∧ m.isWrong = true := by
  obtain ⟨s, es⟩ : ∃ s, s = mx2 0 (N - w - b) := ⟨_, rfl⟩
  have hs : (s = 0 ∧ N - w - b ≤ 0) ∨ (s = N - w - b ∧ 0 < s) := by
    rw [es]
    unfold mx2
    split <;> omega
  unfold baa
  rw [← es]
  clear es
  obtain ⟨m0, em⟩ : ∃ m0, m0 = M.begun w r d b N tx := ⟨_, rfl⟩
  rw [← em]
  have c0 : m0.w = w ∧ m0.r = r ∧ m0.d = d ∧ m0.b = b ∧ m0.ring = N ∧ m0.tx = tx := by rw [em]; exact ⟨rfl, rfl, rfl, rfl, rfl, rfl⟩
  have p0 : PS m0 t0S m0 0 0 [] := by rw [em]; exact ⟨⟨rfl, rfl, rfl⟩, rfl, rfl, rfl, rfl, rfl⟩
  have l0 : m0.ls = [] ∧ m0.an = [] := by rw [em]; exact ⟨rfl, rfl⟩
  clear em
  obtain ⟨c1, c2, c3, c4, c5, c6⟩ := c0
  have ew : w.toNat = m0.w.toNat := by rw [c1]
  rw [ew]
  have sub : ∀ k : Int, 0 ≤ k → k = N - w ∨ k = N - w + 1 → (k - (N - w) - k) % N = w := by
    intro k _ _
    rw [show k - (N - w) - k = w - N by omega, Int.sub_emod_right]
    exact Int.emod_eq_of_lt (by omega) (by omega)
  rcases hs with ⟨h1, h2⟩ | ⟨h1, h2⟩
  · rw [h1]
    unfold baaT baaB baaO
    rw [if_pos rfl, if_pos rfl, if_pos rfl]
    obtain ⟨m1, p1, e1, e2, e3⟩ := p0.thr (Int.le_refl _) (Int.le_refl _) (by rw [c1]; omega) (by rw [c6]; omega) (fun q hq => by cases hq) (by rw [c2]; omega) (by rw [c3]; exact hd)
    rw [l0.2] at e2 e3
    have p2 := p1.tell (an := []) e2 (by omega) (by rw [c5]; omega) (by rw [c4]; omega)
    obtain ⟨m3, p3, _, ⟨an, ea, la⟩⟩ := p2.thrTells (N - w + 1 - (0 + 1)).toNat (by omega) (by rw [c6]; omega) (by rw [c1]; omega) (by rw [c5]; omega) (by rw [c2]; omega) (by rw [c3]; exact hd) (by rw [c4]; exact hb)
    rw [show (0 : Int) + 1 + (((N - w + 1 - (0 + 1)).toNat : Nat) : Int) = N - w + 1 by omega] at p3
    refine tail_wrong (an1 := []) (v := (0 + 1) % m0.ring) (an2 := an) p3 (by omega) (by omega) (by rw [c1, c6]; omega) ?_ rfl (by rw [c4]; omega) ?_
    · rw [ea]
      show m1.an ++ an = _
      rw [e2]
      rfl
    · rw [c5, c1, Int.emod_sub_emod]
      rw [show 0 + 1 - (N - w + 1) = w - N by omega, Int.sub_emod_right]
      exact Int.emod_eq_of_lt (by omega) (by omega)
  · have hne : ¬ s = 0 := by omega
    unfold baaT baaB baaO
    rw [if_neg hne, if_neg hne, if_neg hne]
    have hs0 : m0.base ≤ 0 ∧ (0 : Int) ≤ m0.last := by
      rw [last_le, p0.base, p0.top, c1, c6]
      omega
    have q0 := p0.tm.send hs0.1 hs0.2
    have b0 : BP m0 (t0S.send 0) (sentM m0 0) 0 := ⟨q0, p0.base, by show sTop m0.top 0 = _; rw [p0.top]; rfl, p0.want, by show m0.out = []; rw [p0.out]; rfl, p0.kept, l0.2⟩
    obtain ⟨m1, b1⟩ := b0.thrs s.toNat (by rw [c1]; omega) (by rw [c6]; omega) (by rw [c2]; omega) (by rw [c5]; omega) (by rw [c3]; exact hd)
    obtain ⟨t1, et1⟩ : ∃ t1, t1 = thrs (t0S.send 0) 1 s.toNat := ⟨_, rfl⟩
    rw [← et1] at b1 ⊢
    have k1 := b1.tm.const
    have hs1 : m1.base ≤ 0 ∧ (0 : Int) ≤ m1.last := by
      rw [last_le, b1.base, b1.top, k1.1, k1.2.2.2.2.2, c1, c6]
      omega
    have q1 := b1.tm.send hs1.1 hs1.2
    have hls : (sentM m1 0).ls = m1.ls ++ [((0 : Int) % m0.ring, tx.getD 0 "")] := by
      show m1.ls ++ [((0 : Int) % m1.ring, m1.tx.getD (0 : Int).toNat "")] = _
      rw [k1.2.2.2.2.2, k1.2.2.2.2.1, c6]
      rfl
    have hT : isT t1.po (sentM m1 0).ls.length (sentM m1 0).d = true := by
      rw [isT_iff, hls, List.length_append, b1.tm.po]
      have e : (sentM m1 0).d = m0.d := k1.2.2.1
      rw [e, c3]
      show 0 ≤ (m1.ls.length : Int) ∧ ((m1.ls.length + 1 : Nat) : Int) - 1 - d ≤ (m1.ls.length : Int) ∧ (m1.ls.length : Int) < ((m1.ls.length + 1 : Nat) : Int)
      omega
    have q2 := q1.hand hT
    have eg : (sentM m1 0).ls.getD t1.po.toNat (0, "") = ((0 : Int) % m0.ring, tx.getD 0 "") := by
      rw [hls, b1.tm.po, Int.toNat_natCast, List.getD_eq_getElem?_getD, List.getElem?_append_right (Nat.le_refl _), Nat.sub_self]
      rfl
    rw [eg] at q2
    have ec : tkCame m1.r m1.ring m1.want m1.out m1.kept ((0 : Int) % m0.ring) (tx.getD 0 "") = (s + 1, tx.take (s + 1).toNat, []) := by
      rw [b1.want, b1.out, b1.kept, k1.2.2.2.2.1, came_want (by rw [k1.2.1, c2]; omega) (fun q hq => by have := runK_mem hq; omega), c6]
      have e1 : ([] : List Str) ++ [tx.getD 0 ""] = tx.take ((0 : Int) + 1).toNat := take_next (tx := tx) (k := 0) (Int.le_refl _) (by omega)
      rw [e1, show (0 : Int) + 1 = 1 by rfl, drained_run s.toNat 1 (by decide) (by omega), show (1 : Int) + (s.toNat : Int) = s + 1 by omega]
    have p4 : PS m0 (t1.thr 0) ((sentM m1 0).handed ((0 : Int) % m0.ring, tx.getD 0 "")) 0 (s + 1) [] := by
      refine ⟨q2, b1.base, ?_, ?_, ?_, ?_⟩
      · show sTop m1.top 0 = _
        unfold sTop
        rw [b1.top, if_neg (by omega)]
        omega
      · show (tkCame m1.r m1.ring m1.want m1.out m1.kept ((0 : Int) % m0.ring) (tx.getD 0 "")).1 = _
        rw [ec]
      · show (tkCame m1.r m1.ring m1.want m1.out m1.kept ((0 : Int) % m0.ring) (tx.getD 0 "")).2.1 = _
        rw [ec, c6]
      · show (tkCame m1.r m1.ring m1.want m1.out m1.kept ((0 : Int) % m0.ring) (tx.getD 0 "")).2.2 = _
        rw [ec]
    have ean : ((sentM m1 0).handed ((0 : Int) % m0.ring, tx.getD 0 "")).an = List.replicate s.toNat 0 ++ [(s + 1) % m0.ring] := by
      show m1.an ++ [(tkCame m1.r m1.ring m1.want m1.out m1.kept ((0 : Int) % m0.ring) (tx.getD 0 "")).1 % m1.ring] = _
      rw [ec, b1.an, k1.2.2.2.2.1]
    have er : t1.re = ((List.replicate s.toNat (0 : Int)).length : Nat) := by
      rw [b1.tm.re, b1.an]
    have p5 := p4.tell ean (by omega) (by rw [c5]; omega) (by rw [c4]; omega)
    rw [← er] at p5
    obtain ⟨m6, p6, _, ⟨an, ea, la⟩⟩ := p5.thrTells (N - w - (s + 1)).toNat (by omega) (by rw [c6]; omega) (by rw [c1]; omega) (by rw [c5]; omega) (by rw [c2]; omega) (by rw [c3]; exact hd) (by rw [c4]; exact hb)
    rw [show s + 1 + (((N - w - (s + 1)).toNat : Nat) : Int) = N - w by omega] at p6
    obtain ⟨n, hn⟩ : ∃ n, s.toNat = n + 1 := ⟨s.toNat - 1, by omega⟩
    refine tail_wrong (an1 := List.replicate n 0) (v := 0) (an2 := [(s + 1) % m0.ring] ++ an) p6 (by omega) (by omega) (by rw [c1, c6]; omega) ?_ ?_ ?_ ?_
    · rw [ea]
      show ((sentM m1 0).handed ((0 : Int) % m0.ring, tx.getD 0 "")).an ++ an = _
      rw [ean, hn, List.replicate_succ', List.append_assoc, List.append_assoc]
      rfl
    · rw [List.length_replicate]
      omega
    · rw [List.length_append, c4, la]
      show ((1 + _ : Nat) : Int) ≤ b
      omega
    · rw [c5, c1, show 0 - (N - w) = w - N by omega, Int.sub_emod_right]
      exact Int.emod_eq_of_lt (by omega) (by omega)
end RP

namespace RP
open PySem PySem.Spec PyProof.Rows L2 L2H
abbrev s_breaking : Stmt := top 18
abbrev N_breaking : List Str := ["bounds", "ring", "window", "room", "delay", "back"]
theorem sc_breaking : FnScope N_breaking ["bounds", "ring"] (defScope s_breaking) := ⟨rfl, rfl, rfl, by decide +kernel, rfl, by decide +kernel, by decide +kernel⟩
def sp_breaking (K : PySem.W.Frag) : Sp := fun vs H Q E => ∃ x y, vs = [x, y] ∧ KnI H x ∧ Kn H y ∧
  (boundsV H x = false → E (.ref (He.ga K "BadBounds")) none H) ∧
  (boundsV H x = true → amongV y 1 200 = false → E (.ref (He.ga K "BadRing")) none H) ∧
  (∀ a w r d b N, x = .ref a → H a = some (.tup [.int w, .int r, .int d, .int b]) → boundsV H x = true → y = .int N → 1 ≤ N → N ≤ 200 →
    (w + r + mx2 d b ≤ N → E (.ref (He.ga K "Safe")) none H) ∧
    (¬ w + r + mx2 d b ≤ N → ∀ l H', H l = none → Same H H' → StepsAt H' l (if N < w + r + d then bal w d N else baa w b N).st → Q (.ref l) H'))
theorem ok_breaking {P : Program} {w : World} {K : PySem.W.Frag} {mg : Str → Option Value} {base : Heap} (F : FnP K ("breaking", none) "breaking" "breaking" s_breaking) (hm : mg "breaking" = some (.ref (He.ga K "breaking"))) (bl : Blt mg) (c_by_a_letter : Cal P w K mg base 3 "by_a_letter" (sp_by_a_letter K)) (c_by_an_answer : Cal P w K mg base 3 "by_an_answer" (sp_by_an_answer K)) (c_least_ring : Cal P w K mg base 4 "least_ring" (sp_least_ring K)) (c_need_bounds : Cal P w K mg base 3 "need_bounds" (sp_need_bounds K)) (c_need_ring : Cal P w K mg base 2 "need_ring" (sp_need_ring K)) (e_Safe : ErrC K mg "Safe") : Cal P w K mg base 5 "breaking" (sp_breaking K) := by
  refine fn_cal F hm sc_breaking (fun vs H Q E => by walk_at "len") (fun _ _ _ _ _ _ us hl => match us, hl with | [_, _], _ => rfl) (fun f cdv A outer s H vs Q E hr h => ?_)
  have hu := hu_of hr
  obtain ⟨x, y, rfl, hk, hy, q1, q2, q3⟩ := h
  refine ⟨_, (pss_cons (ps_expr (pe_fn c_need_bounds (hr.mono (by decide)) (L2N.takes_of rfl rfl rfl rfl) (pa_cons (pv 0) pa_nil)))
  (pss_cons (ps_expr (pe_fn c_need_ring (hr.mono (by decide)) (L2N.takes_of rfl rfl rfl rfl) (pa_cons (pv 1) pa_nil)))
  (pss_cons (ps_asg (pv 0) (pg_tupC (n := 4) rfl (pgs_cons (pg_name (i := 2) sc_breaking.nd rfl (Or.inl rfl)) (pgs_cons (pg_name (i := 3) sc_breaking.nd rfl (Or.inl rfl)) (pgs_cons (pg_name (i := 4) sc_breaking.nd rfl (Or.inl rfl)) (pgs_cons (pg_name (i := 5) sc_breaking.nd rfl (Or.inl rfl)) pgs_nil))))))
  (pss_cons (ps_if (pt_cmpR op_ge (pv 1) (pe_fn c_least_ring (hr.mono (by decide)) (L2N.takes_of rfl rfl rfl rfl) (pa_cons (pv 0) pa_nil)) (nomark _))
  (pss_one (L2N.ps_raise rfl (L2N.takes_of rfl rfl rfl rfl) (L2N.pmk_own PySem.F.excBase_ValueError e_Safe.ex e_Safe.g e_Safe.k (raises_own e_Safe.s e_Safe.t) rfl)))
  pss_nil)
  (pss_cons (ps_if (pt_cmpR op_lt (pv 1) (pe_op op_add (pe_op op_add (pv 2) (pv 3)) (pv 4)) (nomark _))
  (pss_one (ps_ret (pe_fn c_by_a_letter (hr.mono (by decide)) (L2N.takes_of rfl rfl rfl rfl) (pa_cons (pv 2) (pa_cons (pv 4) (pa_cons (pv 1) pa_nil))))))
  pss_nil)
  (pss_one (ps_ret (pe_fn c_by_an_answer (hr.mono (by decide)) (L2N.takes_of rfl rfl rfl rfl) (pa_cons (pv 2) (pa_cons (pv 5) (pa_cons (pv 1) pa_nil))))))))))), ?_⟩
  walk_at "st0"
  simp only [RDa, RDb, RDv, RDk, RDx, RDe, RDd, RDp, RDq, List.getElem?_cons_zero, List.getElem?_cons_succ, List.set_cons_zero, List.set_cons_succ, List.cons.injEq, List.cons_ne_nil, reduceCtorEq, exists_eq_left', exists_eq_left, exists_and_left, and_assoc, exists_const, true_and, and_true, if_true, if_false, false_and, and_false, exists_false, false_or, or_false, true_implies, false_implies, implies_true, forall_eq, forall_eq', Bool.false_eq_true, if_neg, decide_eq_true_eq, Bool.not_eq_true', decide_eq_false_iff_not, Bool.not_true, Bool.not_false, List.length_cons, List.length_nil, sizeLine_eq, Nat.reduceAdd, Nat.reduceLeDiff, Nat.reduceLT, Int.reduceLT, Int.reduceLE, Int.emod_nonneg, ne_eq, Int.reduceEq, not_false_eq_true, not_true_eq_false, sp_need_bounds, sp_need_ring, hk, hy]
  refine ⟨fun hb => ⟨fun ha => ?_, q2 hb⟩, q1⟩
  obtain ⟨a, w', r, d, b, rfl, hba, h1, h2, h3, h4, h5, h6, h7, h8⟩ := boundsV_ints hb
  obtain ⟨N, rfl, hN1, hN2⟩ := amongV_int ha
  obtain ⟨g1, g2⟩ := q3 a w' r d b N rfl hba hb rfl hN1 hN2
  clear q3
  refine ⟨a, rfl, _, hba, rfl, _, _, rfl, _, _, rfl, _, _, rfl, _, _, rfl, rfl, _, rfl, hk, ?_, fun h => ?_⟩
  · rintro a2 w2 r2 d2 b2 ea e2 _
    injection ea with ea
    rw [← ea, hba] at e2
    injection e2 with e2
    injection e2 with e2
    simp only [List.cons.injEq, V.int.injEq, and_true] at e2
    obtain ⟨rfl, rfl, rfl, rfl⟩ := e2
    refine ⟨_, rfl, _, rfl, ?_⟩
    by_cases c : w' + r + mx2 d b ≤ N
    · rw [if_pos c]
      exact g1 c
    · rw [if_neg c]
      refine ⟨_, rfl, _, rfl, _, rfl, ?_⟩
      have g2 := g2 c
      refine ⟨_, rfl, ?_⟩
      by_cases c2 : N < w' + r + d
      · rw [if_pos c2] at g2 ⊢
        exact ⟨_, _, _, rfl, h1, h2, h5, h6, hN1, hN2, g2⟩
      · rw [if_neg c2] at g2 ⊢
        exact ⟨_, _, _, rfl, h1, h2, h7, h8, by omega, hN2, g2⟩
  · rw [hb] at h
    cases h
end RP

namespace RP
open PySem PySem.Spec PyProof.Rows L2 L2H
/-! the steps are steps -/
def Wd (t : TS) : Prop := ∀ q ∈ t.st, isWord q.1
theorem Wd.snoc {l : List (Str × Int)} {q : Str × Int} (h : ∀ q ∈ l, isWord q.1) (hq : isWord q.1) : ∀ q' ∈ l ++ [q], isWord q'.1 := fun q' m => by
  rcases List.mem_append.mp m with m | m
  · exact h _ m
  · rw [List.mem_singleton.mp m]
    exact hq
theorem Wd.send {t : TS} (h : Wd t) (k : Int) : Wd (t.send k) := Wd.snoc h isWord3.1
theorem Wd.hand {t : TS} (h : Wd t) (k : Int) : Wd (t.hand k) := Wd.snoc h isWord3.2.1
theorem Wd.tell {t : TS} (h : Wd t) (k : Int) : Wd (t.tell k) := Wd.snoc h isWord3.2.2
theorem Wd.thr {t : TS} (h : Wd t) (k : Int) : Wd (t.thr k) := (h.send k).hand _
theorem Wd.thrs {t : TS} (h : Wd t) (k : Int) : ∀ n, Wd (RP.thrs t k n)
  | 0 => h
  | n + 1 => (Wd.thrs h k n).thr _
theorem Wd.thrTells {t : TS} (h : Wd t) (k : Int) : ∀ n, Wd (RP.thrTells t k n)
  | 0 => h
  | n + 1 => ((Wd.thrTells h k n).thr _).tell _
theorem Wd.sends {t : TS} (h : Wd t) (k : Int) : ∀ n, Wd (RP.sends t k n)
  | 0 => h
  | n + 1 => (Wd.sends h k n).send _
theorem Wd.nil : Wd t0S := fun _ m => by cases m
theorem bal_wd (w d N : Int) : Wd (bal w d N) := by
  unfold bal
  refine Wd.thrs (Wd.hand ?_ _) _ _
  split
  · exact Wd.thrTells (Wd.tell (Wd.send (Wd.thrs Wd.nil _ _) _) _) _ _
  · exact Wd.send (Wd.thrs Wd.nil _ _) _
theorem baa_wd (w b N : Int) : Wd (baa w b N) := by
  unfold baa
  refine Wd.tell (Wd.sends (Wd.thrTells ?_ _ _) _ _) _
  unfold baaT
  split
  · exact (Wd.nil.thr _).tell _
  · exact (Wd.thr (Wd.thrs (Wd.nil.send _) _ _) _).tell _
theorem hand_len (t : TS) (k : Int) : (t.hand k).st.length = t.st.length + 1 := by
  show (t.st ++ [_]).length = _
  rw [List.length_append]
  rfl
theorem bal_len {w d N : Int} (hw : 1 ≤ w) (hd : 0 ≤ d) (hN0 : 1 ≤ N) (hN : N ≤ 200) : (bal w d N).st.length ≤ 5000 := by
  have h1 := mn2_le.mp (Int.le_refl (mn2 N (w + d)))
  have h2 := mn2_le.mp (Int.le_refl (mn2 w (mn2 N (w + d))))
  have h3 : 1 ≤ mn2 N (w + d) := mn2_le.mpr ⟨by omega, by omega⟩
  have h4 : 1 ≤ mn2 w (mn2 N (w + d)) := mn2_le.mpr ⟨by omega, by omega⟩
  unfold bal
  generalize mn2 w (mn2 N (w + d)) = f at *
  generalize mn2 N (w + d) = g at *
  rw [thrs_len, hand_len]
  have e2 : (t0S).st.length = 0 := rfl
  split
  · rw [thrTells_len, tell_len, send_len, thrs_len, e2]
    omega
  · rw [send_len, thrs_len, e2]
    omega
theorem baa_len {w b N : Int} (hw : 1 ≤ w) (hw2 : w ≤ 20) (hb : 0 ≤ b) (hN : N ≤ 200) : (baa w b N).st.length ≤ 5000 := by
  obtain ⟨s, es⟩ : ∃ s, s = mx2 0 (N - w - b) := ⟨_, rfl⟩
  have hs : 0 ≤ s ∧ s ≤ 200 := by
    rw [es]
    unfold mx2
    split <;> omega
  unfold baa
  rw [← es, tell_len, sends_len, thrTells_len]
  have h1 : (baaT s).st.length ≤ 1000 := by
    unfold baaT
    split
    · decide
    · rw [tell_len, thr_len, thrs_len, send_len]
      show 0 + 1 + 2 * s.toNat + 2 + 1 ≤ _
      omega
  have h2 : baaB (N - w) s ≤ 201 := by
    unfold baaB
    split <;> omega
  omega
theorem step_rng {m m' : M} {N : Nat} {z : Str} {n t : Int} (ok : m.Ok N) (hN : N ≤ 90000) (hz : isWord z) (e : m.step z n = some (t, m')) : 0 ≤ n ∧ n ≤ 999999 := by
  have h1 := ok.b0
  have h2 := ok.tx
  have h3 := ok.ls
  have h4 := ok.an
  rcases hz with rfl | rfl | rfl
  · have es : m.step "send" n = m.send n := rfl
    rw [es] at e
    unfold M.send at e
    split at e
    · rename_i c
      have := last_le.mp c.2
      omega
    · cases e
  · have es : m.step "hand" n = m.hand n := rfl
    rw [es] at e
    unfold M.hand at e
    split at e
    · rename_i c
      have := isT_iff.mp c
      omega
    · cases e
  · have es : m.step "tell" n = m.tell n := rfl
    rw [es] at e
    unfold M.tell at e
    split at e
    · rename_i c
      have := isT_iff.mp c
      omega
    · cases e
def brkS (w r d b N : Int) : List (Str × Int) := (if N < w + r + d then bal w d N else baa w b N).st
theorem brkS_wrong {w r d b N : Int} {tx : List Str} (h1 : 1 ≤ w) (h2 : w ≤ 20) (h3 : 1 ≤ r) (h4 : r ≤ w) (h5 : 0 ≤ d) (h6 : 0 ≤ b) (hN : 1 ≤ N) (hN2 : N ≤ 200) (hlt : ¬ w + r + mx2 d b ≤ N) (hl : (tx.length : Int) = N + 1) (hu : Unlike tx) :
    (∃ m, (M.begun w r d b N tx).run (brkS w r d b N) = some m ∧ m.isWrong = true) ∧ (∀ q ∈ brkS w r d b N, isWord q.1) ∧ (brkS w r d b N).length ≤ 5000 := by
  unfold brkS
  by_cases c : N < w + r + d
  · rw [if_pos c]
    exact ⟨bal_wrong h1 h3 h4 h5 h6 hN c hl hu, bal_wd _ _ _, bal_len h1 h5 hN hN2⟩
  · rw [if_neg c]
    have hx : mx2 d b = d ∨ mx2 d b = b := by unfold mx2; split <;> simp
    exact ⟨baa_wrong h3 h4 h5 h6 (by omega) (by omega) hl, baa_wd _ _ _, baa_len h1 h2 h6 hN2⟩
end RP

namespace RP
open PySem PySem.Spec PyProof.Rows L2 L2H
/-! texts that are unlike -/
def decodeS (z : Str) : Nat := z.cps.toList.foldl (fun a c => a * 10 + (c - 48)) 0
theorem dec_all : ∀ i : Fin 100, decodeS (Str.ofString (toString ((i.val : Nat) : Int))) = i.val ∧ (Str.ofString (toString ((i.val : Nat) : Int))).cps.toList ≠ [] := by decide +kernel
theorem cps_app (a b : Str) : (a ++ b).cps.toList = a.cps.toList ++ b.cps.toList := Array.toList_append
theorem lawTxt0_ne {n sorts : Int} {i j : Nat} (hi : (i : Int) < sorts) (hj : (j : Int) < sorts) (h : sorts ≤ 100) (e : lawTxt0 n sorts i = lawTxt0 n sorts j) : i = j := by
  unfold lawTxt0 at e
  have e2 := congrArg (fun z : Str => z.cps.toList) e
  simp only [cps_app] at e2
  have e3 := List.append_cancel_left (List.append_cancel_right e2)
  rw [Int.emod_eq_of_lt (by omega) hi, Int.emod_eq_of_lt (by omega) hj] at e3
  have d1 := (dec_all ⟨i, by omega⟩).1
  have d2 := (dec_all ⟨j, by omega⟩).1
  unfold decodeS at d1 d2
  dsimp only at d1 d2
  rw [e3, d2] at d1
  exact d1.symm
theorem lawTxt0_some {n sorts : Int} {i : Nat} (hi : (i : Int) < sorts) (h : sorts ≤ 100) : lawTxt0 n sorts i ≠ "" := by
  intro e
  unfold lawTxt0 at e
  have e2 := congrArg (fun z : Str => z.cps.toList) e
  simp only [cps_app] at e2
  rw [Int.emod_eq_of_lt (by omega) hi] at e2
  have e3 : ("" : Str).cps.toList = [] := by decide +kernel
  rw [e3] at e2
  exact (dec_all ⟨i, by omega⟩).2 (List.append_eq_nil_iff.mp (List.append_eq_nil_iff.mp e2).1).2
theorem unlike_law {n sorts : Int} (h : sorts ≤ 100) {many : Nat} (hm : (many : Int) = sorts) : Unlike (lawTexts n sorts many) := by
  intro i j hi hj hij
  have g : ∀ k : Nat, k < many → (lawTexts n sorts many).getD k "" = lawTxt n sorts k := fun k hk => by
    unfold lawTexts
    rw [List.getD_eq_getElem?_getD, List.getElem?_map, List.getElem?_range hk]
    rfl
  unfold lawTexts at hi hj
  rw [List.length_map, List.length_range] at hi hj
  rw [g i hi, g j hj]
  unfold lawTxt
  intro e
  split at e
  · rename_i c
    split at e
    · rename_i c2
      have e1 := c.2
      have e2 := c2.2
      rw [Int.emod_eq_of_lt (a := (i : Int)) (by omega) (by omega)] at e1
      rw [Int.emod_eq_of_lt (a := (j : Int)) (by omega) (by omega)] at e2
      omega
    · exact lawTxt0_some (by omega) h e.symm
  · split at e
    · exact lawTxt0_some (by omega) h e
    · exact hij (lawTxt0_ne (by omega) (by omega) h e)
end RP

namespace RP
open PySem PySem.Spec PyProof.Rows L2 L2H
theorem pick4' {x0 x1 x2 x3 : Int} {k : Int} (h0 : 0 ≤ k) (h1 : k < 4) : ∃ y, atI [V.int x0, .int x1, .int x2, .int x3] k = some (.int y) ∧ (y = x0 ∨ y = x1 ∨ y = x2 ∨ y = x3) := by
  rcases (show k = 0 ∨ k = 1 ∨ k = 2 ∨ k = 3 by omega) with rfl | rfl | rfl | rfl
  · exact ⟨_, rfl, .inl rfl⟩
  · exact ⟨_, rfl, .inr (.inl rfl)⟩
  · exact ⟨_, rfl, .inr (.inr (.inl rfl))⟩
  · exact ⟨_, rfl, .inr (.inr (.inr rfl))⟩
end RP

namespace RP
open PySem PySem.Spec PyProof.Rows L2 L2H
/-! the law's own rows -/
def mD (b : Addr) (ring : Int) (x : Addr) (base top : Int) (o k l a : Addr) : List (Key × V) :=
  [(Sum.inr "bounds", .ref b), (Sum.inr "ring", .int ring), (Sum.inr "texts", .ref x), (Sum.inr "base", .int base), (Sum.inr "top", .int top), (Sum.inr "out", .ref o), (Sum.inr "kept", .ref k), (Sum.inr "letters", .ref l), (Sum.inr "answers", .ref a)]
def mD7 (b : Addr) (ring : Int) (x : Addr) (base top : Int) (o k : Addr) : List (Key × V) :=
  [(Sum.inr "bounds", .ref b), (Sum.inr "ring", .int ring), (Sum.inr "texts", .ref x), (Sum.inr "base", .int base), (Sum.inr "top", .int top), (Sum.inr "out", .ref o), (Sum.inr "kept", .ref k)]
theorem mL : (∀ b ring x base top o k l a, valV (mD b ring x base top o k l a) (Sum.inr "bounds" : Key) = some (.ref b)) ∧ (∀ b ring x base top o k l a, valV (mD b ring x base top o k l a) (Sum.inr "ring" : Key) = some (.int ring)) ∧
    (∀ b ring x base top o k l a, valV (mD b ring x base top o k l a) (Sum.inr "texts" : Key) = some (.ref x)) ∧ (∀ b ring x base top o k l a, valV (mD b ring x base top o k l a) (Sum.inr "base" : Key) = some (.int base)) ∧
    (∀ b ring x base top o k l a, valV (mD b ring x base top o k l a) (Sum.inr "top" : Key) = some (.int top)) ∧ (∀ b ring x base top o k l a, valV (mD b ring x base top o k l a) (Sum.inr "out" : Key) = some (.ref o)) ∧
    (∀ b ring x base top o k l a, valV (mD b ring x base top o k l a) (Sum.inr "kept" : Key) = some (.ref k)) ∧ (∀ b ring x base top o k l a, valV (mD b ring x base top o k l a) (Sum.inr "letters" : Key) = some (.ref l)) ∧
    (∀ b ring x base top o k l a, valV (mD b ring x base top o k l a) (Sum.inr "answers" : Key) = some (.ref a)) ∧ (∀ b ring x base top o k l a y, putK (mD b ring x base top o k l a) (Sum.inr "base" : Key) (.int y) = mD b ring x y top o k l a) ∧
    (∀ b ring x base top o k l a y, putK (mD b ring x base top o k l a) (Sum.inr "top" : Key) (.int y) = mD b ring x base y o k l a) ∧ (∀ b ring x base top o k l a, (mD b ring x base top o k l a).length = 9) := by
  refine ⟨?_, ?_, ?_, ?_, ?_, ?_, ?_, ?_, ?_, ?_, ?_, ?_⟩ <;> intros <;> first | rfl | kernel_rfl
theorem mL7 : (∀ b ring x base top o k l, putK (mD7 b ring x base top o k) (Sum.inr "letters" : Key) (.ref l) = mD7 b ring x base top o k ++ [((Sum.inr "letters" : Key), V.ref l)]) ∧ (∀ b ring x base top o k l a, putK (mD7 b ring x base top o k ++ [((Sum.inr "letters" : Key), V.ref l)]) (Sum.inr "answers" : Key) (.ref a) = mD b ring x base top o k l a) ∧
    (∀ b ring x base top o k, (mD7 b ring x base top o k).length = 7) ∧ (∀ b ring x base top o k l, (mD7 b ring x base top o k ++ [((Sum.inr "letters" : Key), V.ref l)]).length = 8) := by
  refine ⟨?_, ?_, ?_, ?_⟩ <;> intros <;> first | rfl | kernel_rfl
/-- the places of the rows -/
structure RwA where
  m : Addr
  b : Addr
  x : Addr
  o : Addr
  k : Addr
  l : Addr
  a : Addr
def RwA.mu (R : RwA) : List Addr := [R.m, R.o, R.k, R.l, R.a]
def RwA.al (R : RwA) : List Addr := [R.m, R.x, R.o, R.k, R.l, R.a]
structure RwAt (H : Hp) (R : RwA) (m : M) : Prop where
  dic : H R.m = some (.dK (mD R.b m.ring R.x m.base m.top R.o R.k R.l R.a))
  bnd : H R.b = some (.tup [.int m.w, .int m.r, .int m.d, .int m.b])
  tx : H R.x = some (.lst (m.tx.map V.str))
  out : H R.o = some (.lst (m.out.map V.str))
  kept : H R.k = some (.dK (kvs m.kept))
  ls : ∃ vs, H R.l = some (.lst vs) ∧ All2 (LetAt H) m.ls vs
  an : H R.a = some (.lst (m.an.map V.int))
  want : m.want = m.out.length
  nd : R.al.Nodup
theorem RwAt.fr {H H1 : Hp} {R : RwA} {m : M} {B : List Addr} (t : RwAt H R m) (f : Fr B H H1) (hB : ∀ x ∈ R.al, x ∉ B) (hT : ∀ x ∈ B, ∀ xs, H x ≠ some (.tup xs)) : RwAt H1 R m := by
  simp only [RwA.al, List.mem_cons, List.not_mem_nil, or_false, forall_eq_or_imp, forall_eq] at hB
  obtain ⟨h1, h2, h3, h4, h5, h6⟩ := hB
  exact ⟨f _ _ h1 t.dic, f _ _ (fun mm => hT _ mm _ t.bnd) t.bnd, f _ _ h2 t.tx, f _ _ h3 t.out, f _ _ h4 t.kept, t.ls.elim fun vs e => ⟨vs, f _ _ h5 e.1, e.2.mono fun _ _ => LetAt.fr f hT⟩, f _ _ h6 t.an, t.want, t.nd⟩
theorem RwAt.same {H H1 : Hp} {R : RwA} {m : M} (t : RwAt H R m) (f : Same H H1) : RwAt H1 R m :=
  t.fr (.of (A := []) f) (fun _ _ => by simp) (fun _ h => by simp at h)
theorem RwAt.nt {H : Hp} {R : RwA} {m : M} (t : RwAt H R m) : ∀ x ∈ R.al, ∀ xs, H x ≠ some (.tup xs) := by
  intro x hx xs
  obtain ⟨vs, hl, _⟩ := t.ls
  simp only [RwA.al, List.mem_cons, List.not_mem_nil, or_false] at hx
  rcases hx with rfl | rfl | rfl | rfl | rfl | rfl
  · rw [t.dic]; simp
  · rw [t.tx]; simp
  · rw [t.out]; simp
  · rw [t.kept]; simp
  · rw [hl]; simp
  · rw [t.an]; simp
theorem RwA.mu_al (R : RwA) : ∀ x ∈ R.mu, x ∈ R.al := fun x hx => by
  revert hx
  simp only [RwA.mu, RwA.al, List.mem_cons, List.not_mem_nil, or_false]
  rintro (rfl | rfl | rfl | rfl | rfl) <;> simp
theorem RwAt.live {H : Hp} {R : RwA} {m : M} (t : RwAt H R m) : ∀ x ∈ R.al, H x ≠ none := by
  intro x hx
  obtain ⟨vs, hl, _⟩ := t.ls
  simp only [RwA.al, List.mem_cons, List.not_mem_nil, or_false] at hx
  rcases hx with rfl | rfl | rfl | rfl | rfl | rfl
  · rw [t.dic]; simp
  · rw [t.tx]; simp
  · rw [t.out]; simp
  · rw [t.kept]; simp
  · rw [hl]; simp
  · rw [t.an]; simp
abbrev s__law_begun : Stmt := top 25
abbrev N__law_begun : List Str := ["_law_bounds_here", "_law_ring", "_law_texts_here", "_law_m"]
theorem sc__law_begun : FnScope N__law_begun ["_law_bounds_here", "_law_ring", "_law_texts_here"] (defScope s__law_begun) := ⟨rfl, rfl, rfl, by decide +kernel, rfl, by decide +kernel, by decide +kernel⟩
def sp__law_begun (K : PySem.W.Frag) : Sp := fun vs H Q E => ∃ (ba x : Addr) (w r d b ring : Int) (tx : List Str), vs = [.ref ba, .int ring, .ref x] ∧ H ba = some (.tup [.int w, .int r, .int d, .int b]) ∧ H x = some (.lst (tx.map V.str)) ∧
  ∀ (R : RwA) H', R.b = ba → R.x = x → (∀ c ∈ R.mu, H c = none) → Same H H' → RwAt H' R (M.begun w r d b ring tx) → Q (.ref R.m) H'
theorem ok__law_begun {P : Program} {w : World} {K : PySem.W.Frag} {mg : Str → Option Value} {base : Heap} (F : FnP K ("_law_begun", none) "_law_begun" "_law_begun" s__law_begun) (hm : mg "_law_begun" = some (.ref (He.ga K "_law_begun"))) (bl : Blt mg) : Cal P w K mg base 1 "_law_begun" (sp__law_begun K) := by
  refine fn_cal F hm sc__law_begun (fun vs H Q E => by walk_at "len") (fun _ _ _ _ _ _ us hl => match us, hl with | [_, _, _], _ => rfl) (fun f cdv A outer s H vs Q E hr h => ?_)
  have hu := hu_of hr
  obtain ⟨ba, x, w', r, d, b, ring, tx, rfl, hb, hx, q⟩ := h
  refine ⟨_, (pss_cons (ps_set (i := 3) sc__law_begun.nd rfl (Or.inl rfl) (pe_disp (pps_cons pe_str (pv 0) (pps_cons pe_str (pv 1) (pps_cons pe_str (pv 2) (pps_cons pe_str pe_int (pps_cons pe_str pe_int (pps_cons pe_str (pe_lst pa_nil) (pps_cons pe_str pe_dnewK pps_nil))))))) (by rfl) (by rfl) (fun z => by cases z) (by decide)))
  (pss_cons (ps_putD (by exact hu) (pv 3) pe_str (pe_lst pa_nil) rfl)
  (pss_cons (ps_putD (by exact hu) (pv 3) pe_str (pe_lst pa_nil) rfl)
  (pss_one (ps_ret (pv 3)))))), ?_⟩
  walk_at "st0"
  refine seq_gen fun N_a h_a => ?_
  simp only [RDa, RDb, RDv, RDk, RDx, RDe, RDd, RDp, RDq, List.getElem?_cons_zero, List.getElem?_cons_succ, List.set_cons_zero, List.set_cons_succ, List.cons.injEq, List.cons_ne_nil, reduceCtorEq, exists_eq_left', exists_eq_left, exists_and_left, and_assoc, exists_const, true_and, and_true, if_true, if_false, false_and, and_false, exists_false, false_or, or_false, true_implies, false_implies, implies_true, forall_eq, forall_eq', Bool.false_eq_true, if_neg, decide_eq_true_eq, Bool.not_eq_true', decide_eq_false_iff_not, Bool.not_true, Bool.not_false, List.length_cons, List.length_nil, sizeLine_eq, Nat.reduceAdd, Nat.reduceLeDiff, Nat.reduceLT, Int.reduceLT, Int.reduceLE, Int.emod_nonneg, ne_eq, Int.reduceEq, not_false_eq_true, not_true_eq_false]
  intro m n_m
  generalize e_H2 : upd H m (.dK []) = H2
  have a_H2 : H2 m = some (.dK []) := by rw [← e_H2]; exact upd_same
  have s_H2 : Same H H2 := by rw [← e_H2]; exact same_new n_m
  intro mo n_mo
  generalize e_H3 : upd H2 mo (.lst []) = H3
  have a_H3 : H3 mo = some (.lst []) := by rw [← e_H3]; exact upd_same
  have s_H3 : Same H2 H3 := by rw [← e_H3]; exact same_new n_mo
  intro mk n_mk
  generalize e_H4 : upd H3 mk (.dK []) = H4
  have a_H4 : H4 mk = some (.dK []) := by rw [← e_H4]; exact upd_same
  have s_H4 : Same H3 H4 := by rw [← e_H4]; exact same_new n_mk
  have hm4 := s_H4 _ _ (s_H3 _ _ a_H2)
  refine ⟨hm4, mD7 ba ring x 0 0 mo mk, rfl, (by show (7 : Nat) ≤ 15; decide), h_a _ _ ?_⟩
  clear h_a
  have em : mergeK [] (mD7 ba ring x 0 0 mo mk) = mD7 ba ring x 0 0 mo mk := by rfl
  rw [em]
  have d1 : m ≠ mo := ne_of_none a_H2 n_mo
  have d2 : m ≠ mk := ne_of_none (s_H3 _ _ a_H2) n_mk
  have d3 : mo ≠ mk := ne_of_none a_H3 n_mk
  have s5 : Same H (upd H4 m (.dK (mD7 ba ring x 0 0 mo mk))) := fun c o e => by
    rw [upd_ne (ne_of_none e n_m)]
    exact s_H4 _ _ (s_H3 _ _ (s_H2 _ _ e))
  have e1 : (upd H4 m (.dK (mD7 ba ring x 0 0 mo mk))) m = _ := upd_same
  have e2 : (upd H4 m (.dK (mD7 ba ring x 0 0 mo mk))) mo = some (.lst []) := by rw [upd_ne (Ne.symm d1)]; exact s_H4 _ _ a_H3
  have e3 : (upd H4 m (.dK (mD7 ba ring x 0 0 mo mk))) mk = some (.dK []) := by rw [upd_ne (Ne.symm d2)]; exact a_H4
  generalize upd H4 m (.dK (mD7 ba ring x 0 0 mo mk)) = H5 at s5 e1 e2 e3
  clear hm4 em
  refine seq_gen fun N_b h_b => ?_
  simp only [RDa, RDb, RDv, RDk, RDx, RDe, RDd, RDp, RDq, List.getElem?_cons_zero, List.getElem?_cons_succ, List.set_cons_zero, List.set_cons_succ, List.cons.injEq, List.cons_ne_nil, reduceCtorEq, exists_eq_left', exists_eq_left, exists_and_left, and_assoc, exists_const, true_and, and_true, if_true, if_false, false_and, and_false, exists_false, false_or, or_false, true_implies, false_implies, implies_true, forall_eq, forall_eq', Bool.false_eq_true, if_neg, decide_eq_true_eq, Bool.not_eq_true', decide_eq_false_iff_not, Bool.not_true, Bool.not_false, List.length_cons, List.length_nil, sizeLine_eq, Nat.reduceAdd, Nat.reduceLeDiff, Nat.reduceLT, Int.reduceLT, Int.reduceLE, Int.emod_nonneg, ne_eq, Int.reduceEq, not_false_eq_true, not_true_eq_false]
  intro ml n_ml
  have dl : m ≠ ml := ne_of_none e1 n_ml
  have e1' := (upd_ne (o := HO.lst []) dl).trans e1
  refine ⟨_, e1', by rw [mL7.2.2.1]; decide, h_b _ _ ?_⟩
  clear h_b
  rw [mL7.1]
  have f6 : Fr [m] H5 (upd (upd H5 ml (.lst [])) m (.dK (mD7 ba ring x 0 0 mo mk ++ [((Sum.inr "letters" : Key), V.ref ml)]))) := ((Fr.refl _ _).new n_ml).upd (by simp)
  have e4 : (upd (upd H5 ml (.lst [])) m (.dK (mD7 ba ring x 0 0 mo mk ++ [((Sum.inr "letters" : Key), V.ref ml)]))) m = _ := upd_same
  have e5 : (upd (upd H5 ml (.lst [])) m (.dK (mD7 ba ring x 0 0 mo mk ++ [((Sum.inr "letters" : Key), V.ref ml)]))) ml = some (.lst []) := (upd_ne (Ne.symm dl)).trans upd_same
  generalize upd (upd H5 ml (.lst [])) m (.dK (mD7 ba ring x 0 0 mo mk ++ [((Sum.inr "letters" : Key), V.ref ml)])) = H6 at f6 e4 e5
  refine seq_gen fun N_c h_c => ?_
  simp only [RDa, RDb, RDv, RDk, RDx, RDe, RDd, RDp, RDq, List.getElem?_cons_zero, List.getElem?_cons_succ, List.set_cons_zero, List.set_cons_succ, List.cons.injEq, List.cons_ne_nil, reduceCtorEq, exists_eq_left', exists_eq_left, exists_and_left, and_assoc, exists_const, true_and, and_true, if_true, if_false, false_and, and_false, exists_false, false_or, or_false, true_implies, false_implies, implies_true, forall_eq, forall_eq', Bool.false_eq_true, if_neg, decide_eq_true_eq, Bool.not_eq_true', decide_eq_false_iff_not, Bool.not_true, Bool.not_false, List.length_cons, List.length_nil, sizeLine_eq, Nat.reduceAdd, Nat.reduceLeDiff, Nat.reduceLT, Int.reduceLT, Int.reduceLE, Int.emod_nonneg, ne_eq, Int.reduceEq, not_false_eq_true, not_true_eq_false]
  intro ma n_ma
  have da : m ≠ ma := ne_of_none e4 n_ma
  have e4' := (upd_ne (o := HO.lst []) da).trans e4
  refine ⟨_, e4', by rw [mL7.2.2.2]; decide, h_c _ _ ?_⟩
  clear h_c
  rw [mL7.2.1]
  have f7 : Fr [m] H6 (upd (upd H6 ma (.lst [])) m (.dK (mD ba ring x 0 0 mo mk ml ma))) := ((Fr.refl _ _).new n_ma).upd (by simp)
  have e6 : (upd (upd H6 ma (.lst [])) m (.dK (mD ba ring x 0 0 mo mk ml ma))) m = _ := upd_same
  have e7 : (upd (upd H6 ma (.lst [])) m (.dK (mD ba ring x 0 0 mo mk ml ma))) ma = some (.lst []) := (upd_ne (Ne.symm da)).trans upd_same
  generalize upd (upd H6 ma (.lst [])) m (.dK (mD ba ring x 0 0 mo mk ml ma)) = H7 at f7 e6 e7
  have f57 : Fr [m] H5 H7 := f6.trans f7
  have hmm : ∀ c o, H c = some o → c ∉ [m] := fun c o e => by simpa using ne_of_none e n_m
  have sH7 : Same H H7 := fun c o e => f57 _ _ (hmm c o e) (s5 _ _ e)
  have k2 := f57 _ _ (by simpa using Ne.symm d1) e2
  have k3 := f57 _ _ (by simpa using Ne.symm d2) e3
  have k5 := f7 _ _ (by simpa using Ne.symm dl) e5
  have fb : ∀ c, H5 c = none → H c = none := fun c n => by
    cases e : H c with
    | none => rfl
    | some o => rw [s5 _ _ e] at n; cases n
  have nl : H ml = none := fb _ n_ml
  have na : H ma = none := by
    cases e : H ma with
    | none => rfl
    | some o =>
      have := f6 _ _ (hmm _ _ e) (s5 _ _ e)
      rw [n_ma] at this
      cases this
  have no : H mo = none := by
    cases e : H mo with
    | none => rfl
    | some o => rw [s_H2 _ _ e] at n_mo; cases n_mo
  have nk : H mk = none := by
    cases e : H mk with
    | none => rfl
    | some o => rw [s_H3 _ _ (s_H2 _ _ e)] at n_mk; cases n_mk
  simp only [RDa, RDb, RDv, RDk, RDx, RDe, RDd, RDp, RDq, List.getElem?_cons_zero, List.getElem?_cons_succ, List.set_cons_zero, List.set_cons_succ, List.cons.injEq, List.cons_ne_nil, reduceCtorEq, exists_eq_left', exists_eq_left, exists_and_left, and_assoc, exists_const, true_and, and_true, if_true, if_false, false_and, and_false, exists_false, false_or, or_false, true_implies, false_implies, implies_true, forall_eq, forall_eq', Bool.false_eq_true, if_neg, decide_eq_true_eq, Bool.not_eq_true', decide_eq_false_iff_not, Bool.not_true, Bool.not_false, List.length_cons, List.length_nil, sizeLine_eq, Nat.reduceAdd, Nat.reduceLeDiff, Nat.reduceLT, Int.reduceLT, Int.reduceLE, Int.emod_nonneg, ne_eq, Int.reduceEq, not_false_eq_true, not_true_eq_false]
  refine q ⟨m, ba, x, mo, mk, ml, ma⟩ H7 rfl rfl (fun c hc => ?_) sH7 ⟨e6, sH7 _ _ hb, sH7 _ _ hx, k2, k3, ⟨[], k5, .nil⟩, e7, rfl, ?_⟩
  · simp only [RwA.mu, List.mem_cons, List.not_mem_nil, or_false] at hc
    rcases hc with rfl | rfl | rfl | rfl | rfl
    · exact n_m
    · exact no
    · exact nk
    · exact nl
    · exact na
  · have hal : ma ≠ ml := fun e => by
      rw [e, e5] at n_ma
      cases n_ma
    have x1 := fun c (n : H c = none) => ne_of_none hx n
    simp only [RwA.al, List.nodup_cons, List.mem_cons, List.not_mem_nil, or_false, not_or, List.nodup_nil, and_true, not_false_eq_true]
    have o1 : mo ≠ ml := ne_of_none e2 n_ml
    have o2 : mk ≠ ml := ne_of_none e3 n_ml
    have o3 : mo ≠ ma := ne_of_none (f6 _ _ (by simpa using Ne.symm d1) e2) n_ma
    have o4 : mk ≠ ma := ne_of_none (f6 _ _ (by simpa using Ne.symm d2) e3) n_ma
    exact ⟨⟨Ne.symm (x1 m n_m), d1, d2, dl, da⟩, ⟨x1 _ no, x1 _ nk, x1 _ nl, x1 _ na⟩, ⟨d3, o1, o3⟩, ⟨o2, o4⟩, Ne.symm hal⟩
end RP

namespace RP
open PySem PySem.Spec PyProof.Rows L2 L2H
def Told (H : Hp) (R : RwA) (Q : VK) (t : Int) (m' : M) : Prop := ∀ H' q, Fr R.mu H H' → RwAt H' R m' → H q = none → H' q = some (.tup [.str "told", .int t]) → Q (.ref q) H'
def Refd (H : Hp) (Q : VK) (z : Str) : Prop := ∀ H' q, Same H H' → H q = none → H' q = some (.tup [.str "refused", .str z]) → Q (.ref q) H'
theorem RwAt.free {H H1 : Hp} {R : RwA} {m : M} (t : RwAt H1 R m) (f : Fr R.mu H H1) {c : Addr} (n : H1 c = none) : H c = none := by
  cases e : H c with
  | none => rfl
  | some o =>
    by_cases hc : c ∈ R.mu
    · exact absurd n (t.live c (R.mu_al c hc))
    · rw [f _ _ hc e] at n
      cases n
abbrev s__law_send : Stmt := top 26
abbrev N__law_send : List Str := ["_law_m", "_law_k"]
theorem sc__law_send : FnScope N__law_send ["_law_m", "_law_k"] (defScope s__law_send) := ⟨rfl, rfl, rfl, by decide +kernel, rfl, by decide +kernel, by decide +kernel⟩
def sp__law_send (K : PySem.W.Frag) : Sp := fun vs H Q E => ∃ (R : RwA) (m : M) (N : Nat) (k : Int), vs = [.ref R.m, .int k] ∧ RwAt H R m ∧ m.Ok N ∧ N < 90000 ∧ 0 ≤ k ∧
  (∀ t m', m.send k = some (t, m') → Told H R Q t m') ∧ (m.send k = none → Refd H Q "now")
theorem ok__law_send {P : Program} {w : World} {K : PySem.W.Frag} {mg : Str → Option Value} {base : Heap} (F : FnP K ("_law_send", none) "_law_send" "_law_send" s__law_send) (hm : mg "_law_send" = some (.ref (He.ga K "_law_send"))) (bl : Blt mg) : Cal P w K mg base 1 "_law_send" (sp__law_send K) := by
  refine fn_cal F hm sc__law_send (fun vs H Q E => by walk_at "len") (fun _ _ _ _ _ _ us hl => match us, hl with | [_, _], _ => rfl) (fun f cdv A outer s H vs Q E hr h => ?_)
  have hu := hu_of hr
  obtain ⟨R, m, N, k, rfl, t, ok, hN, hk, q1, q2⟩ := h
  refine ⟨_, (pss_cons (ps_if (PW.pt (pw_or (pt_cmpR op_lt (pv 1) (pe_getD (by exact hu) (pv 0) pe_str (fun _ _ => rfl)) (nomark _)) (pw_or (pt_cmpR op_gt (pv 1) (pe_getD (by exact hu) (pv 0) pe_str (fun _ _ => rfl)) (nomark _)) (pw_or (pt_cmpR op_ge (pv 1) (pe_op op_add (pe_getD (by exact hu) (pv 0) pe_str (fun _ _ => rfl)) (pe_ix ix_C (pe_getD (by exact hu) (pv 0) pe_str (fun _ _ => rfl)) pe_int (fun _ _ => rfl))) (nomark _)) (pw_or1 (pt_cmpR op_ge (pv 1) (pe_callB call_lenC (by rfl) (bl.len) (by decide +kernel) (pa_cons (pe_getD (by exact hu) (pv 0) pe_str (fun _ _ => rfl)) pa_nil)) (nomark _)))))))
  (pss_one (ps_ret (pe_tup (pa_cons pe_str (pa_cons pe_str pa_nil)))))
  pss_nil)
  (pss_cons (ps_putD (by exact hu) (pv 0) pe_str (pe_callB (call_max2 rfl) (by rfl) (bl.max) (by decide +kernel) (pa_cons (pe_getD (by exact hu) (pv 0) pe_str (fun _ _ => rfl)) (pa_cons (pe_op op_add (pv 1) pe_int) pa_nil))) rfl)
  (pss_cons (ps_expr (pe_app (pe_getD (by exact hu) (pv 0) pe_str (fun _ _ => rfl)) (pe_tup (pa_cons (pe_op op_mod (pv 1) (pe_getD (by exact hu) (pv 0) pe_str (fun _ _ => rfl))) (pa_cons (pe_ix ix_C (pe_getD (by exact hu) (pv 0) pe_str (fun _ _ => rfl)) (pv 1) (fun _ _ => rfl)) pa_nil)))))
  (pss_one (ps_ret (pe_tup (pa_cons pe_str (pa_cons (pe_op op_sub (pe_callB call_lenC (by rfl) (bl.len) (by decide +kernel) (pa_cons (pe_getD (by exact hu) (pv 0) pe_str (fun _ _ => rfl)) pa_nil)) pe_int) pa_nil)))))))), ?_⟩
  walk_at "st0"
  refine seq_gen fun N_a h_a => ?_
  simp only [RDa, RDb, RDv, RDk, RDx, RDe, RDd, RDp, RDq, List.getElem?_cons_zero, List.getElem?_cons_succ, List.set_cons_zero, List.set_cons_succ, List.cons.injEq, List.cons_ne_nil, reduceCtorEq, exists_eq_left', exists_eq_left, exists_and_left, and_assoc, exists_const, true_and, and_true, if_true, if_false, false_and, and_false, exists_false, false_or, or_false, true_implies, false_implies, implies_true, forall_eq, forall_eq', Bool.false_eq_true, if_neg, decide_eq_true_eq, Bool.not_eq_true', decide_eq_false_iff_not, Bool.not_true, Bool.not_false, List.length_cons, List.length_nil, sizeLine_eq, Nat.reduceAdd, Nat.reduceLeDiff, Nat.reduceLT, Int.reduceLT, Int.reduceLE, Int.emod_nonneg, ne_eq, Int.reduceEq, not_false_eq_true, not_true_eq_false, mL, t.dic, seqO_tup t.bnd, lenO_lst t.tx]
  rw [List.length_map]
  have es : m.send k = if m.base ≤ k ∧ k ≤ m.last then some ((m.ls.length : Int), sentM m k) else none := rfl
  have ref : ¬ (m.base ≤ k ∧ k ≤ m.last) → ∀ p, H p = none → Q (.ref p) (upd H p (.tup [.str "refused", .str "now"])) := fun hn p np => q2 (by rw [es, if_neg hn]) _ p (same_new np) np upd_same
  have lastI := @last_le m k
  split
  · exact ref (by omega)
  split
  · exact ref (by omega)
  split
  · exact ref (by omega)
  split
  · exact ref (by omega)
  rename_i c1 c2 c3 c4
  have hlast : m.base ≤ k ∧ k ≤ m.last := ⟨by omega, lastI.mpr ⟨by omega, by omega, by omega⟩⟩
  clear ref lastI
  rw [if_pos hlast] at es
  refine h_a _ _ ?_
  clear h_a
  have et : (if k + 1 > m.top then k + 1 else m.top) = sTop m.top k := by
    unfold sTop
    split <;> split <;> omega
  refine seq_gen fun N_b h_b => ?_
  simp only [RDa, RDb, RDv, RDk, RDx, RDe, RDd, RDp, RDq, List.getElem?_cons_zero, List.getElem?_cons_succ, List.set_cons_zero, List.set_cons_succ, List.cons.injEq, List.cons_ne_nil, reduceCtorEq, exists_eq_left', exists_eq_left, exists_and_left, and_assoc, exists_const, true_and, and_true, if_true, if_false, false_and, and_false, exists_false, false_or, or_false, true_implies, false_implies, implies_true, forall_eq, forall_eq', Bool.false_eq_true, if_neg, decide_eq_true_eq, Bool.not_eq_true', decide_eq_false_iff_not, Bool.not_true, Bool.not_false, List.length_cons, List.length_nil, sizeLine_eq, Nat.reduceAdd, Nat.reduceLeDiff, Nat.reduceLT, Int.reduceLT, Int.reduceLE, Int.emod_nonneg, ne_eq, Int.reduceEq, not_false_eq_true, not_true_eq_false, mL, t.dic, et]
  refine h_b _ _ ?_
  clear h_b
  have nd := t.nd
  simp only [RwA.al, List.nodup_cons, List.mem_cons, List.not_mem_nil, or_false, not_or, List.nodup_nil, and_true, not_false_eq_true] at nd
  obtain ⟨⟨n1, n2, n3, n4, n5⟩, ⟨n6, n7, n8, n9⟩, ⟨n10, n11, n12⟩, ⟨n13, n14⟩, n15⟩ := nd
  obtain ⟨vs, hl, al⟩ := t.ls
  have f1 : Fr R.mu H (upd H R.m (.dK (mD R.b m.ring R.x m.base (sTop m.top k) R.o R.k R.l R.a))) := (Fr.refl _ _).upd (by simp [RwA.mu])
  have d1 : (upd H R.m (.dK (mD R.b m.ring R.x m.base (sTop m.top k) R.o R.k R.l R.a))) R.m = _ := upd_same
  have x1 := (upd_ne (o := HO.dK (mD R.b m.ring R.x m.base (sTop m.top k) R.o R.k R.l R.a)) (Ne.symm n1)).trans t.tx
  have l1 := (upd_ne (o := HO.dK (mD R.b m.ring R.x m.base (sTop m.top k) R.o R.k R.l R.a)) (Ne.symm n4)).trans hl
  have o1 := (upd_ne (o := HO.dK (mD R.b m.ring R.x m.base (sTop m.top k) R.o R.k R.l R.a)) (Ne.symm n2)).trans t.out
  have k1 := (upd_ne (o := HO.dK (mD R.b m.ring R.x m.base (sTop m.top k) R.o R.k R.l R.a)) (Ne.symm n3)).trans t.kept
  have a1 := (upd_ne (o := HO.dK (mD R.b m.ring R.x m.base (sTop m.top k) R.o R.k R.l R.a)) (Ne.symm n5)).trans t.an
  generalize upd H R.m (.dK (mD R.b m.ring R.x m.base (sTop m.top k) R.o R.k R.l R.a)) = H1 at f1 d1 x1 l1 o1 k1 a1
  have hg1 := ok.g1
  have hx : atI (m.tx.map V.str) k = some (.str (m.tx.getD k.toNat "")) := by
    rw [show k = ((k.toNat : Nat) : Int) by omega]
    refine atI_nat ?_
    rw [List.getElem?_map, Int.toNat_natCast, List.getElem?_eq_getElem (by omega), List.getD_eq_getElem?_getD, List.getElem?_eq_getElem (by omega)]
    rfl
  refine seq_gen fun N_c h_c => ?_
  simp only [RDa, RDb, RDv, RDk, RDx, RDe, RDd, RDp, RDq, List.getElem?_cons_zero, List.getElem?_cons_succ, List.set_cons_zero, List.set_cons_succ, List.cons.injEq, List.cons_ne_nil, reduceCtorEq, exists_eq_left', exists_eq_left, exists_and_left, and_assoc, exists_const, true_and, and_true, if_true, if_false, false_and, and_false, exists_false, false_or, or_false, true_implies, false_implies, implies_true, forall_eq, forall_eq', Bool.false_eq_true, if_neg, decide_eq_true_eq, Bool.not_eq_true', decide_eq_false_iff_not, Bool.not_true, Bool.not_false, List.length_cons, List.length_nil, sizeLine_eq, Nat.reduceAdd, Nat.reduceLeDiff, Nat.reduceLT, Int.reduceLT, Int.reduceLE, Int.emod_nonneg, ne_eq, Int.reduceEq, not_false_eq_true, not_true_eq_false, mL, d1, l1, SqL.of x1, seqO_lst x1, hx]
  have hvl := al.length
  have hol := ok.ls
  refine ⟨by omega, fun p np => ?_⟩
  have l1' := (upd_ne (o := HO.tup [.int (k % m.ring), .str (m.tx.getD k.toNat "")]) (ne_of_none l1 np)).trans l1
  refine ⟨vs, l1', by omega, h_c _ _ ?_⟩
  clear h_c
  have f2 := (f1.new (p := p) (o := .tup [.int (k % m.ring), .str (m.tx.getD k.toNat "")]) np).upd (p := R.l) (o := .lst (vs ++ [.ref p])) (by simp [RwA.mu])
  have up : ∀ {c : Addr} {o : HO}, H1 c = some o → c ≠ R.l → (upd (upd H1 p (.tup [.int (k % m.ring), .str (m.tx.getD k.toNat "")])) R.l (.lst (vs ++ [.ref p]))) c = some o := fun e hc => (upd_ne hc).trans ((upd_ne (ne_of_none e np)).trans e)
  have d2 := up d1 n4
  have x2 := up x1 n8
  have o2 := up o1 n11
  have k2 := up k1 n13
  have a2 := up a1 (Ne.symm n15)
  have l2 : (upd (upd H1 p (.tup [.int (k % m.ring), .str (m.tx.getD k.toNat "")])) R.l (.lst (vs ++ [.ref p]))) R.l = _ := upd_same
  have p2 : (upd (upd H1 p (.tup [.int (k % m.ring), .str (m.tx.getD k.toNat "")])) R.l (.lst (vs ++ [.ref p]))) p = _ := (upd_ne (Ne.symm (ne_of_none l1 np))).trans upd_same
  generalize upd (upd H1 p (.tup [.int (k % m.ring), .str (m.tx.getD k.toNat "")])) R.l (.lst (vs ++ [.ref p])) = H2 at f2 d2 x2 o2 k2 a2 l2 p2
  have ntm : ∀ x ∈ R.mu, ∀ xs, H x ≠ some (.tup xs) := fun x hx => t.nt x (R.mu_al x hx)
  have t2 : RwAt H2 R (sentM m k) := ⟨d2, f2 _ _ (fun mm => ntm _ mm _ t.bnd) t.bnd, x2, o2, k2, ⟨_, l2, (al.mono fun _ _ => LetAt.fr f2 ntm).snoc ⟨p, rfl, p2⟩⟩, a2, t.want, t.nd⟩
  simp only [RDa, RDb, RDv, RDk, RDx, RDe, RDd, RDp, RDq, List.getElem?_cons_zero, List.getElem?_cons_succ, List.set_cons_zero, List.set_cons_succ, List.cons.injEq, List.cons_ne_nil, reduceCtorEq, exists_eq_left', exists_eq_left, exists_and_left, and_assoc, exists_const, true_and, and_true, if_true, if_false, false_and, and_false, exists_false, false_or, or_false, true_implies, false_implies, implies_true, forall_eq, forall_eq', Bool.false_eq_true, if_neg, decide_eq_true_eq, Bool.not_eq_true', decide_eq_false_iff_not, Bool.not_true, Bool.not_false, List.length_cons, List.length_nil, sizeLine_eq, Nat.reduceAdd, Nat.reduceLeDiff, Nat.reduceLT, Int.reduceLT, Int.reduceLE, Int.emod_nonneg, ne_eq, Int.reduceEq, not_false_eq_true, not_true_eq_false, mL, d2, lenO_lst l2]
  intro q nq
  have e : ((vs ++ [V.ref p]).length : Int) - 1 = m.ls.length := by
    rw [List.length_append, ← hvl]
    show ((m.ls.length + 1 : Nat) : Int) - 1 = _
    omega
  rw [e]
  exact q1 _ _ es _ q (f2.new nq) (t2.same (same_new nq)) (t2.free f2 nq) upd_same
abbrev s__law_is_there : Stmt := top 27
abbrev N__law_is_there : List Str := ["_law_rows", "_law_number", "_law_bound"]
theorem sc__law_is_there : FnScope N__law_is_there ["_law_rows", "_law_number", "_law_bound"] (defScope s__law_is_there) := ⟨rfl, rfl, rfl, by decide +kernel, rfl, by decide +kernel, by decide +kernel⟩
def sp__law_is_there (K : PySem.W.Frag) : Sp := fun vs H Q E => ∃ (l : Addr) (xs : List V) (n b : Int), vs = [.ref l, .int n, .int b] ∧ H l = some (.lst xs) ∧ 0 ≤ n ∧ Q (.bl (isT n xs.length b)) H
theorem ok__law_is_there {P : Program} {w : World} {K : PySem.W.Frag} {mg : Str → Option Value} {base : Heap} (F : FnP K ("_law_is_there", none) "_law_is_there" "_law_is_there" s__law_is_there) (hm : mg "_law_is_there" = some (.ref (He.ga K "_law_is_there"))) (bl : Blt mg) : Cal P w K mg base 1 "_law_is_there" (sp__law_is_there K) := by
  refine fn_cal F hm sc__law_is_there (fun vs H Q E => by walk_at "len") (fun _ _ _ _ _ _ us hl => match us, hl with | [_, _, _], _ => rfl) (fun f cdv A outer s H vs Q E hr h => ?_)
  have hu := hu_of hr
  obtain ⟨l, xs, n, b, rfl, hl, hn, q⟩ := h
  refine ⟨_, (pss_one (ps_ret (pe_and (pe_cmpR op_lt (pv 1) (pe_callB call_lenC (by rfl) (bl.len) (by decide +kernel) (pa_cons (pv 0) pa_nil)) (nomark _)) (pe_one (pe_cmpR op_le (pe_op op_sub (pe_op op_sub (pe_callB call_lenC (by rfl) (bl.len) (by decide +kernel) (pa_cons (pv 0) pa_nil)) pe_int) (pv 1)) (pv 2) (nomark _)))))), ?_⟩
  walk_at "st0"
  simp only [RDa, RDb, RDv, RDk, RDx, RDe, RDd, RDp, RDq, List.getElem?_cons_zero, List.getElem?_cons_succ, List.set_cons_zero, List.set_cons_succ, List.cons.injEq, List.cons_ne_nil, reduceCtorEq, exists_eq_left', exists_eq_left, exists_and_left, and_assoc, exists_const, true_and, and_true, if_true, if_false, false_and, and_false, exists_false, false_or, or_false, true_implies, false_implies, implies_true, forall_eq, forall_eq', Bool.false_eq_true, if_neg, decide_eq_true_eq, Bool.not_eq_true', decide_eq_false_iff_not, Bool.not_true, Bool.not_false, List.length_cons, List.length_nil, sizeLine_eq, Nat.reduceAdd, Nat.reduceLeDiff, Nat.reduceLT, Int.reduceLT, Int.reduceLE, Int.emod_nonneg, ne_eq, Int.reduceEq, not_false_eq_true, not_true_eq_false, lenO_lst hl]
  have e : isT n xs.length b = (decide (n < (xs.length : Int)) && decide ((xs.length : Int) - 1 - n ≤ b)) := by
    rw [Bool.eq_iff_iff, isT_iff, Bool.and_eq_true, decide_eq_true_eq, decide_eq_true_eq]
    omega
  rw [e] at q
  split
  · rename_i c
    rw [decide_eq_true c, Bool.true_and] at q
    exact q
  · rename_i c
    rw [decide_eq_false c, Bool.false_and] at q
    exact q
theorem RwAt.dist {H : Hp} {R : RwA} {m : M} (t : RwAt H R m) : (R.m ≠ R.x ∧ R.m ≠ R.o ∧ R.m ≠ R.k ∧ R.m ≠ R.l ∧ R.m ≠ R.a) ∧ (R.x ≠ R.o ∧ R.x ≠ R.k ∧ R.x ≠ R.l ∧ R.x ≠ R.a) ∧ (R.o ≠ R.k ∧ R.o ≠ R.l ∧ R.o ≠ R.a) ∧ (R.k ≠ R.l ∧ R.k ≠ R.a) ∧ R.l ≠ R.a := by
  have nd := t.nd
  simp only [RwA.al, List.nodup_cons, List.mem_cons, List.not_mem_nil, or_false, not_or, List.nodup_nil, and_true, not_false_eq_true] at nd
  exact nd
theorem RwAt.ntm {H : Hp} {R : RwA} {m : M} (t : RwAt H R m) : ∀ x ∈ R.mu, ∀ xs, H x ≠ some (.tup xs) := fun x hx => t.nt x (R.mu_al x hx)
theorem RwAt.upK {H : Hp} {R : RwA} {m : M} (t : RwAt H R m) (kp : List (Int × Str)) : RwAt (upd H R.k (.dK (kvs kp))) R { m with kept := kp } := by
  obtain ⟨⟨n1, n2, n3, n4, n5⟩, ⟨n6, n7, n8, n9⟩, ⟨n10, n11, n12⟩, ⟨n13, n14⟩, n15⟩ := t.dist
  have f : Fr R.mu H (upd H R.k (.dK (kvs kp))) := (Fr.refl _ _).upd (by simp [RwA.mu])
  obtain ⟨vs, hl, al⟩ := t.ls
  exact ⟨(upd_ne n3).trans t.dic, f _ _ (fun mm => t.ntm _ mm _ t.bnd) t.bnd, (upd_ne n7).trans t.tx, (upd_ne n10).trans t.out, upd_same, ⟨vs, (upd_ne (Ne.symm n13)).trans hl, al.mono fun _ _ => LetAt.fr f t.ntm⟩, (upd_ne (Ne.symm n14)).trans t.an, t.want, t.nd⟩
theorem RwAt.upO {H : Hp} {R : RwA} {m : M} (t : RwAt H R m) (g : List Str) {w : Int} (hw : w = g.length) : RwAt (upd H R.o (.lst (g.map V.str))) R { m with out := g, want := w } := by
  obtain ⟨⟨n1, n2, n3, n4, n5⟩, ⟨n6, n7, n8, n9⟩, ⟨n10, n11, n12⟩, ⟨n13, n14⟩, n15⟩ := t.dist
  have f : Fr R.mu H (upd H R.o (.lst (g.map V.str))) := (Fr.refl _ _).upd (by simp [RwA.mu])
  obtain ⟨vs, hl, al⟩ := t.ls
  exact ⟨(upd_ne n2).trans t.dic, f _ _ (fun mm => t.ntm _ mm _ t.bnd) t.bnd, (upd_ne n6).trans t.tx, upd_same, (upd_ne (Ne.symm n10)).trans t.kept, ⟨vs, (upd_ne (Ne.symm n11)).trans hl, al.mono fun _ _ => LetAt.fr f t.ntm⟩, (upd_ne (Ne.symm n12)).trans t.an, hw, t.nd⟩
theorem RwAt.upA {H : Hp} {R : RwA} {m : M} (t : RwAt H R m) (an : List Int) : RwAt (upd H R.a (.lst (an.map V.int))) R { m with an := an } := by
  obtain ⟨⟨n1, n2, n3, n4, n5⟩, ⟨n6, n7, n8, n9⟩, ⟨n10, n11, n12⟩, ⟨n13, n14⟩, n15⟩ := t.dist
  have f : Fr R.mu H (upd H R.a (.lst (an.map V.int))) := (Fr.refl _ _).upd (by simp [RwA.mu])
  obtain ⟨vs, hl, al⟩ := t.ls
  exact ⟨(upd_ne n5).trans t.dic, f _ _ (fun mm => t.ntm _ mm _ t.bnd) t.bnd, (upd_ne n9).trans t.tx, (upd_ne n12).trans t.out, (upd_ne n14).trans t.kept, ⟨vs, (upd_ne n15).trans hl, al.mono fun _ _ => LetAt.fr f t.ntm⟩, upd_same, t.want, t.nd⟩
theorem RwAt.upB {H : Hp} {R : RwA} {m : M} (t : RwAt H R m) (y : Int) : RwAt (upd H R.m (.dK (mD R.b m.ring R.x y m.top R.o R.k R.l R.a))) R { m with base := y } := by
  obtain ⟨⟨n1, n2, n3, n4, n5⟩, ⟨n6, n7, n8, n9⟩, ⟨n10, n11, n12⟩, ⟨n13, n14⟩, n15⟩ := t.dist
  have f : Fr R.mu H (upd H R.m (.dK (mD R.b m.ring R.x y m.top R.o R.k R.l R.a))) := (Fr.refl _ _).upd (by simp [RwA.mu])
  obtain ⟨vs, hl, al⟩ := t.ls
  exact ⟨upd_same, f _ _ (fun mm => t.ntm _ mm _ t.bnd) t.bnd, (upd_ne (Ne.symm n1)).trans t.tx, (upd_ne (Ne.symm n2)).trans t.out, (upd_ne (Ne.symm n3)).trans t.kept, ⟨vs, (upd_ne (Ne.symm n4)).trans hl, al.mono fun _ _ => LetAt.fr f t.ntm⟩, (upd_ne (Ne.symm n5)).trans t.an, t.want, t.nd⟩
end RP

namespace RP
open PySem PySem.Spec PyProof.Rows L2 L2H
abbrev s__law_hand : Stmt := top 28
abbrev N__law_hand : List Str := ["_law_m", "_law_number", "_law_bears", "_law_text", "_law_want", "_law_step"]
theorem sc__law_hand : FnScope N__law_hand ["_law_m", "_law_number"] (defScope s__law_hand) := ⟨rfl, rfl, rfl, by decide +kernel, rfl, by decide +kernel, by decide +kernel⟩
def sp__law_hand (K : PySem.W.Frag) : Sp := fun vs H Q E => ∃ (R : RwA) (m : M) (N : Nat) (n : Int), vs = [.ref R.m, .int n] ∧ RwAt H R m ∧ m.Ok N ∧ N < 90000 ∧ 0 ≤ n ∧
  (∀ t m', m.hand n = some (t, m') → Told H R Q t m') ∧ (m.hand n = none → Refd H Q "letter")
theorem ok__law_hand {P : Program} {w : World} {K : PySem.W.Frag} {mg : Str → Option Value} {base : Heap} (F : FnP K ("_law_hand", none) "_law_hand" "_law_hand" s__law_hand) (hm : mg "_law_hand" = some (.ref (He.ga K "_law_hand"))) (bl : Blt mg) (c__law_is_there : Cal P w K mg base 1 "_law_is_there" (sp__law_is_there K)) : Cal P w K mg base 2 "_law_hand" (sp__law_hand K) := by
  refine fn_cal F hm sc__law_hand (fun vs H Q E => by walk_at "len") (fun _ _ _ _ _ _ us hl => match us, hl with | [_, _], _ => rfl) (fun f cdv A outer s H vs Q E hr h => ?_)
  have hu := hu_of hr
  obtain ⟨R, m, N, n, rfl, t, ok, hN, hn, q1, q2⟩ := h
  obtain ⟨vs, hl, al⟩ := t.ls
  have hvl := al.length
  have eh : m.hand n = if isT n m.ls.length m.d = true then some ((m.an.length : Int), m.handed (m.ls.getD n.toNat (0, ""))) else none := rfl
  refine ⟨_, (pss_cons (ps_if (pt_not (pt_val (pe_fn c__law_is_there (hr.mono (by decide)) (L2N.takes_of rfl rfl rfl rfl) (pa_cons (pe_getD (by exact hu) (pv 0) pe_str (fun _ _ => rfl)) (pa_cons (pv 1) (pa_cons (pe_ix ix_C (pe_getD (by exact hu) (pv 0) pe_str (fun _ _ => rfl)) pe_int (fun _ _ => rfl)) pa_nil))))))
  (pss_one (ps_ret (pe_tup (pa_cons pe_str (pa_cons pe_str pa_nil)))))
  pss_nil)
  (pss_cons (ps_asg (pe_ix ix_C (pe_getD (by exact hu) (pv 0) pe_str (fun _ _ => rfl)) (pv 1) (fun _ _ => rfl)) (pg_tupC (n := 2) rfl (pgs_cons (pg_name (i := 2) sc__law_hand.nd rfl (Or.inl rfl)) (pgs_cons (pg_name (i := 3) sc__law_hand.nd rfl (Or.inl rfl)) pgs_nil))))
  (pss_cons (ps_set (i := 4) sc__law_hand.nd rfl (Or.inl rfl) (pe_callB call_lenC (by rfl) (bl.len) (by decide +kernel) (pa_cons (pe_getD (by exact hu) (pv 0) pe_str (fun _ _ => rfl)) pa_nil)))
  (pss_cons (ps_for (passes_of rfl) rfl (pi_range1 rfl (bl.range) (pa_cons (pe_ix ix_C (pe_getD (by exact hu) (pv 0) pe_str (fun _ _ => rfl)) pe_int (fun _ _ => rfl)) pa_nil)) (pg_name (i := 5) sc__law_hand.nd rfl (Or.inl rfl))
  (pss_one (ps_if (PW.pt (pw_and (pt_cmpR op_lt (pv 5) (pe_getD (by exact hu) (pv 0) pe_str (fun _ _ => rfl)) (nomark _)) (pw_and (pt_cmpR op_eq (pe_op op_mod (pe_op op_sub (pe_op op_add (pv 4) (pv 5)) (pv 2)) (pe_getD (by exact hu) (pv 0) pe_str (fun _ _ => rfl))) pe_int (nomark _)) (pw_and1 (pt_cmp (pc_notinD (by exact hu) (pe_op op_add (pv 4) (pv 5)) (pe_getD (by exact hu) (pv 0) pe_str (fun _ _ => rfl))))))))
  (pss_one (ps_putD (by exact hu) (pe_getD (by exact hu) (pv 0) pe_str (fun _ _ => rfl)) (pe_op op_add (pv 4) (pv 5)) (pv 3) rfl))
  pss_nil)))
  (pss_cons (ps_while (passes_of rfl) (pt_cmp (pc_inD (by exact hu) (pe_callB call_lenC (by rfl) (bl.len) (by decide +kernel) (pa_cons (pe_getD (by exact hu) (pv 0) pe_str (fun _ _ => rfl)) pa_nil)) (pe_getD (by exact hu) (pv 0) pe_str (fun _ _ => rfl))))
  (pss_one (ps_expr (pe_app (pe_getD (by exact hu) (pv 0) pe_str (fun _ _ => rfl)) (pe_popD (pe_getD (by exact hu) (pv 0) pe_str (fun _ _ => rfl)) (pe_callB call_lenC (by rfl) (bl.len) (by decide +kernel) (pa_cons (pe_getD (by exact hu) (pv 0) pe_str (fun _ _ => rfl)) pa_nil)) ⟨rfl, rfl, rfl, rfl⟩)))))
  (pss_cons (ps_expr (pe_app (pe_getD (by exact hu) (pv 0) pe_str (fun _ _ => rfl)) (pe_op op_mod (pe_callB call_lenC (by rfl) (bl.len) (by decide +kernel) (pa_cons (pe_getD (by exact hu) (pv 0) pe_str (fun _ _ => rfl)) pa_nil)) (pe_getD (by exact hu) (pv 0) pe_str (fun _ _ => rfl)))))
  (pss_one (ps_ret (pe_tup (pa_cons pe_str (pa_cons (pe_op op_sub (pe_callB call_lenC (by rfl) (bl.len) (by decide +kernel) (pa_cons (pe_getD (by exact hu) (pv 0) pe_str (fun _ _ => rfl)) pa_nil)) pe_int) pa_nil))))))))))), ?_⟩
  walk_at "st0"
  refine seq_gen fun N_a h_a => ?_
  simp only [RDa, RDb, RDv, RDk, RDx, RDe, RDd, RDp, RDq, List.getElem?_cons_zero, List.getElem?_cons_succ, List.set_cons_zero, List.set_cons_succ, List.cons.injEq, List.cons_ne_nil, reduceCtorEq, exists_eq_left', exists_eq_left, exists_and_left, and_assoc, exists_const, true_and, and_true, if_true, if_false, false_and, and_false, exists_false, false_or, or_false, true_implies, false_implies, implies_true, forall_eq, forall_eq', Bool.false_eq_true, if_neg, decide_eq_true_eq, Bool.not_eq_true', decide_eq_false_iff_not, Bool.not_true, Bool.not_false, List.length_cons, List.length_nil, sizeLine_eq, Nat.reduceAdd, Nat.reduceLeDiff, Nat.reduceLT, Int.reduceLT, Int.reduceLE, Int.emod_nonneg, ne_eq, Int.reduceEq, not_false_eq_true, not_true_eq_false, mL, t.dic, seqO_tup t.bnd]
  refine ⟨R.l, vs, n, m.d, rfl, hl, hn, ?_⟩
  rw [← hvl]
  cases hT : isT n m.ls.length m.d with
  | false =>
    simp only [RDa, RDb, RDv, RDk, RDx, RDe, RDd, RDp, RDq, List.getElem?_cons_zero, List.getElem?_cons_succ, List.set_cons_zero, List.set_cons_succ, List.cons.injEq, List.cons_ne_nil, reduceCtorEq, exists_eq_left', exists_eq_left, exists_and_left, and_assoc, exists_const, true_and, and_true, if_true, if_false, false_and, and_false, exists_false, false_or, or_false, true_implies, false_implies, implies_true, forall_eq, forall_eq', Bool.false_eq_true, if_neg, decide_eq_true_eq, Bool.not_eq_true', decide_eq_false_iff_not, Bool.not_true, Bool.not_false, List.length_cons, List.length_nil, sizeLine_eq, Nat.reduceAdd, Nat.reduceLeDiff, Nat.reduceLT, Int.reduceLT, Int.reduceLE, Int.emod_nonneg, ne_eq, Int.reduceEq, not_false_eq_true, not_true_eq_false]
    exact fun p np => q2 (by rw [eh, hT]; rfl) _ p (same_new np) np upd_same
  | true =>
    rw [hT, if_pos rfl] at eh
    have hT' := isT_iff.mp hT
    simp only [RDa, RDb, RDv, RDk, RDx, RDe, RDd, RDp, RDq, List.getElem?_cons_zero, List.getElem?_cons_succ, List.set_cons_zero, List.set_cons_succ, List.cons.injEq, List.cons_ne_nil, reduceCtorEq, exists_eq_left', exists_eq_left, exists_and_left, and_assoc, exists_const, true_and, and_true, if_true, if_false, false_and, and_false, exists_false, false_or, or_false, true_implies, false_implies, implies_true, forall_eq, forall_eq', Bool.false_eq_true, if_neg, decide_eq_true_eq, Bool.not_eq_true', decide_eq_false_iff_not, Bool.not_true, Bool.not_false, List.length_cons, List.length_nil, sizeLine_eq, Nat.reduceAdd, Nat.reduceLeDiff, Nat.reduceLT, Int.reduceLT, Int.reduceLE, Int.emod_nonneg, ne_eq, Int.reduceEq, not_false_eq_true, not_true_eq_false]
    refine h_a _ _ ?_
    clear h_a q2
    obtain ⟨qq, hqq⟩ : ∃ qq, qq = m.ls.getD n.toNat (0, "") := ⟨_, rfl⟩
    rw [← hqq] at eh
    obtain ⟨lp, hlp, hlt⟩ : ∃ lp, atI vs n = some (.ref lp) ∧ H lp = some (.tup [.int qq.1, .str qq.2]) := by
      have hi : n.toNat < m.ls.length := by omega
      obtain ⟨v, hv, a, rfl, ha⟩ := al.getL (i := n.toNat) (List.getElem?_eq_getElem hi)
      refine ⟨a, ?_, ?_⟩
      · rw [show n = ((n.toNat : Nat) : Int) by omega]
        exact atI_nat hv
      · rw [ha, hqq, List.getD_eq_getElem?_getD, List.getElem?_eq_getElem hi]
        rfl
    refine seq_gen fun N_b h_b => ?_
    simp only [RDa, RDb, RDv, RDk, RDx, RDe, RDd, RDp, RDq, List.getElem?_cons_zero, List.getElem?_cons_succ, List.set_cons_zero, List.set_cons_succ, List.cons.injEq, List.cons_ne_nil, reduceCtorEq, exists_eq_left', exists_eq_left, exists_and_left, and_assoc, exists_const, true_and, and_true, if_true, if_false, false_and, and_false, exists_false, false_or, or_false, true_implies, false_implies, implies_true, forall_eq, forall_eq', Bool.false_eq_true, if_neg, decide_eq_true_eq, Bool.not_eq_true', decide_eq_false_iff_not, Bool.not_true, Bool.not_false, List.length_cons, List.length_nil, sizeLine_eq, Nat.reduceAdd, Nat.reduceLeDiff, Nat.reduceLT, Int.reduceLT, Int.reduceLE, Int.emod_nonneg, ne_eq, Int.reduceEq, not_false_eq_true, not_true_eq_false, mL, t.dic, seqO_lst hl, hlp, hlt]
    refine h_b _ _ ?_
    clear h_b
    refine seq_gen fun N_c h_c => ?_
    simp only [RDa, RDb, RDv, RDk, RDx, RDe, RDd, RDp, RDq, List.getElem?_cons_zero, List.getElem?_cons_succ, List.set_cons_zero, List.set_cons_succ, List.cons.injEq, List.cons_ne_nil, reduceCtorEq, exists_eq_left', exists_eq_left, exists_and_left, and_assoc, exists_const, true_and, and_true, if_true, if_false, false_and, and_false, exists_false, false_or, or_false, true_implies, false_implies, implies_true, forall_eq, forall_eq', Bool.false_eq_true, if_neg, decide_eq_true_eq, Bool.not_eq_true', decide_eq_false_iff_not, Bool.not_true, Bool.not_false, List.length_cons, List.length_nil, sizeLine_eq, Nat.reduceAdd, Nat.reduceLeDiff, Nat.reduceLT, Int.reduceLT, Int.reduceLE, Int.emod_nonneg, ne_eq, Int.reduceEq, not_false_eq_true, not_true_eq_false, mL, t.dic, lenO_lst t.out]
    rw [List.length_map, ← t.want]
    refine h_c _ _ ?_
    clear h_c
    have hr0 := ok.g1
    have hr1 := ok.r1
    have hr2 := ok.r2
    have hw0 : 0 ≤ m.want := by rw [t.want]; omega
    have hsm := md_rng (qq.1 - m.want) (show (0 : Int) < m.ring by omega)
    have hput := tkPut_le m.r m.ring m.want m.kept qq.1 qq.2
    have hok := ok.ok
    obtain ⟨kp, ekp⟩ : ∃ kp, kp = tkPut m.r m.ring m.want m.kept qq.1 qq.2 := ⟨_, rfl⟩
    rw [← ekp] at hput
    refine seq_rel (fun σ H1 => (∃ u5, σ = [some (.ref R.m), some (.int n), some (.int qq.1), some (.str qq.2), some (.int m.want), u5]) ∧ Fr R.mu H H1 ∧ RwAt H1 R { m with kept := kp }) (fun N_d h_d => ?_) ?_
    · obtain ⟨Inv, hI⟩ : ∃ Inv : Nat → L2.St → Hp → Prop, ∀ i σ H1, Inv i σ H1 ↔ (∃ u5, σ = [some (.ref R.m), some (.int n), some (.int qq.1), some (.str qq.2), some (.int m.want), u5]) ∧ Fr R.mu H H1 ∧ RwAt H1 R { m with kept := if (qq.1 - m.want) % m.ring < i then kp else m.kept } := ⟨_, fun _ _ _ => Iff.rfl⟩
      refine for_rcut 0 m.r.toNat (fun H1 => H1 = H) ?_ Inv ?_ ?_ ?_
      · intro Z hZ
        simp only [RDa, RDb, RDv, RDk, RDx, RDe, RDd, RDp, RDq, List.getElem?_cons_zero, List.getElem?_cons_succ, List.set_cons_zero, List.set_cons_succ, List.cons.injEq, List.cons_ne_nil, reduceCtorEq, exists_eq_left', exists_eq_left, exists_and_left, and_assoc, exists_const, true_and, and_true, if_true, if_false, false_and, and_false, exists_false, false_or, or_false, true_implies, false_implies, implies_true, forall_eq, forall_eq', Bool.false_eq_true, if_neg, decide_eq_true_eq, Bool.not_eq_true', decide_eq_false_iff_not, Bool.not_true, Bool.not_false, List.length_cons, List.length_nil, sizeLine_eq, Nat.reduceAdd, Nat.reduceLeDiff, Nat.reduceLT, Int.reduceLT, Int.reduceLE, Int.emod_nonneg, ne_eq, Int.reduceEq, not_false_eq_true, not_true_eq_false, mL, t.dic, seqO_tup t.bnd]
        exact ⟨by omega, by omega, hZ H rfl⟩
      · rintro H1 rfl
        refine (hI _ _ _).mpr ⟨⟨_, rfl⟩, Fr.refl _ _, ?_⟩
        rw [if_neg (by omega)]
        exact t
      · rintro i σ H1 hi z
        obtain ⟨⟨u5, rfl⟩, f1, t1⟩ := (hI _ _ _).mp z
        have bnd1 : H1 R.b = some (.tup [.int m.w, .int m.r, .int m.d, .int m.b]) := t1.bnd
        have dic1 : H1 R.m = some (.dK (mD R.b m.ring R.x m.base m.top R.o R.k R.l R.a)) := t1.dic
        have kept1 : H1 R.k = some (.dK (kvs (if (qq.1 - m.want) % m.ring < i then kp else m.kept))) := t1.kept
        rw [Int.zero_add]
        have fin : ∀ H2, Fr R.mu H H2 → RwAt H2 R { m with kept := if (qq.1 - m.want) % m.ring < ((i + 1 : Nat) : Int) then kp else m.kept } → Inv (i + 1) [some (.ref R.m), some (.int n), some (.int qq.1), some (.str qq.2), some (.int m.want), some (.int i)] H2 := fun H2 f2 t2 => (hI _ _ _).mpr ⟨⟨_, rfl⟩, f2, t2⟩
        by_cases ci : (i : Int) < m.ring
        · have hmod : (m.want + (i : Int) - qq.1) % m.ring = 0 ↔ (qq.1 - m.want) % m.ring = (i : Int) := by
            rw [show m.want + (i : Int) - qq.1 = (i : Int) - (qq.1 - m.want) by omega, Int.emod_eq_emod_iff_emod_sub_eq_zero.symm, Int.emod_eq_of_lt (by omega) ci]
            exact eq_comm
          by_cases c2 : (qq.1 - m.want) % m.ring = (i : Int)
          · have n1 : ¬ ((qq.1 - m.want) % m.ring < (i : Int)) := by omega
            have n2 : (qq.1 - m.want) % m.ring < ((i + 1 : Nat) : Int) := by omega
            rw [if_neg n1] at kept1 t1
            rw [if_pos n2] at fin
            have c2' := hmod.mpr c2
            simp only [RDa, RDb, RDv, RDk, RDx, RDe, RDd, RDp, RDq, List.getElem?_cons_zero, List.getElem?_cons_succ, List.set_cons_zero, List.set_cons_succ, List.cons.injEq, List.cons_ne_nil, reduceCtorEq, exists_eq_left', exists_eq_left, exists_and_left, and_assoc, exists_const, true_and, and_true, if_true, if_false, false_and, and_false, exists_false, false_or, or_false, true_implies, false_implies, implies_true, forall_eq, forall_eq', Bool.false_eq_true, if_neg, decide_eq_true_eq, Bool.not_eq_true', decide_eq_false_iff_not, Bool.not_true, Bool.not_false, List.length_cons, List.length_nil, sizeLine_eq, Nat.reduceAdd, Nat.reduceLeDiff, Nat.reduceLT, Int.reduceLT, Int.reduceLE, Int.emod_nonneg, ne_eq, Int.reduceEq, not_false_eq_true, not_true_eq_false, mL, dic1, kept1, kvs_get, ci, c2', show 0 < m.ring by omega]
            cases hg : hget m.kept (m.want + (i : Int)) with
            | some z =>
              have e : kp = m.kept := by
                rw [ekp]
                unfold tkPut
                rw [c2, hg, if_neg (by simp)]
              rw [e] at fin
              exact fin H1 f1 t1
            | none =>
              have e : kp = m.kept ++ [(m.want + (i : Int), qq.2)] := by
                rw [ekp]
                unfold tkPut
                rw [c2, hg, if_pos ⟨by omega, rfl⟩]
              rw [if_pos (by simp), kvs_put qq.2 hg, kvs_length, ← e]
              exact ⟨by omega, fin _ (f1.upd (by simp [RwA.mu])) (t1.upK kp)⟩
          · have c1 : ¬ (m.want + (i : Int) - qq.1) % m.ring = 0 := fun e => c2 (hmod.mp e)
            have n3 : ((qq.1 - m.want) % m.ring < ((i + 1 : Nat) : Int)) = ((qq.1 - m.want) % m.ring < (i : Int)) := by
              apply propext
              constructor <;> intro h <;> omega
            simp only [n3] at fin
            have ff := fin H1 f1 t1
            simp only [RDa, RDb, RDv, RDk, RDx, RDe, RDd, RDp, RDq, List.getElem?_cons_zero, List.getElem?_cons_succ, List.set_cons_zero, List.set_cons_succ, List.cons.injEq, List.cons_ne_nil, reduceCtorEq, exists_eq_left', exists_eq_left, exists_and_left, and_assoc, exists_const, true_and, and_true, if_true, if_false, false_and, and_false, exists_false, false_or, or_false, true_implies, false_implies, implies_true, forall_eq, forall_eq', Bool.false_eq_true, if_neg, decide_eq_true_eq, Bool.not_eq_true', decide_eq_false_iff_not, Bool.not_true, Bool.not_false, List.length_cons, List.length_nil, sizeLine_eq, Nat.reduceAdd, Nat.reduceLeDiff, Nat.reduceLT, Int.reduceLT, Int.reduceLE, Int.emod_nonneg, ne_eq, Int.reduceEq, not_false_eq_true, not_true_eq_false, mL, dic1, kept1, kvs_get, ci, c1, show 0 < m.ring by omega]
            exact ff
        · have n3 : ((qq.1 - m.want) % m.ring < ((i + 1 : Nat) : Int)) = ((qq.1 - m.want) % m.ring < (i : Int)) := by
            apply propext
            constructor <;> intro h <;> omega
          simp only [n3] at fin
          have ff := fin H1 f1 t1
          simp only [RDa, RDb, RDv, RDk, RDx, RDe, RDd, RDp, RDq, List.getElem?_cons_zero, List.getElem?_cons_succ, List.set_cons_zero, List.set_cons_succ, List.cons.injEq, List.cons_ne_nil, reduceCtorEq, exists_eq_left', exists_eq_left, exists_and_left, and_assoc, exists_const, true_and, and_true, if_true, if_false, false_and, and_false, exists_false, false_or, or_false, true_implies, false_implies, implies_true, forall_eq, forall_eq', Bool.false_eq_true, if_neg, decide_eq_true_eq, Bool.not_eq_true', decide_eq_false_iff_not, Bool.not_true, Bool.not_false, List.length_cons, List.length_nil, sizeLine_eq, Nat.reduceAdd, Nat.reduceLeDiff, Nat.reduceLT, Int.reduceLT, Int.reduceLE, Int.emod_nonneg, ne_eq, Int.reduceEq, not_false_eq_true, not_true_eq_false, mL, dic1, kept1, ci]
          exact ff
      · rintro σ H1 z
        obtain ⟨⟨u5, rfl⟩, f1, t1⟩ := (hI _ _ _).mp z
        refine h_d _ _ ⟨⟨u5, rfl⟩, f1, ?_⟩
        have ek : (if (qq.1 - m.want) % m.ring < ((m.r.toNat : Nat) : Int) then kp else m.kept) = kp := by
          split
          · rfl
          · rename_i c
            rw [ekp]
            unfold tkPut
            rw [if_neg (fun h => by omega)]
        rw [ek] at t1
        exact t1
    rintro _ H1 ⟨⟨u5, rfl⟩, f1, t1⟩
    have e1 : tkCame m.r m.ring m.want m.out m.kept qq.1 qq.2 = drained m.want m.out kp := by rw [ekp]; rfl
    refine seq_rel (fun σ H2 => σ = [some (.ref R.m), some (.int n), some (.int qq.1), some (.str qq.2), some (.int m.want), u5] ∧ Fr R.mu H H2 ∧ ∃ w2 g2 h2, g2.length + h2.length ≤ N + 1 ∧ RwAt H2 R { m with want := w2, out := g2, kept := h2 } ∧ tkCame m.r m.ring m.want m.out m.kept qq.1 qq.2 = (w2, g2, h2)) (fun N_e h_e => ?_) ?_
    · obtain ⟨Inv, hI⟩ : ∃ Inv : Nat → L2.St → Hp → Prop, ∀ mm σ H2, Inv mm σ H2 ↔ (σ = [some (.ref R.m), some (.int n), some (.int qq.1), some (.str qq.2), some (.int m.want), u5] ∧ Fr R.mu H H2 ∧ ∃ w2 g2 h2, h2.length = mm ∧ g2.length + h2.length ≤ N + 1 ∧ RwAt H2 R { m with want := w2, out := g2, kept := h2 } ∧ tkCame m.r m.ring m.want m.out m.kept qq.1 qq.2 = drained w2 g2 h2) := ⟨_, fun _ _ _ => Iff.rfl⟩
      refine ⟨Inv, ⟨kp.length, (hI _ _ _).mpr ⟨rfl, f1, m.want, m.out, kp, rfl, by omega, t1, e1⟩⟩, ?_⟩
      rintro mm σ H2 z
      obtain ⟨rfl, f2, w2, g2, h2, rfl, l2, t2, e2⟩ := (hI _ _ _).mp z
      have dic2 : H2 R.m = some (.dK (mD R.b m.ring R.x m.base m.top R.o R.k R.l R.a)) := t2.dic
      have out2 : H2 R.o = some (.lst (g2.map V.str)) := t2.out
      have kept2 : H2 R.k = some (.dK (kvs h2)) := t2.kept
      have wnt2 : w2 = g2.length := t2.want
      have lnt : ((g2.map V.str).length : Int) = w2 := by rw [List.length_map, wnt2]
      simp only [RDa, RDb, RDv, RDk, RDx, RDe, RDd, RDp, RDq, List.getElem?_cons_zero, List.getElem?_cons_succ, List.set_cons_zero, List.set_cons_succ, List.cons.injEq, List.cons_ne_nil, reduceCtorEq, exists_eq_left', exists_eq_left, exists_and_left, and_assoc, exists_const, true_and, and_true, if_true, if_false, false_and, and_false, exists_false, false_or, or_false, true_implies, false_implies, implies_true, forall_eq, forall_eq', Bool.false_eq_true, if_neg, decide_eq_true_eq, Bool.not_eq_true', decide_eq_false_iff_not, Bool.not_true, Bool.not_false, List.length_cons, List.length_nil, sizeLine_eq, Nat.reduceAdd, Nat.reduceLeDiff, Nat.reduceLT, Int.reduceLT, Int.reduceLE, Int.emod_nonneg, ne_eq, Int.reduceEq, not_false_eq_true, not_true_eq_false, mL, dic2, lenO_lst out2, kept2, kvs_get, lnt]
      cases hg : hget h2 w2 with
      | none =>
        rw [if_neg (by simp)]
        rw [drained_none hg] at e2
        exact h_e _ _ ⟨rfl, f2, w2, g2, h2, l2, t2, e2⟩
      | some z =>
        rw [if_pos (by simp)]
        have l3 := hdrop_lt hg
        refine ⟨_, fun _ _ z => z, ?_⟩
        obtain ⟨_, _, ⟨n10, _, _⟩, _, _⟩ := t2.dist
        have n10 : R.o ≠ R.k := n10
        refine ⟨_, out2, _, rfl, g2.map V.str, (upd_ne n10).trans out2, by rw [List.length_map]; omega, (hdrop h2 w2).length, l3, (hI _ _ _).mpr ⟨rfl, (f2.upd (by simp [RwA.mu])).upd (by simp [RwA.mu]), w2 + 1, g2 ++ [z], hdrop h2 w2, rfl, by rw [List.length_append]; simp only [List.length_cons, List.length_nil]; omega, ?_, by rw [e2, drained_some hg]⟩⟩
        rw [kvs_drop]
        have t3 := (t2.upK (hdrop h2 w2)).upO (g2 ++ [z]) (w := w2 + 1) (by rw [List.length_append, wnt2]; rfl)
        rw [List.map_append] at t3
        exact t3
    rintro _ H2 ⟨rfl, f2, w2, g2, h2, l2, t2, e2⟩
    have dic2 : H2 R.m = some (.dK (mD R.b m.ring R.x m.base m.top R.o R.k R.l R.a)) := t2.dic
    have out2 : H2 R.o = some (.lst (g2.map V.str)) := t2.out
    have an2 : H2 R.a = some (.lst (m.an.map V.int)) := t2.an
    have wnt2 : w2 = g2.length := t2.want
    have lnt : ((g2.map V.str).length : Int) = w2 := by rw [List.length_map, wnt2]
    refine seq_gen fun N_f h_f => ?_
    simp only [RDa, RDb, RDv, RDk, RDx, RDe, RDd, RDp, RDq, List.getElem?_cons_zero, List.getElem?_cons_succ, List.set_cons_zero, List.set_cons_succ, List.cons.injEq, List.cons_ne_nil, reduceCtorEq, exists_eq_left', exists_eq_left, exists_and_left, and_assoc, exists_const, true_and, and_true, if_true, if_false, false_and, and_false, exists_false, false_or, or_false, true_implies, false_implies, implies_true, forall_eq, forall_eq', Bool.false_eq_true, if_neg, decide_eq_true_eq, Bool.not_eq_true', decide_eq_false_iff_not, Bool.not_true, Bool.not_false, List.length_cons, List.length_nil, sizeLine_eq, Nat.reduceAdd, Nat.reduceLeDiff, Nat.reduceLT, Int.reduceLT, Int.reduceLE, Int.emod_nonneg, ne_eq, Int.reduceEq, not_false_eq_true, not_true_eq_false, mL, dic2, lenO_lst out2, an2, lnt]
    have han := ok.an
    refine ⟨by omega, by rw [List.length_map]; omega, h_f _ _ ?_⟩
    clear h_f
    have t3 := t2.upA (m.an ++ [w2 % m.ring])
    have f3 : Fr R.mu H (upd H2 R.a (.lst ((m.an ++ [w2 % m.ring]).map V.int))) := f2.upd (by simp [RwA.mu])
    rw [show m.an.map V.int ++ [V.int (w2 % m.ring)] = (m.an ++ [w2 % m.ring]).map V.int by rw [List.map_append]; rfl]
    generalize upd H2 R.a (.lst ((m.an ++ [w2 % m.ring]).map V.int)) = H3 at t3 f3
    have dic3 : H3 R.m = some (.dK (mD R.b m.ring R.x m.base m.top R.o R.k R.l R.a)) := t3.dic
    have an3 : H3 R.a = some (.lst ((m.an ++ [w2 % m.ring]).map V.int)) := t3.an
    simp only [RDa, RDb, RDv, RDk, RDx, RDe, RDd, RDp, RDq, List.getElem?_cons_zero, List.getElem?_cons_succ, List.set_cons_zero, List.set_cons_succ, List.cons.injEq, List.cons_ne_nil, reduceCtorEq, exists_eq_left', exists_eq_left, exists_and_left, and_assoc, exists_const, true_and, and_true, if_true, if_false, false_and, and_false, exists_false, false_or, or_false, true_implies, false_implies, implies_true, forall_eq, forall_eq', Bool.false_eq_true, if_neg, decide_eq_true_eq, Bool.not_eq_true', decide_eq_false_iff_not, Bool.not_true, Bool.not_false, List.length_cons, List.length_nil, sizeLine_eq, Nat.reduceAdd, Nat.reduceLeDiff, Nat.reduceLT, Int.reduceLT, Int.reduceLE, Int.emod_nonneg, ne_eq, Int.reduceEq, not_false_eq_true, not_true_eq_false, mL, dic3, lenO_lst an3]
    intro q nq
    have e : (((m.an ++ [w2 % m.ring]).map V.int).length : Int) - 1 = m.an.length := by
      rw [List.length_map, List.length_append]
      show ((m.an.length + 1 : Nat) : Int) - 1 = _
      omega
    rw [e]
    have emh : m.handed qq = { m with want := w2, out := g2, kept := h2, an := m.an ++ [w2 % m.ring] } := by
      unfold M.handed
      rw [e2]
    rw [emh] at eh
    exact q1 _ _ eh _ q (f3.new nq) (RwAt.same t3 (same_new nq)) (RwAt.free t3 f3 nq) upd_same
end RP

namespace RP
open PySem PySem.Spec PyProof.Rows L2 L2H
abbrev s__law_tell : Stmt := top 29
abbrev N__law_tell : List Str := ["_law_m", "_law_number", "_law_step"]
theorem sc__law_tell : FnScope N__law_tell ["_law_m", "_law_number"] (defScope s__law_tell) := ⟨rfl, rfl, rfl, by decide +kernel, rfl, by decide +kernel, by decide +kernel⟩
def sp__law_tell (K : PySem.W.Frag) : Sp := fun vs H Q E => ∃ (R : RwA) (m : M) (N : Nat) (n : Int), vs = [.ref R.m, .int n] ∧ RwAt H R m ∧ m.Ok N ∧ N < 90000 ∧ 0 ≤ n ∧
  (∀ t m', m.tell n = some (t, m') → Told H R Q t m') ∧ (m.tell n = none → Refd H Q "letter")
theorem ok__law_tell {P : Program} {w : World} {K : PySem.W.Frag} {mg : Str → Option Value} {base : Heap} (F : FnP K ("_law_tell", none) "_law_tell" "_law_tell" s__law_tell) (hm : mg "_law_tell" = some (.ref (He.ga K "_law_tell"))) (bl : Blt mg) (c__law_is_there : Cal P w K mg base 1 "_law_is_there" (sp__law_is_there K)) : Cal P w K mg base 2 "_law_tell" (sp__law_tell K) := by
  refine fn_cal F hm sc__law_tell (fun vs H Q E => by walk_at "len") (fun _ _ _ _ _ _ us hl => match us, hl with | [_, _], _ => rfl) (fun f cdv A outer s H vs Q E hr h => ?_)
  have hu := hu_of hr
  obtain ⟨R, m, N, n, rfl, t, ok, hN, hn, q1, q2⟩ := h
  have eh : m.tell n = if isT n m.an.length m.b = true then some (sBase m.base m.top m.ring (m.an.getD n.toNat 0), { m with base := sBase m.base m.top m.ring (m.an.getD n.toNat 0) }) else none := rfl
  refine ⟨_, (pss_cons (ps_if (pt_not (pt_val (pe_fn c__law_is_there (hr.mono (by decide)) (L2N.takes_of rfl rfl rfl rfl) (pa_cons (pe_getD (by exact hu) (pv 0) pe_str (fun _ _ => rfl)) (pa_cons (pv 1) (pa_cons (pe_ix ix_C (pe_getD (by exact hu) (pv 0) pe_str (fun _ _ => rfl)) pe_int (fun _ _ => rfl)) pa_nil))))))
  (pss_one (ps_ret (pe_tup (pa_cons pe_str (pa_cons pe_str pa_nil)))))
  pss_nil)
  (pss_cons (ps_set (i := 2) sc__law_tell.nd rfl (Or.inl rfl) pe_int)
  (pss_cons (ps_while (passes_of rfl) (pt_cmpR op_ne (pe_op op_mod (pe_op op_sub (pe_op op_add (pe_getD (by exact hu) (pv 0) pe_str (fun _ _ => rfl)) (pv 2)) (pe_ix ix_C (pe_getD (by exact hu) (pv 0) pe_str (fun _ _ => rfl)) (pv 1) (fun _ _ => rfl))) (pe_getD (by exact hu) (pv 0) pe_str (fun _ _ => rfl))) pe_int (nomark _))
  (pss_one (ps_set (i := 2) sc__law_tell.nd rfl (Or.inl rfl) (pe_op op_add (pv 2) pe_int))))
  (pss_cons (ps_if (pt_cmpR op_le (pe_op op_add (pe_getD (by exact hu) (pv 0) pe_str (fun _ _ => rfl)) (pv 2)) (pe_getD (by exact hu) (pv 0) pe_str (fun _ _ => rfl)) (nomark _))
  (pss_one (ps_putD (by exact hu) (pv 0) pe_str (pe_op op_add (pe_getD (by exact hu) (pv 0) pe_str (fun _ _ => rfl)) (pv 2)) rfl))
  pss_nil)
  (pss_one (ps_ret (pe_tup (pa_cons pe_str (pa_cons (pe_getD (by exact hu) (pv 0) pe_str (fun _ _ => rfl)) pa_nil))))))))), ?_⟩
  walk_at "st0"
  refine seq_gen fun N_a h_a => ?_
  simp only [RDa, RDb, RDv, RDk, RDx, RDe, RDd, RDp, RDq, List.getElem?_cons_zero, List.getElem?_cons_succ, List.set_cons_zero, List.set_cons_succ, List.cons.injEq, List.cons_ne_nil, reduceCtorEq, exists_eq_left', exists_eq_left, exists_and_left, and_assoc, exists_const, true_and, and_true, if_true, if_false, false_and, and_false, exists_false, false_or, or_false, true_implies, false_implies, implies_true, forall_eq, forall_eq', Bool.false_eq_true, if_neg, decide_eq_true_eq, Bool.not_eq_true', decide_eq_false_iff_not, Bool.not_true, Bool.not_false, List.length_cons, List.length_nil, sizeLine_eq, Nat.reduceAdd, Nat.reduceLeDiff, Nat.reduceLT, Int.reduceLT, Int.reduceLE, Int.emod_nonneg, ne_eq, Int.reduceEq, not_false_eq_true, not_true_eq_false, mL, t.dic, seqO_tup t.bnd]
  refine ⟨R.a, m.an.map V.int, n, m.b, rfl, t.an, hn, ?_⟩
  rw [List.length_map]
  cases hT : isT n m.an.length m.b with
  | false =>
    simp only [RDa, RDb, RDv, RDk, RDx, RDe, RDd, RDp, RDq, List.getElem?_cons_zero, List.getElem?_cons_succ, List.set_cons_zero, List.set_cons_succ, List.cons.injEq, List.cons_ne_nil, reduceCtorEq, exists_eq_left', exists_eq_left, exists_and_left, and_assoc, exists_const, true_and, and_true, if_true, if_false, false_and, and_false, exists_false, false_or, or_false, true_implies, false_implies, implies_true, forall_eq, forall_eq', Bool.false_eq_true, if_neg, decide_eq_true_eq, Bool.not_eq_true', decide_eq_false_iff_not, Bool.not_true, Bool.not_false, List.length_cons, List.length_nil, sizeLine_eq, Nat.reduceAdd, Nat.reduceLeDiff, Nat.reduceLT, Int.reduceLT, Int.reduceLE, Int.emod_nonneg, ne_eq, Int.reduceEq, not_false_eq_true, not_true_eq_false]
    exact fun p np => q2 (by rw [eh, hT]; rfl) _ p (same_new np) np upd_same
  | true =>
    rw [hT, if_pos rfl] at eh
    have hT' := isT_iff.mp hT
    simp only [RDa, RDb, RDv, RDk, RDx, RDe, RDd, RDp, RDq, List.getElem?_cons_zero, List.getElem?_cons_succ, List.set_cons_zero, List.set_cons_succ, List.cons.injEq, List.cons_ne_nil, reduceCtorEq, exists_eq_left', exists_eq_left, exists_and_left, and_assoc, exists_const, true_and, and_true, if_true, if_false, false_and, and_false, exists_false, false_or, or_false, true_implies, false_implies, implies_true, forall_eq, forall_eq', Bool.false_eq_true, if_neg, decide_eq_true_eq, Bool.not_eq_true', decide_eq_false_iff_not, Bool.not_true, Bool.not_false, List.length_cons, List.length_nil, sizeLine_eq, Nat.reduceAdd, Nat.reduceLeDiff, Nat.reduceLT, Int.reduceLT, Int.reduceLE, Int.emod_nonneg, ne_eq, Int.reduceEq, not_false_eq_true, not_true_eq_false]
    refine h_a _ _ ?_
    clear h_a q2
    obtain ⟨v, hv⟩ : ∃ v, v = m.an.getD n.toNat 0 := ⟨_, rfl⟩
    rw [← hv] at eh
    have hi : n.toNat < m.an.length := by omega
    have hat : atI (m.an.map V.int) n = some (.int v) := by
      rw [show n = ((n.toNat : Nat) : Int) by omega]
      refine atI_nat ?_
      rw [List.getElem?_map, List.getElem?_eq_getElem hi, hv, List.getD_eq_getElem?_getD, List.getElem?_eq_getElem hi]
      rfl
    refine seq_gen fun N_b h_b => ?_
    simp only [RDa, RDb, RDv, RDk, RDx, RDe, RDd, RDp, RDq, List.getElem?_cons_zero, List.getElem?_cons_succ, List.set_cons_zero, List.set_cons_succ, List.cons.injEq, List.cons_ne_nil, reduceCtorEq, exists_eq_left', exists_eq_left, exists_and_left, and_assoc, exists_const, true_and, and_true, if_true, if_false, false_and, and_false, exists_false, false_or, or_false, true_implies, false_implies, implies_true, forall_eq, forall_eq', Bool.false_eq_true, if_neg, decide_eq_true_eq, Bool.not_eq_true', decide_eq_false_iff_not, Bool.not_true, Bool.not_false, List.length_cons, List.length_nil, sizeLine_eq, Nat.reduceAdd, Nat.reduceLeDiff, Nat.reduceLT, Int.reduceLT, Int.reduceLE, Int.emod_nonneg, ne_eq, Int.reduceEq, not_false_eq_true, not_true_eq_false]
    refine h_b _ _ ?_
    clear h_b
    have hr0 := ok.g1
    have hr2 := ok.g2
    have hsm := md_rng (v - m.base) (show (0 : Int) < m.ring by omega)
    refine seq_rel (fun σ H2 => H = H2 ∧ σ = [some (.ref R.m), some (.int n), some (.int ((v - m.base) % m.ring))]) (fun N_c h_c => ?_) ?_
    · refine ⟨fun mm σ H2 => H = H2 ∧ ∃ s : Int, σ = [some (.ref R.m), some (.int n), some (.int s)] ∧ 0 ≤ s ∧ s ≤ (v - m.base) % m.ring ∧ mm = ((v - m.base) % m.ring - s).toNat, ⟨_, rfl, 0, rfl, Int.le_refl _, hsm.1, rfl⟩, ?_⟩
      rintro mm σ H2 ⟨rfl, s, rfl, s0, s1, rfl⟩
      have hmod : (m.base + s - v) % m.ring = 0 ↔ s = (v - m.base) % m.ring := by
        rw [show m.base + s - v = s - (v - m.base) by omega, Int.emod_eq_emod_iff_emod_sub_eq_zero.symm, Int.emod_eq_of_lt s0 (by omega)]
      by_cases c : s = (v - m.base) % m.ring
      · have c' := hmod.mpr c
        simp only [RDa, RDb, RDv, RDk, RDx, RDe, RDd, RDp, RDq, List.getElem?_cons_zero, List.getElem?_cons_succ, List.set_cons_zero, List.set_cons_succ, List.cons.injEq, List.cons_ne_nil, reduceCtorEq, exists_eq_left', exists_eq_left, exists_and_left, and_assoc, exists_const, true_and, and_true, if_true, if_false, false_and, and_false, exists_false, false_or, or_false, true_implies, false_implies, implies_true, forall_eq, forall_eq', Bool.false_eq_true, if_neg, decide_eq_true_eq, Bool.not_eq_true', decide_eq_false_iff_not, Bool.not_true, Bool.not_false, List.length_cons, List.length_nil, sizeLine_eq, Nat.reduceAdd, Nat.reduceLeDiff, Nat.reduceLT, Int.reduceLT, Int.reduceLE, Int.emod_nonneg, ne_eq, Int.reduceEq, not_false_eq_true, not_true_eq_false, mL, t.dic, seqO_lst t.an, hat, c', show 0 < m.ring by omega]
        exact h_c _ _ ⟨rfl, by rw [c]⟩
      · have c' : ¬ (m.base + s - v) % m.ring = 0 := fun e => c (hmod.mp e)
        simp only [RDa, RDb, RDv, RDk, RDx, RDe, RDd, RDp, RDq, List.getElem?_cons_zero, List.getElem?_cons_succ, List.set_cons_zero, List.set_cons_succ, List.cons.injEq, List.cons_ne_nil, reduceCtorEq, exists_eq_left', exists_eq_left, exists_and_left, and_assoc, exists_const, true_and, and_true, if_true, if_false, false_and, and_false, exists_false, false_or, or_false, true_implies, false_implies, implies_true, forall_eq, forall_eq', Bool.false_eq_true, if_neg, decide_eq_true_eq, Bool.not_eq_true', decide_eq_false_iff_not, Bool.not_true, Bool.not_false, List.length_cons, List.length_nil, sizeLine_eq, Nat.reduceAdd, Nat.reduceLeDiff, Nat.reduceLT, Int.reduceLT, Int.reduceLE, Int.emod_nonneg, ne_eq, Int.reduceEq, not_false_eq_true, not_true_eq_false, mL, t.dic, seqO_lst t.an, hat, c', show 0 < m.ring by omega]
        refine ⟨_, fun _ _ z => z, _, ?_, rfl, s + 1, rfl, by omega, by omega, rfl⟩
        omega
    rintro _ _ ⟨rfl, rfl⟩
    refine seq_gen fun N_d h_d => ?_
    simp only [RDa, RDb, RDv, RDk, RDx, RDe, RDd, RDp, RDq, List.getElem?_cons_zero, List.getElem?_cons_succ, List.set_cons_zero, List.set_cons_succ, List.cons.injEq, List.cons_ne_nil, reduceCtorEq, exists_eq_left', exists_eq_left, exists_and_left, and_assoc, exists_const, true_and, and_true, if_true, if_false, false_and, and_false, exists_false, false_or, or_false, true_implies, false_implies, implies_true, forall_eq, forall_eq', Bool.false_eq_true, if_neg, decide_eq_true_eq, Bool.not_eq_true', decide_eq_false_iff_not, Bool.not_true, Bool.not_false, List.length_cons, List.length_nil, sizeLine_eq, Nat.reduceAdd, Nat.reduceLeDiff, Nat.reduceLT, Int.reduceLT, Int.reduceLE, Int.emod_nonneg, ne_eq, Int.reduceEq, not_false_eq_true, not_true_eq_false, mL, t.dic]
    have key : N_d [some (.ref R.m), some (.int n), some (.int ((v - m.base) % m.ring))] (upd H R.m (.dK (mD R.b m.ring R.x (sBase m.base m.top m.ring v) m.top R.o R.k R.l R.a))) := by
      have t2 := t.upB (sBase m.base m.top m.ring v)
      have f2 : Fr R.mu H (upd H R.m (.dK (mD R.b m.ring R.x (sBase m.base m.top m.ring v) m.top R.o R.k R.l R.a))) := (Fr.refl _ _).upd (by simp [RwA.mu])
      generalize upd H R.m (.dK (mD R.b m.ring R.x (sBase m.base m.top m.ring v) m.top R.o R.k R.l R.a)) = H2 at t2 f2
      refine h_d _ _ ?_
      have dic2 : H2 R.m = some (.dK (mD R.b m.ring R.x (sBase m.base m.top m.ring v) m.top R.o R.k R.l R.a)) := t2.dic
      simp only [RDa, RDb, RDv, RDk, RDx, RDe, RDd, RDp, RDq, List.getElem?_cons_zero, List.getElem?_cons_succ, List.set_cons_zero, List.set_cons_succ, List.cons.injEq, List.cons_ne_nil, reduceCtorEq, exists_eq_left', exists_eq_left, exists_and_left, and_assoc, exists_const, true_and, and_true, if_true, if_false, false_and, and_false, exists_false, false_or, or_false, true_implies, false_implies, implies_true, forall_eq, forall_eq', Bool.false_eq_true, if_neg, decide_eq_true_eq, Bool.not_eq_true', decide_eq_false_iff_not, Bool.not_true, Bool.not_false, List.length_cons, List.length_nil, sizeLine_eq, Nat.reduceAdd, Nat.reduceLeDiff, Nat.reduceLT, Int.reduceLT, Int.reduceLE, Int.emod_nonneg, ne_eq, Int.reduceEq, not_false_eq_true, not_true_eq_false, mL, dic2]
      exact fun q nq => q1 _ _ eh _ q (f2.new nq) (RwAt.same t2 (same_new nq)) (RwAt.free t2 f2 nq) upd_same
    unfold sBase at key
    split
    · rename_i c
      rw [if_pos c] at key
      exact key
    · rename_i c
      rw [if_neg c, upd_id t.dic] at key
      exact key
abbrev s__law_moved : Stmt := top 30
abbrev N__law_moved : List Str := ["_law_m", "_law_step"]
theorem sc__law_moved : FnScope N__law_moved ["_law_m", "_law_step"] (defScope s__law_moved) := ⟨rfl, rfl, rfl, by decide +kernel, rfl, by decide +kernel, by decide +kernel⟩
def refW (z : Str) : Str := if z = "send" then "now" else "letter"
def sp__law_moved (K : PySem.W.Frag) : Sp := fun vs H Q E => ∃ (R : RwA) (m : M) (N : Nat) (p : Addr) (z : Str) (n : Int), vs = [.ref R.m, .ref p] ∧ RwAt H R m ∧ m.Ok N ∧ N < 90000 ∧ H p = some (.tup [.str z, .int n]) ∧ isWord z ∧ 0 ≤ n ∧
  (∀ t m', m.step z n = some (t, m') → Told H R Q t m') ∧ (m.step z n = none → Refd H Q (refW z))
theorem ok__law_moved {P : Program} {w : World} {K : PySem.W.Frag} {mg : Str → Option Value} {base : Heap} (F : FnP K ("_law_moved", none) "_law_moved" "_law_moved" s__law_moved) (hm : mg "_law_moved" = some (.ref (He.ga K "_law_moved"))) (bl : Blt mg) (c__law_hand : Cal P w K mg base 2 "_law_hand" (sp__law_hand K)) (c__law_send : Cal P w K mg base 1 "_law_send" (sp__law_send K)) (c__law_tell : Cal P w K mg base 2 "_law_tell" (sp__law_tell K)) : Cal P w K mg base 3 "_law_moved" (sp__law_moved K) := by
  refine fn_cal F hm sc__law_moved (fun vs H Q E => by walk_at "len") (fun _ _ _ _ _ _ us hl => match us, hl with | [_, _], _ => rfl) (fun f cdv A outer s H vs Q E hr h => ?_)
  have hu := hu_of hr
  obtain ⟨R, m, N, p, z, n, rfl, t, ok, hN, hp, hz, hn, q1, q2⟩ := h
  refine ⟨_, (pss_cons (ps_if (pt_cmpR op_eq (pe_ix ix_C (pv 1) pe_int (fun _ _ => rfl)) pe_str (nomark _))
  (pss_one (ps_ret (pe_fn c__law_send (hr.mono (by decide)) (L2N.takes_of rfl rfl rfl rfl) (pa_cons (pv 0) (pa_cons (pe_ix ix_C (pv 1) pe_int (fun _ _ => rfl)) pa_nil)))))
  pss_nil)
  (pss_cons (ps_if (pt_cmpR op_eq (pe_ix ix_C (pv 1) pe_int (fun _ _ => rfl)) pe_str (nomark _))
  (pss_one (ps_ret (pe_fn c__law_hand (hr.mono (by decide)) (L2N.takes_of rfl rfl rfl rfl) (pa_cons (pv 0) (pa_cons (pe_ix ix_C (pv 1) pe_int (fun _ _ => rfl)) pa_nil)))))
  pss_nil)
  (pss_one (ps_ret (pe_fn c__law_tell (hr.mono (by decide)) (L2N.takes_of rfl rfl rfl rfl) (pa_cons (pv 0) (pa_cons (pe_ix ix_C (pv 1) pe_int (fun _ _ => rfl)) pa_nil))))))), ?_⟩
  walk_at "st0"
  rcases hz with rfl | rfl | rfl
  · simp only [RDa, RDb, RDv, RDk, RDx, RDe, RDd, RDp, RDq, List.getElem?_cons_zero, List.getElem?_cons_succ, List.set_cons_zero, List.set_cons_succ, List.cons.injEq, List.cons_ne_nil, reduceCtorEq, exists_eq_left', exists_eq_left, exists_and_left, and_assoc, exists_const, true_and, and_true, if_true, if_false, false_and, and_false, exists_false, false_or, or_false, true_implies, false_implies, implies_true, forall_eq, forall_eq', Bool.false_eq_true, if_neg, decide_eq_true_eq, Bool.not_eq_true', decide_eq_false_iff_not, Bool.not_true, Bool.not_false, List.length_cons, List.length_nil, sizeLine_eq, Nat.reduceAdd, Nat.reduceLeDiff, Nat.reduceLT, Int.reduceLT, Int.reduceLE, Int.emod_nonneg, ne_eq, Int.reduceEq, not_false_eq_true, not_true_eq_false, seqO_tup hp]
    exact ⟨R, m, N, n, rfl, t, ok, hN, hn, q1, q2⟩
  · simp only [RDa, RDb, RDv, RDk, RDx, RDe, RDd, RDp, RDq, List.getElem?_cons_zero, List.getElem?_cons_succ, List.set_cons_zero, List.set_cons_succ, List.cons.injEq, List.cons_ne_nil, reduceCtorEq, exists_eq_left', exists_eq_left, exists_and_left, and_assoc, exists_const, true_and, and_true, if_true, if_false, false_and, and_false, exists_false, false_or, or_false, true_implies, false_implies, implies_true, forall_eq, forall_eq', Bool.false_eq_true, if_neg, decide_eq_true_eq, Bool.not_eq_true', decide_eq_false_iff_not, Bool.not_true, Bool.not_false, List.length_cons, List.length_nil, sizeLine_eq, Nat.reduceAdd, Nat.reduceLeDiff, Nat.reduceLT, Int.reduceLT, Int.reduceLE, Int.emod_nonneg, ne_eq, Int.reduceEq, not_false_eq_true, not_true_eq_false, seqO_tup hp]
    exact ⟨R, m, N, n, rfl, t, ok, hN, hn, q1, q2⟩
  · simp only [RDa, RDb, RDv, RDk, RDx, RDe, RDd, RDp, RDq, List.getElem?_cons_zero, List.getElem?_cons_succ, List.set_cons_zero, List.set_cons_succ, List.cons.injEq, List.cons_ne_nil, reduceCtorEq, exists_eq_left', exists_eq_left, exists_and_left, and_assoc, exists_const, true_and, and_true, if_true, if_false, false_and, and_false, exists_false, false_or, or_false, true_implies, false_implies, implies_true, forall_eq, forall_eq', Bool.false_eq_true, if_neg, decide_eq_true_eq, Bool.not_eq_true', decide_eq_false_iff_not, Bool.not_true, Bool.not_false, List.length_cons, List.length_nil, sizeLine_eq, Nat.reduceAdd, Nat.reduceLeDiff, Nat.reduceLT, Int.reduceLT, Int.reduceLE, Int.emod_nonneg, ne_eq, Int.reduceEq, not_false_eq_true, not_true_eq_false, seqO_tup hp]
    exact ⟨R, m, N, n, rfl, t, ok, hN, hn, q1, q2⟩
end RP

namespace RP
open PySem PySem.Spec PyProof.Rows L2 L2H
theorem cut_take (xs : List V) (n : Nat) : cutV xs none (some (n : Int)) = xs.take n := by
  unfold cutV
  rw [HT.sIx_nat]
  show (xs.drop 0).take (min n xs.length - 0) = _
  rw [List.drop_zero, Nat.sub_zero, List.take_eq_take_iff]
  omega
theorem eqvAll_strs : ∀ (xs ys : List Str), PyData.eqvAll (xs.map PyData.str) (ys.map PyData.str) = decide (xs = ys)
  | [], [] => by simp [PyData.eqvAll]
  | [], _ :: _ => by simp [PyData.eqvAll]
  | _ :: _, [] => by simp [PyData.eqvAll]
  | x :: xs, y :: ys => by
    rw [List.map_cons, List.map_cons, PyData.eqvAll, eqvAll_strs xs ys]
    have e : PyData.eqv (.str x) (.str y) = decide (x = y) := by
      rw [PyData.eqv]
      rw [Bool.eq_iff_iff, beq_iff_eq, decide_eq_true_eq]
    rw [e, Bool.eq_iff_iff]
    simp
theorem shaped_strs {xs : List Str} (h : ∀ x ∈ xs, PyData.strOk x = true) : SeqAt.shaped (.list (xs.map PyData.str)) = true ∧ PyData.canLay0 (.list (xs.map PyData.str)) = true := by
  have sh : Shp 2 (.list (xs.map PyData.str)) := shp_list fun d hd => by
    obtain ⟨x, hx, rfl⟩ := List.mem_map.mp hd
    exact (shp_s 1).2.2.2 x (h x hx)
  exact ⟨(sh.mono (show 2 ≤ 64 by decide)).ok, sh.1⟩
/-- for x in a list that is made meanwhile -/
theorem for_lcutx {K : PySem.W.Frag} {tl : TE} {g : TG} {tb : L2.TS} {D : Ends} {σ : L2.St} {H : Hp} (G : Addr → List V → Hp → Prop) (h1 : ∀ Z : VK, (∀ a xs H1, G a xs H1 → Z (.ref a) H1) → tl σ H Z)
    (hb : ∀ a xs H1, G a xs H1 → ∃ Pv : Nat → L2.St → Hp → Prop, SqL K H1 a xs ∧ Pv 0 σ H1 ∧ (∀ i σ H, i ≤ xs.length → Pv i σ H → SqL K H a xs) ∧
      (∀ i x σ H, xs[i]? = some x → Pv i σ H → g x σ H fun σ2 H2 => tb { D with nx := Pv (i + 1), ct := Pv (i + 1), bk := D.nx } σ2 H2) ∧ (∀ σ H, Pv xs.length σ H → D.nx σ H)) : tFor (iList K tl) g tb D σ H :=
  h1 _ fun a xs H1 q => by
    obtain ⟨Pv, h0, p0, hl, hs, hd⟩ := hb a xs H1 q
    exact ⟨a, rfl, ⟨xs, h0⟩, for_list Pv p0 hl hs hd⟩
end RP

namespace RP
open PySem PySem.Spec PyProof.Rows L2 L2H
abbrev s__law_is_wrong : Stmt := top 31
abbrev N__law_is_wrong : List Str := ["_law_m"]
theorem sc__law_is_wrong : FnScope N__law_is_wrong ["_law_m"] (defScope s__law_is_wrong) := ⟨rfl, rfl, rfl, by decide +kernel, rfl, by decide +kernel, by decide +kernel⟩
def sp__law_is_wrong (K : PySem.W.Frag) : Sp := fun vs H Q E => ∃ (R : RwA) (m : M) (N : Nat), vs = [.ref R.m] ∧ RwAt H R m ∧ m.Ok N ∧ ∀ H', Same H H' → Q (.bl m.isWrong) H'
theorem ok__law_is_wrong {P : Program} {w : World} {K : PySem.W.Frag} {mg : Str → Option Value} {base : Heap} (F : FnP K ("_law_is_wrong", none) "_law_is_wrong" "_law_is_wrong" s__law_is_wrong) (hm : mg "_law_is_wrong" = some (.ref (He.ga K "_law_is_wrong"))) (bl : Blt mg) : Cal P w K mg base 1 "_law_is_wrong" (sp__law_is_wrong K) := by
  refine fn_cal F hm sc__law_is_wrong (fun vs H Q E => by walk_at "len") (fun _ _ _ _ _ _ us hl => match us, hl with | [_], _ => rfl) (fun f cdv A outer s H vs Q E hr h => ?_)
  have hu := hu_of hr
  obtain ⟨R, m, N, rfl, t, ok, q⟩ := h
  refine ⟨_, (pss_one (ps_ret (pe_or (pe_cmpR (op_neC hr.units) (pe_getD (by exact hu) (pv 0) pe_str (fun _ _ => rfl)) (pe_slice sl_list (pe_getD (by exact hu) (pv 0) pe_str (fun _ _ => rfl)) po_none (po_some (pe_callB call_lenC (by rfl) (bl.len) (by decide +kernel) (pa_cons (pe_getD (by exact hu) (pv 0) pe_str (fun _ _ => rfl)) pa_nil)))) (nomark _)) (pe_one (pe_cmpR op_gt (pe_getD (by exact hu) (pv 0) pe_str (fun _ _ => rfl)) (pe_callB call_lenC (by rfl) (bl.len) (by decide +kernel) (pa_cons (pe_getD (by exact hu) (pv 0) pe_str (fun _ _ => rfl)) pa_nil)) (nomark _)))))), ?_⟩
  walk_at "st0"
  simp only [RDa, RDb, RDv, RDk, RDx, RDe, RDd, RDp, RDq, List.getElem?_cons_zero, List.getElem?_cons_succ, List.set_cons_zero, List.set_cons_succ, List.cons.injEq, List.cons_ne_nil, reduceCtorEq, exists_eq_left', exists_eq_left, exists_and_left, and_assoc, exists_const, true_and, and_true, if_true, if_false, false_and, and_false, exists_false, false_or, or_false, true_implies, false_implies, implies_true, forall_eq, forall_eq', Bool.false_eq_true, if_neg, decide_eq_true_eq, Bool.not_eq_true', decide_eq_false_iff_not, Bool.not_true, Bool.not_false, List.length_cons, List.length_nil, sizeLine_eq, Nat.reduceAdd, Nat.reduceLeDiff, Nat.reduceLT, Int.reduceLT, Int.reduceLE, Int.emod_nonneg, ne_eq, Int.reduceEq, not_false_eq_true, not_true_eq_false, mL, t.dic, lenO_lst t.out, SqL.of t.tx, seqO_lst t.tx]
  refine ⟨_, SqL.of t.tx, fun c nc => ?_⟩
  rw [List.length_map, cut_take, ← List.map_take]
  have s2 : Same H (upd H c (.lst ((m.tx.take m.out.length).map V.str))) := same_new nc
  have c2 : (upd H c (.lst ((m.tx.take m.out.length).map V.str))) c = _ := upd_same
  generalize upd H c (.lst ((m.tx.take m.out.length).map V.str)) = H2 at s2 c2
  have t2 := t.same s2
  have sh1 := (shaped_strs (xs := m.out) fun x hx => (ok.so x hx).1).1
  have sh2 := (shaped_strs (xs := m.tx.take m.out.length) fun x hx => (ok.sx x (List.mem_of_mem_take hx)).1).1
  have ev : PyData.eqv (.list (m.out.map PyData.str)) (.list ((m.tx.take m.out.length).map PyData.str)) = decide (m.out = m.tx.take m.out.length) := by
    rw [PyData.eqv]
    exact eqvAll_strs _ _
  simp only [RDa, RDb, RDv, RDk, RDx, RDe, RDd, RDp, RDq, List.getElem?_cons_zero, List.getElem?_cons_succ, List.set_cons_zero, List.set_cons_succ, List.cons.injEq, List.cons_ne_nil, reduceCtorEq, exists_eq_left', exists_eq_left, exists_and_left, and_assoc, exists_const, true_and, and_true, if_true, if_false, false_and, and_false, exists_false, false_or, or_false, true_implies, false_implies, implies_true, forall_eq, forall_eq', Bool.false_eq_true, if_neg, decide_eq_true_eq, Bool.not_eq_true', decide_eq_false_iff_not, Bool.not_true, Bool.not_false, List.length_cons, List.length_nil, sizeLine_eq, Nat.reduceAdd, Nat.reduceLeDiff, Nat.reduceLT, Int.reduceLT, Int.reduceLE, Int.emod_nonneg, ne_eq, Int.reduceEq, not_false_eq_true, not_true_eq_false, mL, t2.dic, lenO_lst t2.out, dat_lst t2.out, dat_lst c2, dat_strs, Option.map_some, sh1, sh2, ev]
  unfold M.isWrong at q
  by_cases e : m.out = m.tx.take m.out.length
  · rw [if_neg (fun h => h e)]
    rw [decide_eq_true e, Bool.not_true, Bool.false_or] at q
    rw [List.length_map]
    exact q _ s2
  · rw [if_pos e]
    rw [decide_eq_false e, Bool.not_false, Bool.true_or] at q
    exact q _ s2
abbrev s_law : Stmt := top 32
abbrev N_law : List Str := ["_law_script", "_law_bounds_here", "_law_least", "_law_ring", "_law_texts_here", "_law_m", "_law_other", "_law_step"]
theorem sc_law : FnScope N_law ["_law_script"] (defScope s_law) := ⟨rfl, rfl, rfl, by decide +kernel, rfl, by decide +kernel, by decide +kernel⟩
def sp_law (K : PySem.W.Frag) : Sp := fun vs H Q E => ∃ (a : Addr) (ns : List Int), vs = [.ref a] ∧ SqL K H a (ns.map V.int) ∧ ∀ H', Q (.bl true) H'
theorem ok_law {P : Program} {w : World} {K : PySem.W.Frag} {mg : Str → Option Value} {base : Heap} {f0 : Addr} {fd : FuncData} (F : FunD K "law" "law" (defArgs s_law) (defBody s_law) (defScope s_law) [] [] f0 fd) (bl : Blt mg) (c__law_at : ∀ (a : Addr) (ns : List Int), Cal P w K mg base 1 "_law_at" (sp__law_at K a ns)) (c__law_begun : Cal P w K mg base 1 "_law_begun" (sp__law_begun K)) (c__law_bounds : ∀ (a : Addr) (ns : List Int), Cal P w K mg base 2 "_law_bounds" (sp__law_bounds K a ns)) (c__law_is_wrong : Cal P w K mg base 1 "_law_is_wrong" (sp__law_is_wrong K)) (c__law_moved : Cal P w K mg base 3 "_law_moved" (sp__law_moved K)) (c__law_texts : Cal P w K mg base 2 "_law_texts" (sp__law_texts K)) (c__law_whole : Cal P w K mg base 1 "_law_whole" (sp__law_whole K)) (c_breaking : Cal P w K mg base 5 "breaking" (sp_breaking K)) : FnOk P w K mg base (L2N.CX P w) 6 f0 fd ["_law_script"] (sp_law K) := by
  refine fn_law F sc_law (fun vs H Q E => by walk_at "len") (fun f cdv A outer s H vs Q E hr h => ?_)
  have hu := hu_of hr
  obtain ⟨a, ns, rfl, hS, q⟩ := h
  refine ⟨_, (pss_cons (ps_set (i := 1) sc_law.nd rfl (Or.inl rfl) (pe_fn (c__law_bounds a ns) (hr.mono (by decide)) (L2N.takes_of rfl rfl rfl rfl) (pa_cons (pv 0) pa_nil)))
  (pss_cons (ps_set (i := 2) sc_law.nd rfl (Or.inl rfl) (pe_op op_add (pe_op op_add (pe_ix ix_C (pv 1) pe_int (fun _ _ => rfl)) (pe_ix ix_C (pv 1) pe_int (fun _ _ => rfl))) (pe_callB (call_max2 rfl) (by rfl) (bl.max) (by decide +kernel) (pa_cons (pe_ix ix_C (pv 1) pe_int (fun _ _ => rfl)) (pa_cons (pe_ix ix_C (pv 1) pe_int (fun _ _ => rfl)) pa_nil)))))
  (pss_cons (ps_set (i := 3) sc_law.nd rfl (Or.inl rfl) (pe_pick (pa_cons (pe_op op_sub (pv 2) pe_int) (pa_cons (pe_op op_sub (pv 2) pe_int) (pa_cons (pe_op op_add pe_int (pe_op op_mod (pe_op op_fdiv (pe_fn (c__law_at a ns) (hr.mono (by decide)) (L2N.takes_of rfl rfl rfl rfl) (pa_cons (pv 0) (pa_cons pe_int pa_nil))) pe_int) (pe_op op_sub (pv 2) pe_int))) (pa_cons pe_int pa_nil)))) (pe_op op_mod (pe_fn (c__law_at a ns) (hr.mono (by decide)) (L2N.takes_of rfl rfl rfl rfl) (pa_cons (pv 0) (pa_cons pe_int pa_nil))) pe_int) (fun _ _ => rfl)))
  (pss_cons (ps_set (i := 4) sc_law.nd rfl (Or.inl rfl) (pe_fn c__law_texts (hr.mono (by decide)) (L2N.takes_of rfl rfl rfl rfl) (pa_cons (pe_fn (c__law_at a ns) (hr.mono (by decide)) (L2N.takes_of rfl rfl rfl rfl) (pa_cons (pv 0) (pa_cons pe_int pa_nil))) (pa_cons (pe_op op_add (pv 3) pe_int) (pa_cons (pe_op op_add (pv 3) pe_int) pa_nil)))))
  (pss_cons (ps_set (i := 5) sc_law.nd rfl (Or.inl rfl) (pe_fn c__law_begun (hr.mono (by decide)) (L2N.takes_of rfl rfl rfl rfl) (pa_cons (pv 1) (pa_cons (pv 3) (pa_cons (pv 4) pa_nil)))))
  (pss_cons (ps_set (i := 6) sc_law.nd rfl (Or.inl rfl) (pe_fn c__law_begun (hr.mono (by decide)) (L2N.takes_of rfl rfl rfl rfl) (pa_cons (pv 1) (pa_cons (pv 2) (pa_cons (pv 4) pa_nil)))))
  (pss_cons (ps_for (passes_of rfl) rfl (pi_list (pe_fn c_breaking (hr.mono (by decide)) (L2N.takes_of rfl rfl rfl rfl) (pa_cons (pv 1) (pa_cons (pv 3) pa_nil)))) (pg_name (i := 7) sc_law.nd rfl (Or.inl rfl))
  (pss_cons (ps_if (PW.pt (pw_or (pt_not (pt_val (pe_callB call_isC (by rfl) (bl.isi) (by decide +kernel) (pa_cons (pv 7) (pa_cons (pe_bltn (v := .ty "tuple") (u := .type "tuple") rfl (bl.tuple) (by decide +kernel) rfl) pa_nil))))) (pw_or (pt_cmpR op_ne (pe_callB call_lenC (by rfl) (bl.len) (by decide +kernel) (pa_cons (pv 7) pa_nil)) pe_int (nomark _)) (pw_or1 (pt_cmp (pc_notInT (pe_ix ix_C (pv 7) pe_int (fun _ _ => rfl)) (pa_cons pe_str (pa_cons pe_str (pa_cons pe_str pa_nil)))) rfl)))))
  (pss_one (ps_ret pe_bl))
  pss_nil)
  (pss_cons (ps_if (PW.pt (pw_or (pt_not (pt_val (pe_fn c__law_whole (hr.mono (by decide)) (L2N.takes_of rfl rfl rfl rfl) (pa_cons (pe_ix ix_C (pv 7) pe_int (fun _ _ => rfl)) pa_nil)))) (pw_or (pt_cmpR op_lt (pe_ix ix_C (pv 7) pe_int (fun _ _ => rfl)) pe_int (nomark _)) (pw_or1 (pt_cmpR op_ne (pe_ix ix_C (pe_fn c__law_moved (hr.mono (by decide)) (L2N.takes_of rfl rfl rfl rfl) (pa_cons (pv 5) (pa_cons (pv 7) pa_nil))) pe_int (fun _ _ => rfl)) pe_str (nomark _))))))
  (pss_one (ps_ret pe_bl))
  pss_nil)
  (pss_cons (ps_expr (pe_fn c__law_moved (hr.mono (by decide)) (L2N.takes_of rfl rfl rfl rfl) (pa_cons (pv 6) (pa_cons (pv 7) pa_nil))))
  (pss_one (ps_if (pt_val (pe_fn c__law_is_wrong (hr.mono (by decide)) (L2N.takes_of rfl rfl rfl rfl) (pa_cons (pv 6) pa_nil)))
  (pss_one (ps_ret pe_bl))
  pss_nil))))))
  (pss_one (ps_ret (pe_fn c__law_is_wrong (hr.mono (by decide)) (L2N.takes_of rfl rfl rfl rfl) (pa_cons (pv 5) pa_nil))))))))))), ?_⟩
  walk_at "st0"
  refine seq_gen fun N_a h_a => ?_
  simp only [RDa, RDb, RDv, RDk, RDx, RDe, RDd, RDp, RDq, List.getElem?_cons_zero, List.getElem?_cons_succ, List.set_cons_zero, List.set_cons_succ, List.cons.injEq, List.cons_ne_nil, reduceCtorEq, exists_eq_left', exists_eq_left, exists_and_left, and_assoc, exists_const, true_and, and_true, if_true, if_false, false_and, and_false, exists_false, false_or, or_false, true_implies, false_implies, implies_true, forall_eq, forall_eq', Bool.false_eq_true, if_neg, decide_eq_true_eq, Bool.not_eq_true', decide_eq_false_iff_not, Bool.not_true, Bool.not_false, List.length_cons, List.length_nil, sizeLine_eq, Nat.reduceAdd, Nat.reduceLeDiff, Nat.reduceLT, Int.reduceLT, Int.reduceLE, Int.emod_nonneg, ne_eq, Int.reduceEq, not_false_eq_true, not_true_eq_false]
  refine ⟨rfl, hS, fun t H1 nt s1 ht => h_a _ _ ?_⟩
  clear h_a
  have ok := lb_ok (one := mixed (cell ns 0) 0) (two := mixed (cell ns 1) 1)
  generalize lbW (mixed (cell ns 0) 0) = w0 at ht ok
  generalize lbR (mixed (cell ns 0) 0) = r0 at ht ok
  generalize lbD (mixed (cell ns 1) 1) = d0 at ht ok
  generalize lbB (mixed (cell ns 1) 1) = b0 at ht ok
  have bk := boundsV_of ht ok
  have hx := (mx2_le (c := mx2 d0 b0)).mp (Int.le_refl _)
  have hx2 : mx2 d0 b0 ≤ 20 := mx2_le.mpr ⟨by omega, by omega⟩
  have em : ∀ i j : Int, (if j > i then j else i) = mx2 i j := fun _ _ => rfl
  obtain ⟨L, eL⟩ : ∃ L, L = w0 + r0 + mx2 d0 b0 := ⟨_, rfl⟩
  refine seq_gen fun N_b h_b => ?_
  simp only [RDa, RDb, RDv, RDk, RDx, RDe, RDd, RDp, RDq, List.getElem?_cons_zero, List.getElem?_cons_succ, List.set_cons_zero, List.set_cons_succ, List.cons.injEq, List.cons_ne_nil, reduceCtorEq, exists_eq_left', exists_eq_left, exists_and_left, and_assoc, exists_const, true_and, and_true, if_true, if_false, false_and, and_false, exists_false, false_or, or_false, true_implies, false_implies, implies_true, forall_eq, forall_eq', Bool.false_eq_true, if_neg, decide_eq_true_eq, Bool.not_eq_true', decide_eq_false_iff_not, Bool.not_true, Bool.not_false, List.length_cons, List.length_nil, sizeLine_eq, Nat.reduceAdd, Nat.reduceLeDiff, Nat.reduceLT, Int.reduceLT, Int.reduceLE, Int.emod_nonneg, ne_eq, Int.reduceEq, not_false_eq_true, not_true_eq_false, seqO_tup ht, em]
  rw [← eL]
  refine h_b _ _ ?_
  clear h_b
  refine seq_rel (fun σ1 H2 => H1 = H2 ∧ ∃ g, σ1 = [some (.ref a), some (.ref t), some (.int L), some (.int g), none, none, none, none] ∧ 1 ≤ g ∧ g < L) (fun N_c h_c => ?_) ?_
  · simp only [RDa, RDb, RDv, RDk, RDx, RDe, RDd, RDp, RDq, List.getElem?_cons_zero, List.getElem?_cons_succ, List.set_cons_zero, List.set_cons_succ, List.cons.injEq, List.cons_ne_nil, reduceCtorEq, exists_eq_left', exists_eq_left, exists_and_left, and_assoc, exists_const, true_and, and_true, if_true, if_false, false_and, and_false, exists_false, false_or, or_false, true_implies, false_implies, implies_true, forall_eq, forall_eq', Bool.false_eq_true, if_neg, decide_eq_true_eq, Bool.not_eq_true', decide_eq_false_iff_not, Bool.not_true, Bool.not_false, List.length_cons, List.length_nil, sizeLine_eq, Nat.reduceAdd, Nat.reduceLeDiff, Nat.reduceLT, Int.reduceLT, Int.reduceLE, Int.emod_nonneg, ne_eq, Int.reduceEq, not_false_eq_true, not_true_eq_false, sp__law_at, s1.seq hS]
    have h4 := md_rng (cell ns 2) (show (0 : Int) < 4 by decide)
    have hL : (0 : Int) < L - 1 := by omega
    have h6 := md_rng (cell ns 2 / 4) hL
    obtain ⟨y, hy, hyc⟩ := pick4' (x0 := L - 1) (x1 := L - 1) (x2 := 1 + cell ns 2 / 4 % (L - 1)) (x3 := 1) h4.1 h4.2
    exact ⟨hL, _, hy, h_c _ _ ⟨rfl, _, rfl, by omega, by omega⟩⟩
  rintro _ _ ⟨rfl, g, rfl, g1, g2⟩
  refine seq_gen fun N_d h_d => ?_
  simp only [RDa, RDb, RDv, RDk, RDx, RDe, RDd, RDp, RDq, List.getElem?_cons_zero, List.getElem?_cons_succ, List.set_cons_zero, List.set_cons_succ, List.cons.injEq, List.cons_ne_nil, reduceCtorEq, exists_eq_left', exists_eq_left, exists_and_left, and_assoc, exists_const, true_and, and_true, if_true, if_false, false_and, and_false, exists_false, false_or, or_false, true_implies, false_implies, implies_true, forall_eq, forall_eq', Bool.false_eq_true, if_neg, decide_eq_true_eq, Bool.not_eq_true', decide_eq_false_iff_not, Bool.not_true, Bool.not_false, List.length_cons, List.length_nil, sizeLine_eq, Nat.reduceAdd, Nat.reduceLeDiff, Nat.reduceLT, Int.reduceLT, Int.reduceLE, Int.emod_nonneg, ne_eq, Int.reduceEq, not_false_eq_true, not_true_eq_false, sp__law_at, s1.seq hS]
  refine ⟨_, _, _, rfl, by omega, by omega, by omega, by omega, fun tl H2 ntl s2 htl => h_d _ _ ?_⟩
  clear h_d
  have hun : Unlike (lawTexts (mixed (cell ns 3) 5) (g + 1) (g + 1).toNat) := unlike_law (by omega) (by omega)
  have hlen : ((lawTexts (mixed (cell ns 3) 5) (g + 1) (g + 1).toNat).length : Int) = g + 1 := by
    unfold lawTexts
    rw [List.length_map, List.length_range]
    omega
  have htz : ∀ x ∈ lawTexts (mixed (cell ns 3) 5) (g + 1) (g + 1).toNat, TxtOk 40 x := fun x hx => by
    obtain ⟨k, _, rfl⟩ := List.mem_map.mp hx
    exact lawTxt_40 (by omega) (by omega) k
  generalize lawTexts (mixed (cell ns 3) 5) (g + 1) (g + 1).toNat = tx at htl hun hlen htz
  have ht2 := s2 _ _ ht
  refine seq_gen fun N_e h_e => ?_
  simp only [RDa, RDb, RDv, RDk, RDx, RDe, RDd, RDp, RDq, List.getElem?_cons_zero, List.getElem?_cons_succ, List.set_cons_zero, List.set_cons_succ, List.cons.injEq, List.cons_ne_nil, reduceCtorEq, exists_eq_left', exists_eq_left, exists_and_left, and_assoc, exists_const, true_and, and_true, if_true, if_false, false_and, and_false, exists_false, false_or, or_false, true_implies, false_implies, implies_true, forall_eq, forall_eq', Bool.false_eq_true, if_neg, decide_eq_true_eq, Bool.not_eq_true', decide_eq_false_iff_not, Bool.not_true, Bool.not_false, List.length_cons, List.length_nil, sizeLine_eq, Nat.reduceAdd, Nat.reduceLeDiff, Nat.reduceLT, Int.reduceLT, Int.reduceLE, Int.emod_nonneg, ne_eq, Int.reduceEq, not_false_eq_true, not_true_eq_false]
  refine ⟨t, tl, w0, r0, d0, b0, g, tx, rfl, ht2, htl, fun R H3 eRb eRx frR s3 t3 => h_e _ _ ?_⟩
  clear h_e
  have ht3 := s3 _ _ ht2
  have htl3 := s3 _ _ htl
  refine seq_gen fun N_f h_f => ?_
  simp only [RDa, RDb, RDv, RDk, RDx, RDe, RDd, RDp, RDq, List.getElem?_cons_zero, List.getElem?_cons_succ, List.set_cons_zero, List.set_cons_succ, List.cons.injEq, List.cons_ne_nil, reduceCtorEq, exists_eq_left', exists_eq_left, exists_and_left, and_assoc, exists_const, true_and, and_true, if_true, if_false, false_and, and_false, exists_false, false_or, or_false, true_implies, false_implies, implies_true, forall_eq, forall_eq', Bool.false_eq_true, if_neg, decide_eq_true_eq, Bool.not_eq_true', decide_eq_false_iff_not, Bool.not_true, Bool.not_false, List.length_cons, List.length_nil, sizeLine_eq, Nat.reduceAdd, Nat.reduceLeDiff, Nat.reduceLT, Int.reduceLT, Int.reduceLE, Int.emod_nonneg, ne_eq, Int.reduceEq, not_false_eq_true, not_true_eq_false]
  refine ⟨t, tl, w0, r0, d0, b0, L, tx, rfl, ht3, htl3, fun S H4 eSb eSx frS s4 u4 => h_f _ _ ?_⟩
  clear h_f
  obtain ⟨⟨me, run, hw⟩, wd, len⟩ := brkS_wrong (tx := tx) ok.1 ok.2.1 ok.2.2.1 ok.2.2.2.1 ok.2.2.2.2.1 ok.2.2.2.2.2.2.1 g1 (by omega) (by omega) hlen hun
  have hE : brkS w0 r0 d0 b0 g = brkS w0 r0 d0 b0 g := rfl
  obtain ⟨hs, ehs⟩ : ∃ hs, hs = brkS w0 r0 d0 b0 g := ⟨_, rfl⟩
  rw [← ehs] at run wd len
  have t4 := t3.same s4
  have okm := M.begun_ok (ring := g) ok g1 (by omega) (by omega) htz 0
  have oko := M.begun_ok (ring := L) ok (by omega) (by omega) (by omega) htz 0
  have good0 : ∃ ks vs, Good (M.begun w0 r0 d0 b0 L tx) ks vs := ⟨[], [], Good.begun ok.1⟩
  have big0 : Big (M.begun w0 r0 d0 b0 L tx) := ⟨ok.1, ok.2.2.1, ok.2.2.2.1, ok.2.2.2.2.1, ok.2.2.2.2.2.2.1, by show w0 + r0 + mx2 d0 b0 ≤ L; omega⟩
  generalize M.begun w0 r0 d0 b0 g tx = m0 at run t4 okm t3
  generalize M.begun w0 r0 d0 b0 L tx = o0 at oko good0 big0 u4
  have hRS : ∀ c ∈ R.al, c ∉ S.mu := fun c hc hm => t3.live c hc (frS c hm)
  have hSR : ∀ c ∈ S.al, c ∉ R.mu := fun c hc hm => by
    by_cases e : c = tl
    · have := frR c hm
      rw [e, htl] at this
      cases this
    · have hcs : c ∈ S.mu := by
        revert hc
        simp only [RwA.mu, RwA.al, List.mem_cons, List.not_mem_nil, or_false]
        rintro (h | h | h | h | h | h)
        · exact .inl h
        · exact absurd (h.trans eSx) e
        · exact .inr (.inl h)
        · exact .inr (.inr (.inl h))
        · exact .inr (.inr (.inr (.inl h)))
        · exact .inr (.inr (.inr (.inr h)))
      exact hRS c (R.mu_al c hm) hcs
  have ht4 := s4 _ _ ht3
  refine seq_rel (fun σ1 H6 => ∃ u, σ1 = [some (.ref a), some (.ref t), some (.int L), some (.int g), some (.ref tl), some (.ref R.m), some (.ref S.m), u] ∧ RwAt H6 R me ∧ me.Ok hs.length) (fun N_g h_g => ?_) ?_
  · refine for_lcutx (fun la sx H5 => Same H4 H5 ∧ H4 la = none ∧ H5 la = some (.lst sx) ∧ All2 (StepAt H5) hs sx) (fun Z hZ => ?_) ?_
    · simp only [RDa, RDb, RDv, RDk, RDx, RDe, RDd, RDp, RDq, List.getElem?_cons_zero, List.getElem?_cons_succ, List.set_cons_zero, List.set_cons_succ, List.cons.injEq, List.cons_ne_nil, reduceCtorEq, exists_eq_left', exists_eq_left, exists_and_left, and_assoc, exists_const, true_and, and_true, if_true, if_false, false_and, and_false, exists_false, false_or, or_false, true_implies, false_implies, implies_true, forall_eq, forall_eq', Bool.false_eq_true, if_neg, decide_eq_true_eq, Bool.not_eq_true', decide_eq_false_iff_not, Bool.not_true, Bool.not_false, List.length_cons, List.length_nil, sizeLine_eq, Nat.reduceAdd, Nat.reduceLeDiff, Nat.reduceLT, Int.reduceLT, Int.reduceLE, Int.emod_nonneg, ne_eq, Int.reduceEq, not_false_eq_true, not_true_eq_false]
      refine ⟨.ref t, .int g, rfl, KnI_ints ht4, rfl, fun hb => (by rw [boundsV_of ht4 ok] at hb; cases hb), fun _ hr => ?_, fun a2 w2 r2 d2 b2 N2 e e2 _ e3 _ _ => ?_⟩
      · simp only [amongV, Bool.and_eq_false_iff, decide_eq_false_iff_not] at hr
        omega
      · cases e
        cases e3
        rw [ht4] at e2
        cases e2
        refine ⟨fun h => absurd h (by omega), fun _ l H5 nl s5 st5 => ?_⟩
        have st5 : StepsAt H5 l (brkS w0 r0 d0 b0 g) := st5
        rw [← ehs] at st5
        obtain ⟨sx, h1, h2⟩ := st5
        exact hZ l sx H5 ⟨s5, nl, h1, h2⟩
    · rintro la sx H5 ⟨s5, nla, hla, al⟩
      have hlen5 := al.length
      have t5 := t4.same s5
      have u5 := u4.same s5
      have ntB : ∀ x ∈ R.mu ++ S.mu, ∀ xs, H5 x ≠ some (.tup xs) := fun x hx => by
        rcases List.mem_append.mp hx with h | h
        · exact t5.ntm x h
        · exact u5.ntm x h
      have nlaB : la ∉ R.mu ++ S.mu := fun hx => by
        rcases List.mem_append.mp hx with h | h
        · exact t4.live _ (R.mu_al _ h) nla
        · exact u4.live _ (S.mu_al _ h) nla
      obtain ⟨Pv, hP⟩ : ∃ Pv : Nat → L2.St → Hp → Prop, ∀ i σ H6, Pv i σ H6 ↔ (∃ u mi oi, σ = [some (.ref a), some (.ref t), some (.int L), some (.int g), some (.ref tl), some (.ref R.m), some (.ref S.m), u] ∧ Fr (R.mu ++ S.mu) H5 H6 ∧ RwAt H6 R mi ∧ RwAt H6 S oi ∧ mi.Ok i ∧ m0.run (hs.take i) = some mi ∧ oi.Ok i ∧ (∃ ks vs, Good oi ks vs) ∧ Big oi) := ⟨_, fun _ _ _ => Iff.rfl⟩
      refine ⟨Pv, SqL.of hla, (hP _ _ _).mpr ⟨none, m0, o0, rfl, .refl _ _, t5, u5, okm, rfl, oko, good0, big0⟩, fun i σ H6 _ z => ?_, fun i x σ H6 hx z => ?_, fun σ H6 z => ?_⟩
      · obtain ⟨_, _, _, _, f6, _⟩ := (hP _ _ _).mp z
        exact SqL.of (f6 _ _ nlaB hla)
      · obtain ⟨u, mi, oi, rfl, f6, t6, u6, ok6, rep6, ko6, ⟨ks, vs, g6⟩, big6⟩ := (hP _ _ _).mp z
        have hi : i < sx.length := (List.getElem?_eq_some_iff.mp hx).1
        obtain ⟨gq, hq, p, rfl, hpt⟩ := al.get hx
        have hp6 := f6 _ _ (fun mm => ntB _ mm _ hpt) hpt
        obtain ⟨u', m2, es⟩ := M.run_at run rep6 hq
        have k1 := wd gq (List.mem_of_getElem? hq)
        obtain ⟨k2, k3⟩ := step_rng ok6 (by omega) k1 es
        have et : hs.take (i + 1) = hs.take i ++ [(gq.1, gq.2)] := by
          rw [List.take_succ, hq]
          rfl
        have rep7 := M.run_snoc _ _ _ _ _ _ _ rep6 es
        have inw : inV (.str gq.1) [.str "send", .str "hand", .str "tell"] = true := by
          rcases k1 with e | e | e <;> rw [e] <;> decide +kernel
        have fl : ([V.str "send", .str "hand", .str "tell"] : List V).all flatV = true := by decide +kernel
        have ng : ¬ gq.2 < 0 := by omega
        simp only [RDa, RDb, RDv, RDk, RDx, RDe, RDd, RDp, RDq, List.getElem?_cons_zero, List.getElem?_cons_succ, List.set_cons_zero, List.set_cons_succ, List.cons.injEq, List.cons_ne_nil, reduceCtorEq, exists_eq_left', exists_eq_left, exists_and_left, and_assoc, exists_const, true_and, and_true, if_true, if_false, false_and, and_false, exists_false, false_or, or_false, true_implies, false_implies, implies_true, forall_eq, forall_eq', Bool.false_eq_true, if_neg, decide_eq_true_eq, Bool.not_eq_true', decide_eq_false_iff_not, Bool.not_true, Bool.not_false, List.length_cons, List.length_nil, sizeLine_eq, Nat.reduceAdd, Nat.reduceLeDiff, Nat.reduceLT, Int.reduceLT, Int.reduceLE, Int.emod_nonneg, ne_eq, Int.reduceEq, not_false_eq_true, not_true_eq_false, tyN_tup hp6, seqO_tup hp6, lenO_tup hp6, inw, fl, sp__law_whole, wholeV, ng, flatV]
        rw [if_neg (fun h => h rfl)]
        have okm7 := (ok6.step es).1
        have fin : ∀ (H7 H8 : Hp) (o3 : M) (X : XK), Fr R.mu H6 H7 → RwAt H7 R m2 → RwAt H7 S oi → Fr S.mu H7 H8 → RwAt H8 S o3 → o3.Ok (i + 1) → (∃ ks vs, Good o3 ks vs) → Big o3 →
            sp__law_is_wrong K [.ref S.m] H8 (fun x H1 => ∃ c, x = V.bl c ∧ if c = true then Q (V.bl false) H1 else Pv (i + 1) [some (.ref a), some (.ref t), some (.int L), some (.int g), some (.ref tl), some (.ref R.m), some (.ref S.m), some (.ref p)] H1) X := by
          intro H7 H8 o3 X f7 t7 u7 f8 u8 ko8 gd8 bg8
          refine ⟨S, o3, i + 1, rfl, u8, ko8, fun H9 s9 => ?_⟩
          have wr : o3.isWrong = false := by
            obtain ⟨ks2, vs2, gg⟩ := gd8
            obtain ⟨e1, e2, e3⟩ := gg.right
            unfold M.isWrong
            rw [decide_eq_true e1, decide_eq_false (by omega)]
            rfl
          rw [wr]
          refine ⟨false, rfl, ?_⟩
          rw [if_neg (by decide)]
          have t8 : RwAt H8 R m2 := t7.fr f8 hRS u7.ntm
          exact (hP _ _ _).mpr ⟨_, m2, o3, rfl, ((f6.trans (f7.mono fun x hx => List.mem_append_left _ hx)).trans (f8.mono fun x hx => List.mem_append_right _ hx)).trans (.of s9), t8.same s9, u8.same s9, okm7, by rw [et]; exact rep7, ko8, gd8, bg8⟩
        refine ⟨rfl, R, mi, i, p, gq.1, gq.2, rfl, t6, ok6, by omega, hp6, k1, k2, fun tt m3 es2 H7 q7 f7 t7 nq7 hq7 => ?_, fun es2 => (by rw [es] at es2; cases es2)⟩
        rw [es] at es2
        cases es2
        refine ⟨q7, rfl, _, seqO_tup hq7, _, rfl, rfl, ?_⟩
        rw [if_neg (fun h => h rfl)]
        have u7 : RwAt H7 S oi := u6.fr f7 hSR t6.ntm
        have hp7 := f7 _ _ (fun mm => t6.ntm _ mm _ hp6) hp6
        refine ⟨S, oi, i, p, gq.1, gq.2, rfl, u7, ko6, by omega, hp7, k1, k2, fun tt o3 es3 H8 q8 f8 u8 nq8 hq8 => ?_, fun es3 H8 q8 s8 nq8 hq8 => ?_⟩
        · have gn := g6.step big6 k1 es3
          exact fin H7 H8 o3 _ f7 t7 u7 f8 u8 (ko6.step es3).1 gn.1 gn.2
        · exact fin H7 H8 oi _ f7 t7 u7 (.of s8) (u7.same s8) (ko6.mono (by omega)) ⟨ks, vs, g6⟩ big6
      · obtain ⟨u, mi, oi, rfl, f6, t6, u6, ok6, rep6, ko6, _, _⟩ := (hP _ _ _).mp z
        rw [← hlen5] at ok6 rep6
        rw [List.take_length, run] at rep6
        cases rep6
        exact h_g _ _ ⟨u, rfl, t6, ok6⟩
  rintro _ H6 ⟨u, rfl, t6, ok6⟩
  simp only [RDa, RDb, RDv, RDk, RDx, RDe, RDd, RDp, RDq, List.getElem?_cons_zero, List.getElem?_cons_succ, List.set_cons_zero, List.set_cons_succ, List.cons.injEq, List.cons_ne_nil, reduceCtorEq, exists_eq_left', exists_eq_left, exists_and_left, and_assoc, exists_const, true_and, and_true, if_true, if_false, false_and, and_false, exists_false, false_or, or_false, true_implies, false_implies, implies_true, forall_eq, forall_eq', Bool.false_eq_true, if_neg, decide_eq_true_eq, Bool.not_eq_true', decide_eq_false_iff_not, Bool.not_true, Bool.not_false, List.length_cons, List.length_nil, sizeLine_eq, Nat.reduceAdd, Nat.reduceLeDiff, Nat.reduceLT, Int.reduceLT, Int.reduceLE, Int.emod_nonneg, ne_eq, Int.reduceEq, not_false_eq_true, not_true_eq_false]
  refine ⟨R, me, _, rfl, t6, ok6, fun H7 s7 => ?_⟩
  rw [hw]
  exact q _
end RP

namespace RP
open PySem PySem.Spec PyProof.Rows L2 L2H

/-- tests -/
def excB (K : PySem.W.Frag) (D : Addr) : Bool := decide (PySem.W.findIn K (.ref D) "__getattribute__" = some (some (.builtin "BaseException.__getattribute__"))) && (decide (PySem.W.findIn K (.ref D) "__getattr__" = some none) && (decide (PySem.W.subIn K (.ref D) (.type "BaseException") = some true) && (decide (PySem.W.hasDictIn K D = true) &&
  (decide (PySem.W.findIn K (.ref D) "__class__" = some (some (.builtin "object.__class__"))) && (decide (PySem.W.specialIn K (.builtin "object.__class__") "__get__" = some (some (.builtin "getset_descriptor.__get__"))) && (decide (PySem.W.takesIn K (.builtin "object.__class__") = some true) && decide (PySem.W.mroIn K D (.type "object") = some true)))))))
theorem excB_ok {K : PySem.W.Frag} {D : Addr} (h : excB K D = true) : ExcC K D := by
  unfold excB at h
  simp only [Bool.and_eq_true, decide_eq_true_eq] at h
  obtain ⟨h1, h2, h3, h4, h5, h6, h7, h8⟩ := h
  exact ⟨h1, h2, h3, h4, h5, h6, h7, h8⟩
def kitFB (K : PySem.W.Frag) (D : Str) (l : List (Str × Bool)) : Bool := l.all fun q => decide (PySem.W.kitOne K (.ref (He.ga K D)) (.ref (He.ga K q.1)) = some q.2)
theorem kitFB_ok {K : PySem.W.Frag} {D : Str} {l : List (Str × Bool)} (h : kitFB K D l = true) : ∀ q ∈ l, PySem.W.kitOne K (.ref (He.ga K D)) (.ref (He.ga K q.1)) = some q.2 := fun q hq => of_decide_eq_true (List.all_eq_true.mp h q hq)
def d_is_among : He.DefD := ⟨("is_among", none), "is_among", "is_among", defArgs s_is_among, defBody s_is_among, defScope s_is_among, [], []⟩
def d_is_bounds : He.DefD := ⟨("is_bounds", none), "is_bounds", "is_bounds", defArgs s_is_bounds, defBody s_is_bounds, defScope s_is_bounds, [], []⟩
def d_need_bounds : He.DefD := ⟨("need_bounds", none), "need_bounds", "need_bounds", defArgs s_need_bounds, defBody s_need_bounds, defScope s_need_bounds, [], []⟩
def d_need_ring : He.DefD := ⟨("need_ring", none), "need_ring", "need_ring", defArgs s_need_ring, defBody s_need_ring, defScope s_need_ring, [], []⟩
def d_least_ring : He.DefD := ⟨("least_ring", none), "least_ring", "least_ring", defArgs s_least_ring, defBody s_least_ring, defScope s_least_ring, [], []⟩
def d__law_at : He.DefD := ⟨("_law_at", none), "_law_at", "_law_at", defArgs s__law_at, defBody s__law_at, defScope s__law_at, [], []⟩
def d__law_mixed : He.DefD := ⟨("_law_mixed", none), "_law_mixed", "_law_mixed", defArgs s__law_mixed, defBody s__law_mixed, defScope s__law_mixed, [], []⟩
def d__law_whole : He.DefD := ⟨("_law_whole", none), "_law_whole", "_law_whole", defArgs s__law_whole, defBody s__law_whole, defScope s__law_whole, [], []⟩
def d__law_texts : He.DefD := ⟨("_law_texts", none), "_law_texts", "_law_texts", defArgs s__law_texts, defBody s__law_texts, defScope s__law_texts, [], []⟩
def d__law_bounds : He.DefD := ⟨("_law_bounds", none), "_law_bounds", "_law_bounds", defArgs s__law_bounds, defBody s__law_bounds, defScope s__law_bounds, [], []⟩
def d_Track_init : He.DefD := ⟨("Track", some "__init__"), "__init__", "Track.__init__", defArgs s_Track_init, defBody s_Track_init, defScope s_Track_init, [], []⟩
def d_Track_send : He.DefD := ⟨("Track", some "send"), "send", "Track.send", defArgs s_Track_send, defBody s_Track_send, defScope s_Track_send, [], []⟩
def d_Track_hand : He.DefD := ⟨("Track", some "hand"), "hand", "Track.hand", defArgs s_Track_hand, defBody s_Track_hand, defScope s_Track_hand, [], []⟩
def d_Track_tell : He.DefD := ⟨("Track", some "tell"), "tell", "Track.tell", defArgs s_Track_tell, defBody s_Track_tell, defScope s_Track_tell, [], []⟩
def d_Track_through : He.DefD := ⟨("Track", some "through"), "through", "Track.through", defArgs s_Track_through, defBody s_Track_through, defScope s_Track_through, [], []⟩
def d_by_a_letter : He.DefD := ⟨("by_a_letter", none), "by_a_letter", "by_a_letter", defArgs s_by_a_letter, defBody s_by_a_letter, defScope s_by_a_letter, [], []⟩
def d_by_an_answer : He.DefD := ⟨("by_an_answer", none), "by_an_answer", "by_an_answer", defArgs s_by_an_answer, defBody s_by_an_answer, defScope s_by_an_answer, [], []⟩
def d_breaking : He.DefD := ⟨("breaking", none), "breaking", "breaking", defArgs s_breaking, defBody s_breaking, defScope s_breaking, [], []⟩
def d__law_begun : He.DefD := ⟨("_law_begun", none), "_law_begun", "_law_begun", defArgs s__law_begun, defBody s__law_begun, defScope s__law_begun, [], []⟩
def d__law_send : He.DefD := ⟨("_law_send", none), "_law_send", "_law_send", defArgs s__law_send, defBody s__law_send, defScope s__law_send, [], []⟩
def d__law_is_there : He.DefD := ⟨("_law_is_there", none), "_law_is_there", "_law_is_there", defArgs s__law_is_there, defBody s__law_is_there, defScope s__law_is_there, [], []⟩
def d__law_hand : He.DefD := ⟨("_law_hand", none), "_law_hand", "_law_hand", defArgs s__law_hand, defBody s__law_hand, defScope s__law_hand, [], []⟩
def d__law_tell : He.DefD := ⟨("_law_tell", none), "_law_tell", "_law_tell", defArgs s__law_tell, defBody s__law_tell, defScope s__law_tell, [], []⟩
def d__law_moved : He.DefD := ⟨("_law_moved", none), "_law_moved", "_law_moved", defArgs s__law_moved, defBody s__law_moved, defScope s__law_moved, [], []⟩
def d__law_is_wrong : He.DefD := ⟨("_law_is_wrong", none), "_law_is_wrong", "_law_is_wrong", defArgs s__law_is_wrong, defBody s__law_is_wrong, defScope s__law_is_wrong, [], []⟩
def d_law : He.DefD := ⟨("law", none), "law", "law", defArgs s_law, defBody s_law, defScope s_law, [], []⟩
def fn : List He.DefD := [d_is_among, d_is_bounds, d_need_bounds, d_need_ring, d_least_ring, d__law_at, d__law_mixed, d__law_whole, d__law_texts, d__law_bounds, d_Track_init, d_Track_send, d_Track_hand, d_Track_tell, d_Track_through, d_by_a_letter, d_by_an_answer, d_breaking, d__law_begun, d__law_send, d__law_is_there, d__law_hand, d__law_tell, d__law_moved, d__law_is_wrong, d_law]
def fa : List He.Fa := [.free "len", .free "range", .free "min", .free "max", .free "isinstance", .free "int", .free "bool", .free "str", .free "list", .free "tuple", .free "dict", .free "sorted", .free "enumerate", .free "zip", .free "all", .free "ValueError", .glo "is_among", .glo "is_bounds", .int "MOST_DELAY" 20, .int "MOST_WINDOW" 20, .glo "need_bounds", .exc "BadBounds", .glo "BadBounds", .glo "need_ring", .exc "BadRing", .glo "BadRing", .int "MOST_RING" 200, .glo "least_ring", .glo "_law_at", .glo "_law_mixed", .glo "_law_whole", .glo "_law_texts", .glo "_law_bounds", .glo "Track", .mkr "Track", .cls "Track", .noat "Track" "steps", .noat "Track" "posts", .noat "Track" "replies", .meth "Track" "send", .meth "Track" "hand", .meth "Track" "tell", .meth "Track" "through", .glo "by_a_letter", .glo "by_an_answer", .glo "breaking", .exc "Safe", .glo "Safe", .glo "_law_begun", .glo "_law_send", .glo "_law_is_there", .glo "_law_hand", .glo "_law_tell", .glo "_law_moved", .glo "_law_is_wrong", .glo "law"]
def exB (K : PySem.W.Frag) : Bool := true
def loose : List Str := [("PostError" : Str), ("BadBounds" : Str), ("BadRing" : Str), ("Safe" : Str), ("MOST_WINDOW" : Str), ("MOST_DELAY" : Str), ("MOST_RING" : Str), ("is_among" : Str), ("is_bounds" : Str), ("need_bounds" : Str), ("need_ring" : Str), ("least_ring" : Str), ("Track" : Str), ("by_a_letter" : Str), ("by_an_answer" : Str), ("breaking" : Str), ("_law_at" : Str), ("_law_mixed" : Str), ("_law_whole" : Str), ("_law_bounds" : Str), ("_law_texts" : Str), ("_law_begun" : Str), ("_law_send" : Str), ("_law_is_there" : Str), ("_law_hand" : Str), ("_law_tell" : Str), ("_law_moved" : Str), ("_law_is_wrong" : Str)]
abbrev PW : Program := (PySem.W.OpenLaw.row PySem.Challenge.rw_ringpost_k11_whole_broken_by_plain_rows).prog
abbrev R : PySem.W.OpenRow := PySem.W.OpenLaw.row PySem.Challenge.rw_ringpost_k11_whole_broken_by_plain_rows
abbrev hk : PySem.W.Hook := He.hookX 5 fa fn [] [] exB
def ob (s : PySem.W.SharedT) : He.AlX := He.obsX 5 fa fn [] [] exB (HandSHeadRun.getT s)
theorem ob_eq (s : PySem.W.SharedT) : ob s = hk.obs s.abs := He.obsX_eq (HandSHeadRun.getT_eq s)
theorem run (w : World) : HandSHeadRun.RunEq R (PySem.W.view R.prog [32]) hk ob 12000 loose w := by
  intro os
  kernel_rfl
theorem facts {w : World} {K : PySem.W.Frag} {h : Heap} {mg : Str → Option Value} {f : Addr} (X : K.In h) (G : h.Ns mainGlobals mg) (hfa : mg ("law" : Str) = some (.ref f)) (c : He.SaysX fa fn [] [] exB w h K) :
    ∃ fd : FuncData, (∀ (s : Shared) (v : Value), BindsTo s fd ⟨[v], []⟩ [("_law_script", v)]) ∧ ∀ base : Heap, K.In base → base.Ns mainGlobals mg → FnOk PW w K mg base (L2N.CX PW w) 6 f fd ["_law_script"] (sp_law K) := by
  have cf : ∀ (i : Nat) {f : He.Fa}, fa[i]? = some f → f.ok K = true := fun i f h => c.t.d.fact i h
  have cd : ∀ {d : He.DefD}, d ∈ fn → ∃ fd, FunD K d.name d.qual d.params d.body d.scope (d.dvs K) (d.kws K) (He.fAd K d.at_) fd := fun h => c.t.d.defs h
  have cx := c.more
  unfold exB at cx
  have bl : Blt mg := ⟨He.free_ok X G (cf 0 (f := .free "len") rfl), He.free_ok X G (cf 1 (f := .free "range") rfl), He.free_ok X G (cf 2 (f := .free "min") rfl), He.free_ok X G (cf 3 (f := .free "max") rfl), He.free_ok X G (cf 4 (f := .free "isinstance") rfl), He.free_ok X G (cf 5 (f := .free "int") rfl), He.free_ok X G (cf 6 (f := .free "bool") rfl), He.free_ok X G (cf 7 (f := .free "str") rfl), He.free_ok X G (cf 8 (f := .free "list") rfl), He.free_ok X G (cf 9 (f := .free "tuple") rfl), He.free_ok X G (cf 10 (f := .free "dict") rfl), He.free_ok X G (cf 11 (f := .free "sorted") rfl), He.free_ok X G (cf 12 (f := .free "enumerate") rfl), He.free_ok X G (cf 13 (f := .free "zip") rfl), He.free_ok X G (cf 14 (f := .free "all") rfl), He.free_ok X G (cf 15 (f := .free "ValueError") rfl)⟩
  have c_is_among := fun (base : Heap) => ok_is_among (P := PW) (w := w) (base := base) (cd (d := d_is_among) (by simp [fn])) (He.glo_ok X G (cf 16 (f := .glo "is_among") rfl)) bl
  have c_is_bounds := fun (base : Heap) => ok_is_bounds (P := PW) (w := w) (base := base) (cd (d := d_is_bounds) (by simp [fn])) (He.glo_ok X G (cf 17 (f := .glo "is_bounds") rfl)) bl (c_is_among base) (He.int_ok X G (cf 18 (f := .int "MOST_DELAY" 20) rfl)) (He.int_ok X G (cf 19 (f := .int "MOST_WINDOW" 20) rfl))
  have e_BadBounds : ErrC K mg "BadBounds" := by
    have z := He.exc_ok (cf 21 (f := .exc "BadBounds") rfl)
    exact ⟨He.glo_ok X G (cf 22 (f := .glo "BadBounds") rfl), z.1, z.2.1, z.2.2.1, z.2.2.2⟩
  have c_need_bounds := fun (base : Heap) => ok_need_bounds (P := PW) (w := w) (base := base) (cd (d := d_need_bounds) (by simp [fn])) (He.glo_ok X G (cf 20 (f := .glo "need_bounds") rfl)) bl (c_is_bounds base) e_BadBounds
  have e_BadRing : ErrC K mg "BadRing" := by
    have z := He.exc_ok (cf 24 (f := .exc "BadRing") rfl)
    exact ⟨He.glo_ok X G (cf 25 (f := .glo "BadRing") rfl), z.1, z.2.1, z.2.2.1, z.2.2.2⟩
  have c_need_ring := fun (base : Heap) => ok_need_ring (P := PW) (w := w) (base := base) (cd (d := d_need_ring) (by simp [fn])) (He.glo_ok X G (cf 23 (f := .glo "need_ring") rfl)) bl (c_is_among base) e_BadRing (He.int_ok X G (cf 26 (f := .int "MOST_RING" 200) rfl))
  have c_least_ring := fun (base : Heap) => ok_least_ring (P := PW) (w := w) (base := base) (cd (d := d_least_ring) (by simp [fn])) (He.glo_ok X G (cf 27 (f := .glo "least_ring") rfl)) bl (c_need_bounds base)
  have c__law_at := fun (base : Heap) (a : Addr) (ns : List Int) => ok__law_at (P := PW) (w := w) (base := base) (cd (d := d__law_at) (by simp [fn])) (He.glo_ok X G (cf 28 (f := .glo "_law_at") rfl)) bl a ns
  have c__law_mixed := fun (base : Heap) => ok__law_mixed (P := PW) (w := w) (base := base) (cd (d := d__law_mixed) (by simp [fn])) (He.glo_ok X G (cf 29 (f := .glo "_law_mixed") rfl)) bl
  have c__law_whole := fun (base : Heap) => ok__law_whole (P := PW) (w := w) (base := base) (cd (d := d__law_whole) (by simp [fn])) (He.glo_ok X G (cf 30 (f := .glo "_law_whole") rfl)) bl
  have c__law_texts := fun (base : Heap) => ok__law_texts (P := PW) (w := w) (base := base) (cd (d := d__law_texts) (by simp [fn])) (He.glo_ok X G (cf 31 (f := .glo "_law_texts") rfl)) bl (c__law_mixed base)
  have c__law_bounds := fun (base : Heap) (a : Addr) (ns : List Int) => ok__law_bounds (P := PW) (w := w) (base := base) (cd (d := d__law_bounds) (by simp [fn])) (He.glo_ok X G (cf 32 (f := .glo "_law_bounds") rfl)) bl (c__law_at base) (c__law_mixed base) a ns
  have hTrack : TrackF K := ⟨He.cls_ok (cf 35 (f := .cls "Track") rfl), He.noat_ok (cf 36 (f := .noat "Track" "steps") rfl), He.noat_ok (cf 37 (f := .noat "Track" "posts") rfl), He.noat_ok (cf 38 (f := .noat "Track" "replies") rfl)⟩
  have c_Track := fun (base : Heap) => ok_Track_init (P := PW) (w := w) (base := base) (cd (d := d_Track_init) (by simp [fn])) (He.glo_ok X G (cf 33 (f := .glo "Track") rfl)) (He.mkr_ok (cf 34 (f := .mkr "Track") rfl)) bl hTrack
  have m_Track_send := fun (base : Heap) => ok_Track_send (P := PW) (w := w) (base := base) (cd (d := d_Track_send) (by simp [fn])) (He.cls_ok (cf 35 (f := .cls "Track") rfl)) (He.meth_ok (cf 39 (f := .meth "Track" "send") rfl)) bl hTrack
  have m_Track_hand := fun (base : Heap) => ok_Track_hand (P := PW) (w := w) (base := base) (cd (d := d_Track_hand) (by simp [fn])) (He.cls_ok (cf 35 (f := .cls "Track") rfl)) (He.meth_ok (cf 40 (f := .meth "Track" "hand") rfl)) bl hTrack
  have m_Track_tell := fun (base : Heap) => ok_Track_tell (P := PW) (w := w) (base := base) (cd (d := d_Track_tell) (by simp [fn])) (He.cls_ok (cf 35 (f := .cls "Track") rfl)) (He.meth_ok (cf 41 (f := .meth "Track" "tell") rfl)) bl hTrack
  have m_Track_through := fun (base : Heap) => ok_Track_through (P := PW) (w := w) (base := base) (cd (d := d_Track_through) (by simp [fn])) (He.cls_ok (cf 35 (f := .cls "Track") rfl)) (He.meth_ok (cf 42 (f := .meth "Track" "through") rfl)) bl hTrack (m_Track_hand base) (m_Track_send base)
  have c_by_a_letter := fun (base : Heap) => ok_by_a_letter (P := PW) (w := w) (base := base) (cd (d := d_by_a_letter) (by simp [fn])) (He.glo_ok X G (cf 43 (f := .glo "by_a_letter") rfl)) bl hTrack (m_Track_hand base) (c_Track base) (m_Track_send base) (m_Track_tell base) (m_Track_through base)
  have c_by_an_answer := fun (base : Heap) => ok_by_an_answer (P := PW) (w := w) (base := base) (cd (d := d_by_an_answer) (by simp [fn])) (He.glo_ok X G (cf 44 (f := .glo "by_an_answer") rfl)) bl hTrack (c_Track base) (m_Track_send base) (m_Track_tell base) (m_Track_through base)
  have e_Safe : ErrC K mg "Safe" := by
    have z := He.exc_ok (cf 46 (f := .exc "Safe") rfl)
    exact ⟨He.glo_ok X G (cf 47 (f := .glo "Safe") rfl), z.1, z.2.1, z.2.2.1, z.2.2.2⟩
  have c_breaking := fun (base : Heap) => ok_breaking (P := PW) (w := w) (base := base) (cd (d := d_breaking) (by simp [fn])) (He.glo_ok X G (cf 45 (f := .glo "breaking") rfl)) bl (c_by_a_letter base) (c_by_an_answer base) (c_least_ring base) (c_need_bounds base) (c_need_ring base) e_Safe
  have c__law_begun := fun (base : Heap) => ok__law_begun (P := PW) (w := w) (base := base) (cd (d := d__law_begun) (by simp [fn])) (He.glo_ok X G (cf 48 (f := .glo "_law_begun") rfl)) bl
  have c__law_send := fun (base : Heap) => ok__law_send (P := PW) (w := w) (base := base) (cd (d := d__law_send) (by simp [fn])) (He.glo_ok X G (cf 49 (f := .glo "_law_send") rfl)) bl
  have c__law_is_there := fun (base : Heap) => ok__law_is_there (P := PW) (w := w) (base := base) (cd (d := d__law_is_there) (by simp [fn])) (He.glo_ok X G (cf 50 (f := .glo "_law_is_there") rfl)) bl
  have c__law_hand := fun (base : Heap) => ok__law_hand (P := PW) (w := w) (base := base) (cd (d := d__law_hand) (by simp [fn])) (He.glo_ok X G (cf 51 (f := .glo "_law_hand") rfl)) bl (c__law_is_there base)
  have c__law_tell := fun (base : Heap) => ok__law_tell (P := PW) (w := w) (base := base) (cd (d := d__law_tell) (by simp [fn])) (He.glo_ok X G (cf 52 (f := .glo "_law_tell") rfl)) bl (c__law_is_there base)
  have c__law_moved := fun (base : Heap) => ok__law_moved (P := PW) (w := w) (base := base) (cd (d := d__law_moved) (by simp [fn])) (He.glo_ok X G (cf 53 (f := .glo "_law_moved") rfl)) bl (c__law_hand base) (c__law_send base) (c__law_tell base)
  have c__law_is_wrong := fun (base : Heap) => ok__law_is_wrong (P := PW) (w := w) (base := base) (cd (d := d__law_is_wrong) (by simp [fn])) (He.glo_ok X G (cf 54 (f := .glo "_law_is_wrong") rfl)) bl
  obtain ⟨fd, FL⟩ := cd (d := d_law) (by simp [fn])
  have e := hfa.symm.trans (He.glo_ok X G (cf 55 (f := .glo "law") rfl))
  have e2 : f = He.fAd K ("law", none) := Value.ref.inj (Option.some.inj e)
  subst e2
  have b := FunD.bindsA (ps := ["_law_script"]) FL fun _ _ _ _ _ _ us hl => match us, hl with | [_], _ => rfl
  exact ⟨fd, fun s v => b s [v] rfl, fun base _ _ => ok_law FL bl (c__law_at base) (c__law_begun base) (c__law_bounds base) (c__law_is_wrong base) (c__law_moved base) (c__law_texts base) (c__law_whole base) (c_breaking base)⟩
end RP
open PySem PySem.W PySem.Calls PyProof.Rows
theorem PySem.Challenge.cw_ringpost_k11_whole_broken_by_plain_rows_holds : PySem.Challenge.rw_ringpost_k11_whole_broken_by_plain_rows.Holds := by
  w_on; o_law
  refine HandSHeadRun.head_any (r := OpenLaw.row PySem.Challenge.rw_ringpost_k11_whole_broken_by_plain_rows) (q := view (OpenLaw.row PySem.Challenge.rw_ringpost_k11_whole_broken_by_plain_rows).prog [32]) (H := RP.hk) (ob := RP.ob) (M := 12000) (loose := RP.loose) (d := HandSHeadRun.topDef (OpenLaw.row PySem.Challenge.rw_ringpost_k11_whole_broken_by_plain_rows).prog 32) (kwd := []) RP.ob_eq
    (by kernel_rfl) (fun s => by kernel_rfl) RP.run (by kernel_rfl) (by kernel_rfl) (by kernel_rfl) (by rfl) (by first | assumption | decide +kernel) (by decide +kernel) ⟨rfl, rfl, rfl, rfl, rfl, by decide +kernel⟩ ?hw ?hc
  case hw => w_witness2
  case hc =>
    refine RP.walk_W (l := PySem.Challenge.rw_ringpost_k11_whole_broken_by_plain_rows) (n := 63) (k := 6) (x := "_law_script") (CX := fun w => L2N.CX RP.PW w) rfl (by decide) (by kernel_rfl) ⟨rfl, by decide, by decide⟩ ?F (fun _ _ _ _ _ z => by
      obtain ⟨_, _, _, _, _, _, _, _, _, _, _, _, q⟩ := z
      exact q)
    intro w mg fa h Y G hmg0
    obtain ⟨K, KX, c⟩ := Y
    have hmg : mg ("law" : PySem.Str) = some (.ref fa) := by
      have e : (HandSHeadRun.topDef (OpenLaw.row PySem.Challenge.rw_ringpost_k11_whole_broken_by_plain_rows).prog 32).name = ("law" : PySem.Str) := by kernel_rfl
      rw [← e]
      exact hmg0
    obtain ⟨fd, hb, hF⟩ := RP.facts (w := w) KX G hmg c
    exact ⟨K, fd, RP.sp_law K, KX, hb, fun H a ns hl hO hS => ⟨a, ns, rfl, hS, fun _ => rfl⟩, hF⟩

