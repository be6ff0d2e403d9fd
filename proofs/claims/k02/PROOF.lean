import PyProof.Rows.All
import Wide.All
import OpenK.AllK
import Wide.FinOn
import HandS.ForMost
import HandS.ForExc
import HandS.TryMany
import HandS.IsInst
import HandS.ExcIs
import HandS.Conv
import HandS.More
import HandS.Zip
import HandS.TupAny
import HandS.TupLen
import HandS.HotCalls
import HandS.HeadHook4
import HandS.HeadEnd
import HandS.Head2
import PySem.Challenge.RW_ringpost_k02_who_sends
set_option Elab.async false
set_option linter.all false
set_option maxRecDepth 100000
set_option maxHeartbeats 4000000
open PySem PySem.Spec PyProof.Rows L2
local macro_rules | `(tactic| walk_at "st0") => `(tactic| simp only [L2.start, List.map_cons, List.map_nil, List.length_cons, List.length_nil, List.replicate, List.append_nil, List.cons_append, List.nil_append, Nat.zero_add, Nat.reduceAdd, Nat.reduceSub, Nat.sub_self])
local macro_rules | `(tactic| walk_at "len") => `(tactic| (intro h; first | (obtain ⟨e, _⟩ := h; rw [e]; rfl) | (obtain ⟨_, e, _⟩ := h; rw [e]; rfl) | (obtain ⟨_, _, e, _⟩ := h; rw [e]; rfl) | (obtain ⟨_, _, _, e, _⟩ := h; rw [e]; rfl) | (obtain ⟨_, _, _, _, e, _⟩ := h; rw [e]; rfl) | (obtain ⟨_, _, _, _, _, e, _⟩ := h; rw [e]; rfl) | (obtain ⟨_, _, _, _, _, _, e, _⟩ := h; rw [e]; rfl) | (obtain ⟨_, _, _, _, _, _, _, e, _⟩ := h; rw [e]; rfl) | (obtain ⟨_, _, _, _, _, _, _, _, e, _⟩ := h; rw [e]; rfl) | (obtain ⟨_, _, _, _, _, _, _, _, _, e, _⟩ := h; rw [e]; rfl) | (obtain ⟨_, _, _, _, _, _, _, _, _, _, e, _⟩ := h; rw [e]; rfl) | (obtain ⟨_, _, _, _, _, _, _, _, _, _, _, e, _⟩ := h; rw [e]; rfl) | (obtain ⟨_, _, _, _, _, _, _, _, _, _, _, _, e, _⟩ := h; rw [e]; rfl) | (obtain ⟨_, _, _, _, _, _, _, _, _, _, _, _, _, e, _⟩ := h; rw [e]; rfl)))

namespace RP
open PySem PySem.Spec PyProof.Rows L2

/-! ### a def, a method, a class as callers use them -/
section
variable (P : Program) (w : World) (K : PySem.W.Frag) (mg : Str → Option Value) (base : Heap)
def Cal (k : Nat) (x : Str) (sp : Sp) : Prop :=
  ∃ (f : Addr) (fd : FuncData) (ps : List Str), FnOk P w K mg base (L2N.CX P w) k f fd ps sp ∧ mg x = some (.ref f) ∧ PySem.W.keepIn K (.ref f) = true ∧ Binds K fd ps []
def MCal (k : Nat) (C : Addr) (m : Str) (sp : Sp) : Prop :=
  Cls K C ∧ ∃ (f : Addr) (fd : FuncData) (ps : List Str), FnOk P w K mg base (L2N.CX P w) k f fd ps sp ∧ Meth K C m f ∧ Binds K fd ps []
def KCal (k : Nat) (x : Str) (C : Addr) (sp : Sp) : Prop :=
  ∃ (f : Addr) (fd : FuncData) (ps : List Str), Mk K C f ∧ FnOk P w K mg base (L2N.CX P w) k f fd ps sp ∧ mg x = some (.ref C) ∧ Binds K fd ps []
end
section
variable {X : Cx} {k : Nat} {C : Addr} {sp : Sp} {W : WX} {x m : Str} {p pos apos : Pos} {e o : Expr} {es : List Expr} {ta : TE} {t : TA}
theorem pe_fn (c : Cal X.prog X.w X.K X.mg X.base k x sp) (hr : Room k X.A) (tk : L2N.Takes X W) (ha : PA X (e :: es) t) (hg : Gl X x := by rfl) (hdb : (x == ("__debug__" : Str)) = false := by decide)
    (he : starEach (e :: es) X.env = (false, eval e X.env) :: starEach es X.env := by rfl) (hpl : (backTo pos (starEach es X.env)).any (·.1) = false := by rfl) :
    PE X (.Call (.Name x p) (e :: es) [] pos) (tCallS sp (WE W) t) := by
  obtain ⟨f, fd, ps, F, hm, hk, hb⟩ := c
  exact pe_callS F hr hg hm hk hb (fun σ => L2N.passAt tk σ) ha hdb he hpl
def tMethS (C : Addr) (m : Str) (sp : Sp) (E : L2.St → XK) (ta : TE) (t : TA) : TE := fun σ H Q => ta σ H fun x H1 => ∃ a dx fs, x = .ref a ∧ H1 a = some (.ins C dx fs) ∧ fs.lookup m = none ∧ t σ H1 fun vs H2 => sp (x :: vs) H2 Q (E σ)
theorem pe_mth {pl : Sem Bool} (he : PE X o ta) (c : MCal X.prog X.w X.K X.mg X.base k C m sp) (hr : Room k X.A) (tk : L2N.Takes X W) (ha : PA X (e :: es) t)
    (hst : starEach (e :: es) X.env = (false, eval e X.env) :: starEach es X.env := by rfl) (hpl : (backTo pos (starEach es X.env)).any (·.1) = false := by rfl)
    (ht : eval (.Call (.Attribute o m apos) (e :: es) [] pos) X.env = (do
      let ov ← eval o X.env
      standAt apos.atName
      let (f, first) ← holding [ov] (getMethod ov m pl)
      callWith pos f first (backTo pos (starEach (e :: es) X.env)) (backToKw pos (keywordEach [] X.env))) := by rfl) :
    PE X (.Call (.Attribute o m apos) (e :: es) [] pos) (tMethS C m sp (WE W) ta t) := by
  obtain ⟨cl, f, fd, ps, F, hm, hb⟩ := c
  refine ⟨fun pins s σ H Q I h => ?_⟩
  refine PySem.W.methodCall_KW (pl := pl) (thn (he.run pins s σ H _ I h) fun u s1 ⟨x, H1, I1, rx, a, dx, fs, ex, ea, l, q⟩ => ?_) ht
  subst ex
  obtain rfl : u = Value.ref a := rx
  refine getmeth_ok I1 ea cl hm l ?_
  refine PySem.W.callWith_K (first := [.ref a]) (h₀ := X.base) I.ok.mod.kin hm.kp (thn (ha.run pos pins s1 σ H1 _ I1 q) fun us s2 ⟨vs, H2, I2, r, q2⟩ => ⟨I2.kIn, ?_⟩) hst hpl
  exact run_fnS (us := .ref a :: us) (vs := .ref a :: vs) F hr hb (L2N.passAt tk σ) I2 (.cons rfl r) q2
theorem pe_mth0 {pl : Sem Bool} (he : PE X o ta) (c : MCal X.prog X.w X.K X.mg X.base k C m sp) (hr : Room k X.A) (tk : L2N.Takes X W)
    (ht : eval (.Call (.Attribute o m apos) [] [] pos) X.env = (do
      let ov ← eval o X.env
      standAt apos.atName
      let (f, first) ← holding [ov] (getMethod ov m pl)
      callWith pos f first (backTo pos (starEach [] X.env)) (backToKw pos (keywordEach [] X.env))) := by rfl) :
    PE X (.Call (.Attribute o m apos) [] [] pos) (tMethS C m sp (WE W) ta tNil) := by
  obtain ⟨cl, f, fd, ps, F, hm, hb⟩ := c
  refine ⟨fun pins s σ H Q I h => ?_⟩
  refine PySem.W.methodCall_KW (pl := pl) (thn (he.run pins s σ H _ I h) fun u s1 ⟨x, H1, I1, rx, a, dx, fs, ex, ea, l, q⟩ => ?_) ht
  subst ex
  obtain rfl : u = Value.ref a := rx
  refine getmeth_ok I1 ea cl hm l ?_
  exact PySem.W.callWith_K0 (first := [.ref a]) I1.kIn hm.kp (run_fnS (us := [.ref a]) (vs := [.ref a]) F hr hb (L2N.passAt tk σ) I1 (.cons rfl .nil) q)
def tMakeS (C : Addr) (sp : Sp) (E : L2.St → XK) (t : TA) : TE := fun σ H Q => t σ H fun vs H1 => ∀ x dx, H1 x = none → H1 dx = none → dx ≠ x →
  sp (.ref x :: vs) (upd (upd H1 dx (.own x)) x (.ins C dx [])) (fun v H2 => v = .non ∧ Q (.ref x) H2) (E σ)
theorem run_mkS {pins : List (Addr × Obj)} {σ : L2.St} {H : Hp} {s : Shared} {Q : VK} {us : List Value} {vs : List V} {f : Addr} {fd : FuncData} {ps : List Str} (M : Mk X.K C f) (F : FnOk X.prog X.w X.K X.mg X.base (L2N.CX X.prog X.w) k f fd ps sp) (hr : Room (k + 1) X.A) (hb : Binds X.K fd ps [])
    (tk : L2N.Takes X W) (I : Inv X pins σ H s) (r : Vals vs us)
    (h : ∀ x dx, H x = none → H dx = none → dx ≠ x → sp (.ref x :: vs) (upd (upd H dx (.own x)) x (.ins C dx [])) (fun v H2 => v = .non ∧ Q (.ref x) H2) (WE W σ)) :
    wpAny (model X.prog X.w) X.A (call (.ref C) us) (EP X pins σ Q) X.xe s := by
  have hq := h (s.heap.objs.size + 1) s.heap.objs.size (I.hok.fresh (Nat.le_succ _)) (I.hok.fresh (Nat.le_refl _)) (Nat.ne_of_lt (Nat.lt_succ_self _))
  have I2 := Inv.made (C := C) I
  have r2 : Vals (V.ref (s.heap.objs.size + 1) :: vs) (Value.ref (s.heap.objs.size + 1) :: us) := .cons rfl r
  have hl : (Value.ref (s.heap.objs.size + 1) :: us ++ []).length = ps.length := by
    have e := r2.length
    rw [F.len _ _ _ _ hq] at e
    rw [List.append_nil]
    exact e.symm
  have bb := hb _ (Value.ref (s.heap.objs.size + 1) :: us) I2.kIn hl
  rw [List.append_nil] at bb
  refine wpAny_call (make_map (f := f) I.kIn M.makes M.init (beq_iff_eq.mp M.fn) (codeAny_mono (F.run _ X.stack _ _ ⟨Value.ref (s.heap.objs.size + 1) :: us, []⟩ (Value.ref (s.heap.objs.size + 1) :: us) _ _ (WE W σ) (hr.make C us [])
    (I2.env0.make C us []) bb r2 hq) fun r s' hq' => ?_))
  cases r with
  | error e => exact tk e s' (L2N.XE.of_call I2 (fun _ _ _ h => h) hq')
  | ok fl =>
    cases fl with
    | ret u =>
      obtain ⟨v, H', I3, rv, ev, q3⟩ := I2.after hq'
      subst ev
      exact ⟨rv, ⟨V.ref (s.heap.objs.size + 1), H', I3, rfl, q3⟩⟩
    | next => exact False.elim hq'
    | brk => exact False.elim hq'
    | cont => exact False.elim hq'
theorem pe_mk (c : KCal X.prog X.w X.K X.mg X.base k x C sp) (hr : Room (k + 1) X.A) (tk : L2N.Takes X W) (ha : PA X (e :: es) t) (hg : Gl X x := by rfl) (hdb : (x == ("__debug__" : Str)) = false := by decide)
    (he : starEach (e :: es) X.env = (false, eval e X.env) :: starEach es X.env := by rfl) (hpl : (backTo pos (starEach es X.env)).any (·.1) = false := by rfl) :
    PE X (.Call (.Name x p) (e :: es) [] pos) (tMakeS C sp (WE W) t) := by
  obtain ⟨f, fd, ps, M, F, hm, hb⟩ := c
  refine ⟨fun pins s σ H Q I h => ?_⟩
  refine wpAny_Call_Name_kw (ld_glob I hg hm ?_ hdb)
  refine PySem.W.callWith_K (h₀ := X.base) I.ok.mod.kin M.kp (thn (ha.run pos pins s σ H _ I h) fun us s1 ⟨vs, H1, I1, r, q⟩ => ⟨I1.kIn, ?_⟩) he hpl
  exact run_mkS M F hr hb tk I1 r q
theorem pe_mk0 (c : KCal X.prog X.w X.K X.mg X.base k x C sp) (hr : Room (k + 1) X.A) (tk : L2N.Takes X W) (hg : Gl X x := by rfl) (hdb : (x == ("__debug__" : Str)) = false := by decide) :
    PE X (.Call (.Name x p) [] [] pos) (tMakeS C sp (WE W) tNil) := by
  obtain ⟨f, fd, ps, M, F, hm, hb⟩ := c
  refine ⟨fun pins s σ H Q I h => ?_⟩
  refine wpAny_Call_Name_kw (ld_glob I hg hm ?_ hdb)
  exact PySem.W.callWith_K0 I.kIn M.kp (run_mkS (us := []) M F hr hb tk I .nil h)
end
/-! ### a def by its body -/
/-- the facts of a def of the module | of a method -/
abbrev FnP (K : PySem.W.Frag) (at_ : Str × Option Str) (x qual : Str) (st : Stmt) : Prop := ∃ fd, FunD K x qual (defArgs st) (defBody st) (defScope st) [] [] (He.fAd K at_) fd
section
variable {P : Program} {w : World} {K : PySem.W.Frag} {mg : Str → Option Value} {base : Heap}
theorem fn_cal {x : Str} {st : Stmt} {N ps : List Str} {k : Nat} {sp : Sp} (F : FnP K (x, none) x x st) (hm : mg x = some (.ref (He.ga K x))) (S : FnScope N ps (defScope st)) (len : ∀ vs H Q E, sp vs H Q E → vs.length = ps.length)
    (hbd : ∀ (kV doc pm : Value) (an : Option Addr) (cdv ct : Value) (us : List Value), us.length = ps.length → bindArgs (PySem.W.fnOf x x (defArgs st) (defBody st) (defScope st) .none kV doc pm an cdv ct) ⟨us, []⟩ = pure (ps.zip us))
    (hbody : ∀ (f : Addr) (cdv : Value) (A : Around) (outer : List Env) (s : Shared) (H : Hp) (vs : List V) (Q : VK) (E : XK), Room k (A.deeper (envOfC x (defScope st) s.heap.objs.size f cdv)) → sp vs H Q E →
      ∃ t, PSs (cxOf (L2N.CX P w) P w K mg base N x (defScope st) f cdv A outer s H E) (defBody st) t ∧ t { nx := fun _ H' => Q .non H', rt := Q } (start N vs) H) : Cal P w K mg base (k + 1) x sp := by
  obtain ⟨fd, F⟩ := F
  exact ⟨_, fd, ps, F.ok S len fun cdv A outer s H vs Q E hr h => hbody _ cdv A outer s H vs Q E hr h, hm, F.kp, F.bindsN hbd⟩
theorem fn_mcal {c m qual : Str} {st : Stmt} {N ps : List Str} {k : Nat} {sp : Sp} (F : FnP K (c, some m) m qual st) (hc : Cls K (He.ga K c)) (hm : Meth K (He.ga K c) m (He.ma K (He.ga K c) m)) (S : FnScope N ps (defScope st)) (len : ∀ vs H Q E, sp vs H Q E → vs.length = ps.length)
    (hbd : ∀ (kV doc pm : Value) (an : Option Addr) (cdv ct : Value) (us : List Value), us.length = ps.length → bindArgs (PySem.W.fnOf m qual (defArgs st) (defBody st) (defScope st) .none kV doc pm an cdv ct) ⟨us, []⟩ = pure (ps.zip us))
    (hbody : ∀ (f : Addr) (cdv : Value) (A : Around) (outer : List Env) (s : Shared) (H : Hp) (vs : List V) (Q : VK) (E : XK), Room k (A.deeper (envOfC qual (defScope st) s.heap.objs.size f cdv)) → sp vs H Q E →
      ∃ t, PSs (cxOf (L2N.CX P w) P w K mg base N qual (defScope st) f cdv A outer s H E) (defBody st) t ∧ t { nx := fun _ H' => Q .non H', rt := Q } (start N vs) H) : MCal P w K mg base (k + 1) (He.ga K c) m sp := by
  obtain ⟨fd, F⟩ := F
  exact ⟨hc, _, fd, ps, F.ok S len fun cdv A outer s H vs Q E hr h => hbody _ cdv A outer s H vs Q E hr h, hm, F.bindsN hbd⟩
theorem fn_kcal {c qual : Str} {st : Stmt} {N ps : List Str} {k : Nat} {sp : Sp} (F : FnP K (c, some "__init__") "__init__" qual st) (hm : mg c = some (.ref (He.ga K c))) (M : Mk K (He.ga K c) (He.ma K (He.ga K c) "__init__")) (S : FnScope N ps (defScope st)) (len : ∀ vs H Q E, sp vs H Q E → vs.length = ps.length)
    (hbd : ∀ (kV doc pm : Value) (an : Option Addr) (cdv ct : Value) (us : List Value), us.length = ps.length → bindArgs (PySem.W.fnOf "__init__" qual (defArgs st) (defBody st) (defScope st) .none kV doc pm an cdv ct) ⟨us, []⟩ = pure (ps.zip us))
    (hbody : ∀ (f : Addr) (cdv : Value) (A : Around) (outer : List Env) (s : Shared) (H : Hp) (vs : List V) (Q : VK) (E : XK), Room k (A.deeper (envOfC qual (defScope st) s.heap.objs.size f cdv)) → sp vs H Q E →
      ∃ t, PSs (cxOf (L2N.CX P w) P w K mg base N qual (defScope st) f cdv A outer s H E) (defBody st) t ∧ t { nx := fun _ H' => Q .non H', rt := Q } (start N vs) H) : KCal P w K mg base (k + 1) c (He.ga K c) sp := by
  obtain ⟨fd, F⟩ := F
  exact ⟨_, fd, ps, M, F.ok S len fun cdv A outer s H vs Q E hr h => hbody _ cdv A outer s H vs Q E hr h, hm, F.bindsN hbd⟩
end
/-! ### the built-in names -/
structure Blt (mg : Str → Option Value) : Prop where
  len : mg "len" = none
  range : mg "range" = none
  min : mg "min" = none
  max : mg "max" = none
  isi : mg "isinstance" = none
  int : mg "int" = none
  bool : mg "bool" = none
  str : mg "str" = none
  list : mg "list" = none
  tuple : mg "tuple" = none
  dict : mg "dict" = none
  sorted : mg "sorted" = none
  enumerate : mg "enumerate" = none
  zip : mg "zip" = none
  all : mg "all" = none
  ValueError : mg "ValueError" = none
end RP

/-! ### in an except suite: a def that is handed the caught error -/
namespace RP
open PySem PySem.Spec PyProof.Rows L2 L2H HotX
section
variable {prog : Program} {w : World} {A : Around} {E : Value → Shared → Prop} {s : Shared}
theorem list_end_hot {it l x1 : Addr} {i : Nat} {items} {Q : Option Value → Shared → Prop} (hot : HotAt A x1 s.heap)
    (hit : s.heap.IsListIter it l i) (hl : s.heap.IsList l items) (hx : items[i]? = none) (hne : x1 ≠ it)
    (hQ : ∀ h', (∀ b o, b ≠ it → s.heap.get? b = some o → h'.get? b = some o) → Q none { s with heap := h' }) : wpAny (model prog w) A (pyNext (.ref it)) Q E s := by
  obtain ⟨o, ho, hc, hd⟩ := id hit
  obtain ⟨ol, hol, _, nl, hdl⟩ := hl
  obtain ⟨hh, o1, vs1, h1, d1, c1⟩ := hot
  unfold pyNext
  refine wpAny_bind (wpAny_attempt (wpAny_callSpecial?_slot (name := Str.ofString "__next__") hit.typeIs slot_listiter_next
    (wpAny_call_entry slot_listiter_next hit.typeIs entry_listiter_next ?_ (args_listiter_next _))))
  show wpAny _ _ (field (.ref it) 0 >>= _) _ _ s
  refine wpAny_bind (wpAny_field ho hd (x := .ref l) rfl ?_)
  show wpAny _ _ (if (Value.ref l == Value.none) = true then _ else _) _ _ s
  rw [if_neg (show ¬ ((Value.ref l == Value.none) = true) from Bool.false_ne_true)]
  show wpAny _ _ (field (.ref it) 1 >>= _) _ _ s
  refine wpAny_bind (wpAny_field ho hd (x := .int i 0) rfl ?_)
  show wpAny _ _ (seqItems? (.ref l) >>= _) _ _ s
  refine wpAny_bind (wpAny_seqItems hol hdl ?_)
  simp only [Int.toNat_natCast, hx]
  refine wpAny_bind (wpAny_rule (wpAny_bind (wpAny_setField ho hd (by simp) ?_)))
  show wpAny _ _ (newExc (.type "StopIteration") [] >>= _) _ _ _
  refine wpAny_bind ?_
  simp only [newExc, newTuple]
  refine wpAny_bind (wpAny_newObj_type ?_ (by size_fits))
  refine wpAny_bind (m := firstArgMember _ _) (wpAny_of_eq (a := Value.none) (by first | rfl | (simp only [firstArgMember]; rfl)) ?_)
  refine wpAny_newObj_type ?_ (by size_fits)
  have h1' := (Heap.get?_update_other s.heap (Obj.mapFields (·.setIfInBounds 0 .none)) hne.symm).trans h1
  refine raiseNew_hot ⟨hh, o1, vs1, Heap.get?_push_of_some _ (Heap.get?_push_of_some _ h1'), d1, c1⟩ (Nat.ne_of_lt (Heap.lt_size (Heap.get?_push_of_some _ h1'))) (Heap.get?_push_size _ rfl) rfl (by first | (simp; done) | (simp; omega) | (simp only [Array.size_append]; simp; omega)) ?_
  refine wpAny_bind (wpAny_isInstance (T := "StopIteration") (b := true) ⟨_, Heap.get?_update_self _ (Heap.get?_push_size _ rfl) rfl, rfl⟩ isSubtype_stop ?_)
  refine wpAny_pure (hQ _ fun b o hb e => ?_)
  have e' := (Heap.get?_update_other s.heap (Obj.mapFields (·.setIfInBounds 0 .none)) (Ne.symm hb)).trans e
  rw [Heap.get?_update_other _ _ (Nat.ne_of_gt (Heap.lt_size (Heap.get?_push_of_some _ e')))]
  exact Heap.get?_push_of_some _ (Heap.get?_push_of_some _ e')
end

theorem turn_listH {P : Program} {w : World} {K : PySem.W.Frag} {tg : Expr} (a it : Addr) : TurnH P w K tg (Itl K a) [it] it (fun i h => h.IsListIter it a i) where
  mem := by simp
  obj := fun i h st b hb => by
    have e : b = it := by simpa using hb
    subst e
    obtain ⟨o, e, c, d⟩ := st
    exact ⟨o, e, fun v z => by rw [d] at z; cases z⟩
  keep := fun i h h' st k => st.at fun o e => k it (by simp) o e
  item := by
    intro X hP hw hK hc i pins s σ H E I hf st hg
    subst hP hw hK
    obtain ⟨xs, x, hq, hx⟩ := hg
    obtain ⟨its, rv, p, hz⟩ := I.list hq
    obtain ⟨u, hu, ru⟩ := rv.get hx
    obtain ⟨f0, f1, f2, f3, f4, f5⟩ := hf it (by simp)
    refine wpAny_pyNext_list_item st p.isList (x := u) (by simpa using hu) fun h' st' sb => ?_
    have I1 : Inv X pins σ H { s with heap := h' } := I.turned (t' := s.toks) (fun b o hb e => (sb.2 b hb).trans e) f0 f1 f3 f4 f5
    obtain ⟨o, e, c, d⟩ := id st'
    exact ⟨u, rfl, go_of (s := { s with heap := h' }) e c d (by decide) ⟨x, H, I1, ru, ⟨rfl, fun ys hy => by rw [I.list_inj hy hq]; exact hx⟩, st', fun b hb => (hf b hb).1⟩⟩
  done := by
    intro X hP hw hK hc i pins s σ H E I hf st hg
    subst hP hw hK
    obtain ⟨xs, hq, hx⟩ := hg
    obtain ⟨its, rv, p, hz⟩ := I.list hq
    obtain ⟨f0, f1, f2, f3, f4, f5⟩ := hf it (by simp)
    have hl := rv.length
    obtain ⟨q, ⟨hh, v1, e1, c1⟩, hq1⟩ := hc
    have P1 := I.pin q (List.mem_append_left _ hq1)
    have hne : q.1 ≠ it := f5 q (List.mem_append_left _ hq1)
    refine list_end_hot ⟨hh, q.2, v1, P1.1, e1, c1⟩ st p.isList (by simp; omega) hne fun h' eb => ⟨rfl, I.turned (t' := s.toks) eb f0 f1 f3 f4 f5⟩
  self := fun _ _ _ _ _ st h => wpAny_pyIter_listiter st h

section
variable {X : Cx} {tg : Expr}
theorem pi_listH {l : Expr} {tl : TE} (hl : PE X l tl) : PIH X tg l (iList X.K tl) := by
  refine ⟨fun pins s σ H R I h => thn (hl.run pins s σ H _ I h) fun v s1 ⟨x, H1, I1, r1, a, ex, ⟨xs, hq⟩, q⟩ => ?_⟩
  subst ex
  cases r1
  obtain ⟨its, rv, p, hz⟩ := I1.list hq
  refine wpAny_pyIter_list p.isList ?_
  refine ⟨s1.heap.objs.size, [s1.heap.objs.size], _, _, H1, rfl, I1.kept (t' := s1.toks) fun b o e => Heap.get?_push_of_some _ e, turn_listH a _, ⟨_, Heap.get?_push_size _ rfl, rfl, rfl⟩, fun b hb => ?_, q⟩
  have e : b = s1.heap.objs.size := by simpa using hb
  subst e
  exact I1.fpOk (Nat.le_refl _) (I1.hok.fresh (Nat.le_refl _))
end
/-- what a def promises that is called within a suite: p is the handled exception -/
structure FnE (P : Program) (w : World) (K : PySem.W.Frag) (mg : Str → Option Value) (base : Heap) (k : Nat) (f : Addr) (fd : FuncData) (ps : List Str) (sp : Addr → Value → Option Addr → Sp) : Prop where
  len : ∀ a c d vs H Q E, sp a c d vs H Q E → vs.length = ps.length
  run : ∀ (A : Around) (outer : List Env) (s : Shared) (H : Hp) (args : Args) (us : List Value) (vs : List V) (Q : VK) (E : XK) (p : Addr × Obj) (c : Value) (d : Option Addr), RoomH k A → Hot1 A p → L2N.Zn c d p.2 → PinOk outer H s p → Env0 P w K mg base A outer s H → BindsTo s fd args (ps.zip us) → Vals vs us → sp p.1 c d vs H Q E →
    codeAny (model P w) A (.call (.ref f) args) (CR (L2N.CX P w) outer P w H s Q E) s
theorem fn_ofE {P : Program} {w : World} {K : PySem.W.Frag} {mg : Str → Option Value} {base : Heap} {k : Nat} {f : Addr} {name qual : Str} {params : Arguments} {body : List Stmt} {scope : Scope} {dV kV doc pm cdv ct oc : Value} {an od : Option Addr}
    {osl : Array (Option Value)} {N ps : List Str} {sp : Addr → Value → Option Addr → Sp} (lk : K.lookup f = some ⟨oc, od, .func (PySem.W.fnOf name qual params body scope dV kV doc pm an cdv ct), osl⟩) (hcd : PySem.W.codeIn K cdv qual = true) (S : FnScope N ps scope)
    (len : ∀ a c d vs H Q E, sp a c d vs H Q E → vs.length = ps.length)
    (hbody : ∀ (A : Around) (outer : List Env) (s : Shared) (H : Hp) (vs : List V) (Q : VK) (E : XK) (p : Addr × Obj) (c : Value) (d : Option Addr), Hot1 A p → L2N.Zn c d p.2 → RoomH k (A.deeper (envOfC qual scope s.heap.objs.size f cdv)) → sp p.1 c d vs H Q E →
      ∃ t, PSs (cxH (L2N.CX P w) P w K mg base N qual scope f cdv A outer s H E p) body t ∧ t { nx := fun _ H' => Q .non H', rt := Q } (L2.start N vs) H) :
    FnE P w K mg base (k + 1) f (PySem.W.fnOf name qual params body scope dV kV doc pm an cdv ct) ps sp := by
  constructor
  · exact len
  intro A outer s H args us vs Q E p c d hr hot hz hpin e0 hb r hsp
  have hin : ∀ b o, base.get? b = some o → s.heap.get? b = some o := fun b o e => (e0.bs b o e).1
  have hK : K.In s.heap := PySem.W.Frag.In.keeps e0.mod.kin hin
  have hpar : ∀ y ∈ ps.zip us, scope.names.lookup y.1 = some .local ∨ (scope.names.lookup y.1 = some .cell ∧ ((cellsFrom (s.heap.objs.size + 1) scope.names []).lookup y.1).isSome = true) := by
    rintro ⟨n, v⟩ hy
    have q := S.par n (List.of_mem_zip hy).1
    cases q with
    | inl q => exact Or.inl q
    | inr q => exact Or.inr ⟨q, PySem.W.cellsFrom_some _ _ _ (Or.inl q)⟩
  refine codeAny_call_function hr.depth (hK _ _ lk) rfl S.co S.gen rfl (PySem.W.codeRec_of hK hcd) (hb _ _ _ _ (wpAny_newFunctionEnv_cells S.kind hpar ?_))
  intro env he s1 x
  subst he
  refine ⟨(e0.mod.nolimit.keeps hin).keeps x.toInCall.keep, codeAny_func ?_⟩
  obtain ⟨t, ht, hq⟩ := hbody A outer s H vs Q E p c d hot hz (hr.deeper _) hsp
  have I := inv_startH (CX := L2N.CX P w) (K := K) (mg := mg) (base := base) (N := N) (qual := qual) (f := f) (cd := cdv) (E := E) S hpin e0 (len _ _ _ _ _ _ _ hsp) r x
  refine wpAny_mono (ht.run [] s1 _ H _ I hq) ?_ fun _ _ z => z
  intro fl s' hs
  cases fl with
  | ret u => exact match hs with | ⟨v, _, H', J, rv, q⟩ => ⟨v, H', J.os, J.bare, J.base, J.hok, rv, q⟩
  | next => exact match hs with | ⟨_, H', J, q⟩ => ⟨V.non, H', J.os, J.bare, J.base, J.hok, rfl, q⟩
  | brk => exact match hs with | ⟨_, _, _, q⟩ => q.elim
  | cont => exact match hs with | ⟨_, _, _, q⟩ => q.elim
section
variable {X : Cx} {k : Nat} {sp : Addr → Value → Option Addr → Sp} {cls : Value} {dd : Option Addr} {W : WX} {x m : Str} {pos q : Pos} {e o : Expr} {es : List Expr} {ta : TE} {t : TA} {p : Addr × Obj}
/-- a def of the module, as a suite's call uses it -/
def CalE (P : Program) (w : World) (K : PySem.W.Frag) (mg : Str → Option Value) (base : Heap) (k : Nat) (x : Str) (sp : Addr → Value → Option Addr → Sp) : Prop :=
  ∃ (f : Addr) (fd : FuncData) (ps : List Str), FnE P w K mg base k f fd ps sp ∧ mg x = some (.ref f) ∧ PySem.W.keepIn K (.ref f) = true ∧ L2.Binds K fd ps []
theorem pe_fnE (c : CalE X.prog X.w X.K X.mg X.base k x sp) (hr : RoomH k X.A) {a : Addr} {oe : Obj} (hot : Hot1 X.A (a, oe)) (hz : L2N.Zn cls dd oe) (hp : (a, oe) ∈ X.pn) (tk : L2N.Takes X W) (ha : PA X (e :: es) t) (hg : Gl X x := by rfl) (hdb : (x == ("__debug__" : Str)) = false := by decide)
    (he : starEach (e :: es) X.env = (false, eval e X.env) :: starEach es X.env := by rfl) (hpl : (backTo pos (starEach es X.env)).any (·.1) = false := by rfl) :
    PE X (.Call (.Name x q) (e :: es) [] pos) (tCallS (sp a cls dd) (WE W) t) := by
  obtain ⟨f, fd, ps, F, hm, hk, hb⟩ := c
  constructor
  intro pins s σ H Q I h
  refine wpAny_Call_Name_kw (ld_glob I hg hm ?_ hdb)
  refine PySem.W.callWith_K (h₀ := X.base) I.ok.mod.kin hk (thn (ha.run pos pins s σ H _ I h) ?_) he hpl
  rintro us s1 ⟨vs, H1, I1, r, hsp⟩
  refine ⟨I1.kIn, ?_⟩
  have b := hb s1 us I1.kIn (by rw [List.append_nil, ← r.length]; exact F.len _ _ _ _ _ _ _ hsp)
  rw [List.append_nil] at b
  have P1 := I1.pin (a, oe) (List.mem_append_left _ hp)
  have hpin : PinOk X.stack H1 s1 (a, oe) := ⟨P1.1, P1.2.1, fun hm => (List.mem_cons.mp (I1.stkSub a hm)).elim P1.2.2.1 P1.2.2.2.1, P1.2.2.2.2⟩
  refine wpAny_call (codeAny_mono (F.run X.A X.stack s1 H1 ⟨us, []⟩ us vs Q (WE W σ) (a, oe) cls dd hr hot hz hpin I1.env0 b r hsp) fun rs s' hq => ?_)
  cases rs with
  | error e => exact L2N.passAt tk σ pins H1 s1 e s' I1 hq
  | ok fl => cases fl with
    | ret u => exact I1.after hq
    | next => exact hq.elim
    | brk => exact hq.elim
    | cont => exact hq.elim
def clsOf : V → Option Value
  | .ref a => some (.ref a)
  | .ty n => some (.type n)
  | _ => none
/-- isinstance(e, c), e the handled exception -/
def rIsEC (K : PySem.W.Frag) (a : Addr) (cls : Value) : List V → Hp → VK → Prop := fun xs H Q => ∃ (c : V) (cv : Value) (b : Bool), xs = [.ref a, c] ∧ clsOf c = some cv ∧ PySem.W.kitOne K cls cv = some b ∧ Q (.bl b) H
theorem isE {D a : Addr} {oe : Obj} (C : ExcC X.K D) (hp : (a, oe) ∈ X.pn) (hz : L2N.Zn cls dd oe) (hc : cls = .ref D) (hd : dd = none) (hf : ∃ vs, oe.data = .fields vs) : CallR X (.builtin "isinstance") (rIsEC X.K a cls) := by
  subst hc hd
  rintro pins s σ H xs us Q I r ⟨c, cv, b, rfl, hcv, e, q⟩
  obtain ⟨u1, u2, rfl, r1, r2⟩ := vals2 r
  cases r1
  have ec : u2 = cv := by
    cases c <;> simp only [clsOf, Option.some.injEq, reduceCtorEq] at hcv
    · rw [← hcv]; exact r2
    · rw [← hcv]; exact r2
  subst ec
  have hget := (I.pin (a, oe) (List.mem_append_left _ hp)).1
  have J : PySem.W.InstAt s.heap a oe D none := by
    obtain ⟨oc, od, oda, osl⟩ := oe
    obtain ⟨z1, z2, _⟩ := hz
    obtain ⟨vs, hv⟩ := hf
    dsimp only at z1 z2 hv
    subst z1 z2 hv
    exact ⟨hget, rfl, rfl, trivial⟩
  exact PySem.W.kia_one (PySem.W.handS_kitx_exc C.hg C.hk C.hs C.hd C.ha C.hn C.ht C.hm) I.kIn J e (fun z => nomatch z) fun tk => ⟨.bl b, H, I.kept (t' := tk) fun _ _ z => z, rfl, q⟩
theorem tkN {a' : Addr} {pn' : List (Addr × Obj)} : L2N.Takes (X.suite a' pn') (fun _ _ _ _ => False) := fun _ _ ⟨_, _, _, _, _, _, _, _, _, _, _, _, _, _, _, _, w⟩ => w.elim
theorem tkB {s : Shared} {H : Hp} {sc : Scope} {ce : Env} {fp : List Addr} : L2N.Takes (X.blk s H sc ce fp) (fun _ _ _ _ => False) := fun _ _ ⟨_, _, _, _, _, _, _, _, _, _, _, _, _, _, _, _, w⟩ => w.elim
end
/-- a def of the module for suites, by its body -/
theorem fn_calE {P : Program} {w : World} {K : PySem.W.Frag} {mg : Str → Option Value} {base : Heap} {x : Str} {st : Stmt} {N ps : List Str} {k : Nat} {sp : Addr → Value → Option Addr → Sp} (F : FnP K (x, none) x x st) (hm : mg x = some (.ref (He.ga K x))) (S : FnScope N ps (defScope st))
    (len : ∀ a c d vs H Q E, sp a c d vs H Q E → vs.length = ps.length)
    (hbd : ∀ (kV doc pm : Value) (an : Option Addr) (cdv ct : Value) (us : List Value), us.length = ps.length → bindArgs (PySem.W.fnOf x x (defArgs st) (defBody st) (defScope st) .none kV doc pm an cdv ct) ⟨us, []⟩ = pure (ps.zip us))
    (hbody : ∀ (f : Addr) (cdv : Value) (A : Around) (outer : List Env) (s : Shared) (H : Hp) (vs : List V) (Q : VK) (E : XK) (p : Addr × Obj) (c : Value) (d : Option Addr), Hot1 A p → L2N.Zn c d p.2 → RoomH k (A.deeper (envOfC x (defScope st) s.heap.objs.size f cdv)) → sp p.1 c d vs H Q E →
      ∃ t, PSs (cxH (L2N.CX P w) P w K mg base N x (defScope st) f cdv A outer s H E p) (defBody st) t ∧ t { nx := fun _ H' => Q .non H', rt := Q } (L2.start N vs) H) : CalE P w K mg base (k + 1) x sp := by
  obtain ⟨fd, F⟩ := F
  obtain ⟨oc, od, dV, kV, doc, pm, an, cdv, ct, osl, rfl, lk, hcd, _, _⟩ := F.ex
  exact ⟨_, _, ps, fn_ofE lk hcd S len fun A outer s H vs Q E p c d h1 h2 hr h => hbody _ cdv A outer s H vs Q E p c d h1 h2 hr h, hm, F.kp, F.bindsN hbd⟩
theorem roomS {j k : Nat} {A : Around} {x : Option Value} (hr : Room j A) (h : k ≤ j) : RoomH k (A.mark x) := ⟨(roomH_of (hr.mono h)).dp, (roomH_of (hr.mono h)).un⟩
end RP

/-! ### rules whose readings simp can reckon -/
namespace RP
open PySem PySem.Spec PyProof.Rows L2
section
variable {X : Cx} {e : Expr} {st : Stmt}
theorem pe_imp {t t' : TE} (h : PE X e t) (i : ∀ σ H Q, t' σ H Q → t σ H Q) : PE X e t' := ⟨fun pins s σ H Q I q => h.run pins s σ H Q I (i σ H Q q)⟩
theorem pt_imp {t t' : TT} (h : PT X e t) (i : ∀ σ H Q, t' σ H Q → t σ H Q) : PT X e t' := ⟨fun pins s σ H Q I q => h.run pins s σ H Q I (i σ H Q q)⟩
theorem ps_imp {t t' : TS} (h : PS X st t) (i : ∀ D σ H, t' D σ H → t D σ H) : PS X st t' := ⟨fun pins s σ H D I q => h.run pins s σ H D I (i D σ H q)⟩
theorem call_imp {f : Value} {r r' : List V → Hp → VK → Prop} (h : CallR X f r) (i : ∀ vs H Q, r' vs H Q → r vs H Q) : CallR X f r' := fun pins s σ H xs us Q I v q => h pins s σ H xs us Q I v (i xs H Q q)
theorem op_imp {f : Value → Value → Sem Value} {r r' : R2} (h : OpR X f r) (i : ∀ x y H Q, r' x y H Q → r x y H Q) : OpR X f r' := fun pins s σ H x y v u Q I rx ry q => h pins s σ H x y v u Q I rx ry (i x y H Q q)
theorem ix_imp {r r' : R2} (h : IxR X r) (i : ∀ x y H Q, r' x y H Q → r x y H Q) : IxR X r' := fun a b pins s σ H x y v u Q I rx ry q => h a b pins s σ H x y v u Q I rx ry (i x y H Q q)
end
/-! #### what stands at a value -/
def tyN (H : Hp) : V → Option String
  | .non => some "NoneType"
  | .bl _ => some "bool"
  | .int _ => some "int"
  | .str _ => some "str"
  | .ref a => match H a with
    | some (.lst _) => some "list"
    | some (.tup _) => some "tuple"
    | some (.dK _) => some "dict"
    | _ => none
  | _ => none
def seqO (H : Hp) (a : Addr) : Option (List V) := match H a with
  | some (.lst xs) => some xs
  | some (.tup xs) => some xs
  | some (.frz _ (.lst xs)) => some xs
  | _ => none
def keyV : V → Option Key
  | .int n => some (.inl n)
  | .str x => some (.inr x)
  | _ => none
theorem keyV_eq {v : V} {k : Key} (h : keyV v = some k) : v = kV k := by
  cases v <;> simp only [keyV, Option.some.injEq, reduceCtorEq] at h <;> subst h <;> rfl
theorem tyN_ok {K : PySem.W.Frag} {H : Hp} {x : V} {t : String} (h : tyN H x = some t) : TyX K H x (.type t) := by
  cases x with
  | non => cases h; exact .base .non
  | bl b => cases h; exact .base (.bl b)
  | int i => cases h; exact .base (.int i)
  | str s => cases h; exact .base (.str s)
  | byt b => cases h
  | flt b => cases h
  | ty n => cases h
  | ref a =>
    unfold tyN at h
    dsimp only at h
    split at h
    · cases h; exact .base (.lst (by assumption))
    · cases h; exact .base (.tup (by assumption))
    · cases h; exact .base (.dK (by assumption))
    · cases h
theorem seqO_ok {K : PySem.W.Frag} {H : Hp} {a : Addr} {xs : List V} (h : seqO H a = some xs) : SqL K H a xs ∨ SqT K H a xs := by
  unfold seqO at h
  split at h
  · cases h; exact .inl (SqL.of (by assumption))
  · cases h; exact .inr (SqT.of (by assumption))
  · cases h; exact .inl (.inl (.inr ⟨_, by assumption⟩))
  · cases h
section
variable {X : Cx}
def rIsC : List V → Hp → VK → Prop := fun vs H Q => ∃ x c t b, vs = [x, .ty c] ∧ tyN H x = some t ∧ kitB t c = some b ∧ Q (.bl b) H
theorem call_isC : CallR X (.builtin "isinstance") rIsC := call_imp call_isi fun vs H Q ⟨x, c, t, b, e, h1, h2, q⟩ => ⟨x, .ty c, .type t, .type c, b, e, .ty c, tyN_ok h1, kit_ty h2, q⟩
def lenO (H : Hp) (a : Addr) : Option Nat := match H a with
  | some (.dK kvs) => some kvs.length
  | _ => (seqO H a).map List.length
def rLenC : List V → Hp → VK → Prop := fun vs H Q => ∃ a n, vs = [.ref a] ∧ lenO H a = some n ∧ Q (.int (n : Int)) H
theorem call_lenC : CallR X (.builtin "len") rLenC := by
  intro pins s σ H xs us Q I r h
  obtain ⟨a, n, rfl, e, q⟩ := h
  unfold lenO at e
  split at e
  · cases e
    exact call_lenD pins s σ H _ us Q I r ⟨_, _, rfl, by assumption, q⟩
  · obtain ⟨ys, e1, rfl⟩ := Option.map_eq_some_iff.mp e
    exact call_len_seq pins s σ H _ us Q I r ⟨_, _, rfl, seqO_ok e1, q⟩
def rIxC : R2 := fun x y H Q => ∃ p xs i v, x = .ref p ∧ y = .int i ∧ seqO H p = some xs ∧ atI xs i = some v ∧ Q v H
theorem ix_C : IxR X rIxC := ix_imp (IxR.or ix_list ix_tup) fun x y H Q ⟨p, xs, i, v, e1, e2, h, a, q⟩ => (seqO_ok (K := X.K) h).elim (fun z => .inl ⟨p, xs, i, v, e1, e2, z, a, q⟩) fun z => .inr ⟨p, xs, i, v, e1, e2, z, a, q⟩
def rInC (neg : Bool) : R2 := fun x y H Q => ∃ p xs, y = .ref p ∧ seqO H p = some xs ∧ flatV x = true ∧ xs.all flatV = true ∧ Q (.bl (if neg then !inV x xs else inV x xs)) H
theorem op_inC : OpR X (compareOp .In) (rInC false) := op_imp op_in_seq fun x y H Q ⟨p, xs, e, h, f1, f2, q⟩ => ⟨p, xs, e, seqO_ok h, f1, f2, q⟩
theorem op_notInC : OpR X (compareOp .NotIn) (rInC true) := op_imp op_notIn_seq fun x y H Q ⟨p, xs, e, h, f1, f2, q⟩ => ⟨p, xs, e, seqO_ok h, f1, f2, q⟩
/-! #### dicts with keys that are ints or texts -/
variable {a b o i value : Expr} {pos pos' apos cpos : Pos} {td ty tv te : TE}
def tInD (neg : Bool) (ty td : TE) : TE := fun σ H Q => ty σ H fun y H1 => td σ H1 fun x H2 => ∃ a kvs k, x = .ref a ∧ H2 a = some (.dK kvs) ∧ keyV y = some k ∧ Q (.bl (if neg then !(valV kvs k).isSome else (valV kvs k).isSome)) H2
theorem pc_imp {op : CmpOp} {t t' : TE} (h : PC X op a b t) (i : ∀ σ H Q, t' σ H Q → t σ H Q) : PC X op a b t' := ⟨fun pins s σ H Q I q => h.run pins s σ H Q I (i σ H Q q)⟩
/-- what must hold, by a wish that is less -/
def tMn (t : TE) : TE := fun σ H Q => ∃ R : VK, t σ H R ∧ ∀ x H1, R x H1 → Q x H1
theorem pe_mn {t : TE} (h : PE X a t) : PE X a (tMn t) := ⟨fun pins s σ H Q I ⟨R, r, m⟩ => thn (h.run pins s σ H R I r) fun u s1 ⟨v, H1, I1, rv, q⟩ => ⟨v, H1, I1, rv, m _ _ q⟩⟩
def tMnA (t : TA) : TA := fun σ H Q => ∃ R : List V → Hp → Prop, t σ H R ∧ ∀ x H1, R x H1 → Q x H1
theorem getK {H : Hp} {a : Addr} {kvs : List (Key × V)} {k : Key} {y : V} (e : H a = some (.dK kvs)) (h : keyV y = some k) : DGet H a y (valV kvs k) := by
  rw [keyV_eq h]
  exact DGet.k e
theorem pc_inD (hu : X.A.units + 1 < cLine) (hi : PE X i ty) (ho : PE X o td) : PC X .In i o (tInD false ty td) :=
  pc_imp (pc_din hu (pe_mn hi) (pe_mn ho)) fun σ H Q h => ⟨_, h, fun y H1 q => ⟨_, q, fun x H2 ⟨a, kvs, k, e, ea, ek, q⟩ => ⟨a, _, e, getK ea ek, q⟩⟩⟩
theorem pc_notinD (hu : X.A.units + 1 < cLine) (hi : PE X i ty) (ho : PE X o td) : PC X .NotIn i o (tInD true ty td) :=
  pc_imp (pc_dnotin hu (pe_mn hi) (pe_mn ho)) fun σ H Q h => ⟨_, h, fun y H1 q => ⟨_, q, fun x H2 ⟨a, kvs, k, e, ea, ek, q⟩ => ⟨a, _, e, getK ea ek, q⟩⟩⟩
def tGetD (td ty : TE) : TE := fun σ H Q => td σ H fun x H1 => ty σ H1 fun y H2 => ∃ a kvs k v, x = .ref a ∧ H2 a = some (.dK kvs) ∧ keyV y = some k ∧ valV kvs k = some v ∧ Q v H2
theorem pe_getD (hu : X.A.units + 1 < cLine) (ho : PE X o td) (hi : PE X i ty) (hs : NoSl i) : PE X (.Subscript o i pos) (tGetD td ty) :=
  pe_imp (pe_dget hu (pe_mn ho) (pe_mn hi) hs) fun σ H Q h => ⟨_, h, fun y H1 q => ⟨_, q, fun x H2 ⟨a, kvs, k, v, e, ea, ek, ev, q⟩ => ⟨a, v, e, ev ▸ getK ea ek, q⟩⟩⟩
def sPutD (td ty tv : TE) : TS := fun D σ H => tv σ H fun v H1 => td σ H1 fun x H2 => ty σ H2 fun y H3 => ∃ a kvs k, x = .ref a ∧ H3 a = some (.dK kvs) ∧ keyV y = some k ∧ kvs.length < sizeLine ∧ D.nx σ (upd H3 a (.dK (putK kvs k v)))
theorem ps_putD (hu : X.A.units + 1 < cLine) (ho : PE X o td) (hi : PE X i ty) (hv : PE X value tv) (hs : swapsWith value (some (.Subscript o i pos')) pos.line X.env = pure false) :
    PS X (.Assign [.Subscript o i pos'] value pos) (sPutD td ty tv) :=
  ps_imp (ps_dput hu (pe_mn ho) (pe_mn hi) (pe_mn hv) hs) fun D σ H h => ⟨_, h, fun v H1 q => ⟨_, q, fun x H2 q => ⟨_, q, fun y H3 ⟨a, kvs, k, e, ea, ek, hl, q⟩ => ⟨a, _, e, by rw [keyV_eq ek]; exact DPut.k ea hl, q⟩⟩⟩⟩
def tPopD (td ty : TE) : TE := fun σ H Q => td σ H fun x H1 => ∃ a kvs, x = .ref a ∧ H1 a = some (.dK kvs) ∧ ty σ H1 fun y H2 => ∃ kvs k v, H2 a = some (.dK kvs) ∧ keyV y = some k ∧ valV kvs k = some v ∧ Q v (upd H2 a (.dK (dropK kvs k)))
theorem pe_popD (ho : PE X o td) (he : PE X e ty) (m : M1 X o "pop" apos e cpos) : PE X (.Call (.Attribute o "pop" apos) [e] [] cpos) (tPopD td ty) :=
  pe_imp (pe_dpop1 (pe_mn ho) (pe_mn he) m) fun σ H Q h => ⟨_, h, fun x H1 ⟨a, kvs, e, ea, q⟩ => ⟨a, e, (.inl ⟨kvs, .inl ea⟩), ⟨_, q, fun y H2 ⟨kvs, k, v, e2, ek, ev, q⟩ => ⟨kvs, k, v, e2, keyV_eq ek, ev, q⟩⟩⟩⟩
/-! #### lists -/
variable {tl : TE} {t : TA} {es : List Expr}
def tAppC (tl te : TE) : TE := fun σ H Q => tl σ H fun x H1 => ∃ l ys, x = .ref l ∧ H1 l = some (.lst ys) ∧ te σ H1 fun y H2 => ∃ xs, H2 l = some (.lst xs) ∧ xs.length < sizeLine ∧ Q .non (upd H2 l (.lst (xs ++ [y])))
theorem pe_app (hl : PE X o tl) (he : PE X e te) (hbase : attributeBase o "append" X.env (eval o X.env) = eval o X.env := by rfl)
    (hfew : ((backTo cpos (starEach [e] X.env)).all (fun x => !x.1) && (backToKw cpos (keywordEach [] X.env)).all (fun x => x.1.isSome) && decide (([e] : List Expr).length + ([] : List Keyword).length + (if ([] : List Keyword).isEmpty then 0 else 1) < 30)) = true := by rfl)
    (hline : (apos.endLine == cpos.line) = true := by rfl) (hs : starEach [e] X.env = (false, eval e X.env) :: starEach [] X.env := by rfl) (hplain : (backTo cpos (starEach [] X.env)).any (·.1) = false := by rfl) :
    PE X (.Call (.Attribute o "append" apos) [e] [] cpos) (tAppC tl te) :=
  pe_imp (pe_bm PySem.F.plainAttrs_list PySem.F.slot_list_append PySem.F.type_list_append mt_append (pe_mn hl) (pa_cons (pe_mn he) pa_nil hs) hbase hfew hline hs hplain)
    fun σ H Q h => ⟨_, h, fun x H1 ⟨l, ys, e1, e2, q⟩ => ⟨by rw [e1]; exact .inl ⟨rfl, _, SqL.of e2⟩, ⟨_, q, fun y H2 ⟨xs, e3, z, q⟩ => ⟨l, xs, y, e1, rfl, e3, z, q⟩⟩⟩⟩
/-! #### data, compared -/
def mapO (f : V → Option PyData) : List V → Option (List PyData)
  | [] => some []
  | v :: r => match f v, mapO f r with
    | some d, some ds => some (d :: ds)
    | _, _ => none
def dat (H : Hp) : Nat → V → Option PyData
  | _, .non => some .none
  | _, .bl b => some (.bool b)
  | _, .int i => some (.int i)
  | _, .str x => some (.str x)
  | n + 1, .ref a => match H a with
    | some (.lst xs) => (mapO (dat H n) xs).map PyData.list
    | some (.tup xs) => (mapO (dat H n) xs).map PyData.tuple
    | some (.frz _ (.lst xs)) => (mapO (dat H n) xs).map PyData.list
    | _ => none
  | _, _ => none
theorem mapO_ok {K : PySem.W.Frag} {H : Hp} {f : V → Option PyData} (hf : ∀ v d, f v = some d → Dp K H v d) : ∀ {xs : List V} {ds : List PyData}, mapO f xs = some ds → DpAll K H xs ds
  | [], ds, h => by cases h; exact .nil
  | v :: r, ds, h => by
    unfold mapO at h
    split at h
    · rename_i d ds' h1 h2
      cases h
      exact .cons (hf _ _ h1) (mapO_ok hf h2)
    · cases h
theorem dat_ok {K : PySem.W.Frag} {H : Hp} : ∀ (n : Nat) (v : V) (d : PyData), dat H n v = some d → Dp K H v d
  | _, .non, d, h => by
    unfold dat at h
    cases h
    exact .non
  | _, .bl b, d, h => by
    unfold dat at h
    cases h
    exact .bl b
  | _, .int i, d, h => by
    unfold dat at h
    cases h
    exact .int i
  | _, .str x, d, h => by
    unfold dat at h
    cases h
    exact .str x
  | 0, .ref a, d, h => by
    unfold dat at h
    cases h
  | n + 1, .ref a, d, h => by
    unfold dat at h
    split at h
    · obtain ⟨ds, e, rfl⟩ := Option.map_eq_some_iff.mp h
      exact .lst (SqL.of (by assumption)) (mapO_ok (dat_ok n) e)
    · obtain ⟨ds, e, rfl⟩ := Option.map_eq_some_iff.mp h
      exact .tup (SqT.of (by assumption)) (mapO_ok (dat_ok n) e)
    · obtain ⟨ds, e, rfl⟩ := Option.map_eq_some_iff.mp h
      exact .lst (.inl (.inr ⟨_, by assumption⟩)) (mapO_ok (dat_ok n) e)
    · cases h
  | 0, .byt b, d, h => by unfold dat at h; cases h
  | 0, .flt b, d, h => by unfold dat at h; cases h
  | 0, .ty n, d, h => by unfold dat at h; cases h
  | _ + 1, .byt b, d, h => by unfold dat at h; cases h
  | _ + 1, .flt b, d, h => by unfold dat at h; cases h
  | _ + 1, .ty n, d, h => by unfold dat at h; cases h
def rEqC (neg : Bool) : R2 := fun x y H Q => ∃ d e, dat H 8 x = some d ∧ dat H 8 y = some e ∧ SeqAt.shaped d = true ∧ SeqAt.shaped e = true ∧ Q (.bl (if neg then !PyData.eqv d e else PyData.eqv d e)) H
theorem op_eqC (hu : X.A.units + 64 < cLine) : OpR X (compareOp .Eq) (rEqC false) := op_imp (op_eqD hu) fun x y H Q ⟨d, e, h1, h2, s1, s2, q⟩ => ⟨d, e, dat_ok _ _ _ h1, dat_ok _ _ _ h2, s1, s2, q⟩
theorem op_neC (hu : X.A.units + 64 < cLine) : OpR X (compareOp .NotEq) (rEqC true) := op_imp (op_neD hu) fun x y H Q ⟨d, e, h1, h2, s1, s2, q⟩ => ⟨d, e, dat_ok _ _ _ h1, dat_ok _ _ _ h2, s1, s2, q⟩
/-! #### text * int -/
theorem op_mul_str : OpR X (binaryOp .Mult) (fun x y H Q => ∃ z n, x = .str z ∧ y = .int n ∧ MulOk z n ∧ Q (.str (Txt.mul z n)) H) := by
  rintro pins s σ H x y v u Q I rx ry ⟨z, n, rfl, rfl, hz, q⟩
  obtain ⟨t, rfl⟩ := rx
  obtain ⟨t', rfl⟩ := ry
  exact SB.mul hz fun t1 k => ⟨.str (Txt.mul z n), H, I.tok _, ⟨_, rfl⟩, q⟩
/-! #### is, is not of truth values -/
end
/-! #### min of three, of four -/
section
variable {prog : Program} {w : World} {A : Around} {E : Value → Shared → Prop} {s : Shared}
theorem call_min_of {us : List Value} (hsz : sizeOk (.seq us.toArray)) (ha : argsOk "min" ⟨us, []⟩) (hp : ∀ s : Shared, (Builtin.Builtins.bindParams "min" ["key", "default"] 0 ⟨[], []⟩) = pure [none, none]) {a b : Value} {r : List Value} (hus : us = a :: b :: r) {Q : Value → Shared → Prop}
    (h : wpAny (model prog w) A.in1 (pyIter (.ref s.heap.objs.size)) (fun it s₂ => ∃ I fp wr n P St bt, it = .ref I ∧ Walks prog w A.in1 I fp wr n P St ∧ St 0 s₂.heap ∧ (∀ b ∈ fp, b < s₂.heap.objs.size) ∧ 0 < n ∧ CmpOf prog w A.in1 .Lt P bt ∧
      ∀ v h' tk, P (argBest bt (n - 1)) v → (∀ b o, b ∉ wr → s₂.heap.get? b = some o → h'.get? b = some o) → Q v { s₂ with heap := h', toks := tk }) E
      { s with heap := s.heap.push { cls := .type "tuple", data := .seq us.toArray } }) :
    wpAny (model prog w) A (call (.builtin "min") us) Q E s := by
  subst hus
  have hname : (toString "min" ++ toString ".loop" : String) = "min.loop" := by decide
  refine call_function_tree F.kind_min F.plain_min F.entry_min ha ?_
  show wpAny _ A.in1 (Builtin.Builtins.bindParams "min" ["key", "default"] 0 ⟨[], []⟩ >>= _) _ _ s
  refine wpAny_bind (wpAny_of_eq (hp s) ?_)
  show wpAny _ A.in1 (newTuple (a :: b :: r) >>= _) _ _ s
  refine wpAny_bind (wpAny_newObj_type ?_ hsz)
  refine wpAny_bind (wpAny_mono h (fun it s₂ h₂ => ?_) fun _ _ e => e)
  obtain ⟨I, fp, wr, n, P, St, bt, rfl, W, hst, hfp, hn, hcmp, hQ⟩ := h₂
  refine wpAny_bind (wpAny_newObj_type ?_)
  have hSf : s₂.heap.objs.size ∉ fp := fun hm => Nat.lt_irrefl _ (hfp _ hm)
  rw [hname]
  refine wpAny_pure ⟨plainId_quiet F.plain_min_loop _, codeAny_min_loop_first W bt hcmp s₂.heap.objs.size hSf hn (W.frame _ _ _ hst fun b _ o e => Heap.get?_push_of_some _ e) (Heap.get?_push_size _ rfl) fun v h' tk hP hk => ?_⟩
  exact hQ v h' tk hP fun b o hbw e => hk b o hbw (Nat.ne_of_lt (Heap.lt_size e)) (Heap.get?_push_of_some _ e)
theorem min_walk {xs : Array (Int × Tok)} {us : List Value} (hxs : (intItems xs).toList = us) (hsz : sizeOk (.seq us.toArray)) (ha : argsOk "min" ⟨us, []⟩) {a b : Value} {r : List Value} (hus : us = a :: b :: r) (hh : A.handled = none) {Q : Value → Shared → Prop}
    (h : ∀ v h' tk, (intItems xs)[argBest (fun i j => decide (numAt xs i < numAt xs j)) (xs.size - 1)]? = some v → (∀ c o, s.heap.get? c = some o → h'.get? c = some o) → Q v { s with heap := h', toks := tk }) :
    wpAny (model prog w) A (call (.builtin "min") us) Q E s := by
  have hu : us.toArray = intItems xs := by rw [← hxs]
  have hT : (s.heap.push { cls := .type "tuple", data := .seq us.toArray }).IsTuple s.heap.objs.size (intItems xs) := ⟨_, Heap.get?_push_size _ rfl, rfl, 0, by rw [hu]⟩
  have hn : 0 < (intItems xs).size := by rw [← hu, hus]; simp
  refine call_min_of hsz ha (fun _ => rfl) hus (wpAny_pyIter_tuple hT ?_)
  have hs1 : (s.heap.push { cls := .type "tuple", data := .seq us.toArray }).objs.size = s.heap.objs.size + 1 := Heap.size_push ..
  refine ⟨_, [_, s.heap.objs.size], [_], _, _, _, _, rfl, Walks.tuple (A := A.in1) hh _ s.heap.objs.size (by rw [hs1]; exact Nat.ne_of_lt (Nat.lt_succ_self _)) (intItems xs),
    ⟨⟨_, Heap.get?_push_size _ rfl, rfl, rfl⟩, hT.push _⟩, fun c hc => ?_, hn, CmpOf.ints_lt (numAt xs) (fun _ _ => intItems_at), fun v h' tk hP hk => ?_⟩
  · show c < ((s.heap.push _).push _).objs.size
    rw [Heap.size_push, hs1]
    simp only [List.mem_cons, List.not_mem_nil, or_false, hs1] at hc
    rcases hc with rfl | rfl
    · exact Nat.lt_succ_self _
    · exact Nat.lt_succ_of_lt (Nat.lt_succ_self _)
  · refine h v h' tk (by simpa [intItems] using hP) fun c o e => hk c o (fun hm => ?_) (Heap.get?_push_of_some _ (Heap.get?_push_of_some _ e))
    have hlt := Heap.lt_size e
    simp only [List.mem_cons, List.not_mem_nil, or_false, hs1] at hm
    rw [hm] at hlt
    exact Nat.lt_irrefl _ (Nat.lt_of_succ_lt hlt)
def mn2 (a b : Int) : Int := if b < a then b else a
theorem args_min3 (a b c : Value) : argsOk "min" ⟨[a, b, c], []⟩ := by unfold argsOk; kernel_rfl
theorem args_min4 (a b c d : Value) : argsOk "min" ⟨[a, b, c, d], []⟩ := by unfold argsOk; kernel_rfl
theorem min_three {a b c : Int} {t u v : Tok} {Q : Value → Shared → Prop} (hh : A.handled = none)
    (h : ∀ h' tk z, (∀ c o, s.heap.get? c = some o → h'.get? c = some o) → Q (.int (mn2 (mn2 a b) c) z) { s with heap := h', toks := tk }) :
    wpAny (model prog w) A (call (.builtin "min") [.int a t, .int b u, .int c v]) Q E s := by
  refine min_walk (us := [.int a t, .int b u, .int c v]) (xs := #[(a, t), (b, u), (c, v)]) (by simp [intItems]) (by size_fits) (args_min3 _ _ _) rfl hh fun r h' tk hr hk => ?_
  have e : ∃ z, r = .int (mn2 (mn2 a b) c) z := by
    unfold mn2
    by_cases h1 : b < a <;> by_cases h2 : c < b <;> by_cases h3 : c < a <;> simp [intItems, argBest, numAt, h1, h2, h3] at hr ⊢ <;> subst hr <;> exact ⟨_, rfl⟩
  obtain ⟨z, rfl⟩ := e
  exact h h' tk z hk
theorem min_four {a b c d : Int} {t u v y : Tok} {Q : Value → Shared → Prop} (hh : A.handled = none)
    (h : ∀ h' tk z, (∀ c o, s.heap.get? c = some o → h'.get? c = some o) → Q (.int (mn2 (mn2 (mn2 a b) c) d) z) { s with heap := h', toks := tk }) :
    wpAny (model prog w) A (call (.builtin "min") [.int a t, .int b u, .int c v, .int d y]) Q E s := by
  refine min_walk (us := [.int a t, .int b u, .int c v, .int d y]) (xs := #[(a, t), (b, u), (c, v), (d, y)]) (by simp [intItems]) (by size_fits) (args_min4 _ _ _ _) rfl hh fun r h' tk hr hk => ?_
  have e : ∃ z, r = .int (mn2 (mn2 (mn2 a b) c) d) z := by
    unfold mn2
    by_cases h1 : b < a <;> by_cases h2 : c < b <;> by_cases h3 : c < a <;> by_cases h4 : d < a <;> by_cases h5 : d < b <;> by_cases h6 : d < c <;> simp [intItems, argBest, numAt, h1, h2, h3, h4, h5, h6] at hr ⊢ <;> subst hr <;> exact ⟨_, rfl⟩
  obtain ⟨z, rfl⟩ := e
  exact h h' tk z hk
end
section
variable {X : Cx}
theorem call_min3 (hc : X.calm = true) : CallR X (.builtin "min") (fun xs H Q => ∃ i j k, xs = [.int i, .int j, .int k] ∧ Q (.int (mn2 (mn2 i j) k)) H) := by
  rintro pins s σ H xs us Q I r ⟨i, j, k, rfl, q⟩
  cases r with
  | cons r1 r => cases r with
    | cons r2 r => cases r with
      | cons r3 r =>
        cases r
        obtain ⟨t1, rfl⟩ := r1
        obtain ⟨t2, rfl⟩ := r2
        obtain ⟨t3, rfl⟩ := r3
        exact min_three (I.ok.hd hc) fun h' tk z kp => ⟨.int _, H, I.kept kp, ⟨_, rfl⟩, q⟩
theorem call_min4 (hc : X.calm = true) : CallR X (.builtin "min") (fun xs H Q => ∃ i j k l, xs = [.int i, .int j, .int k, .int l] ∧ Q (.int (mn2 (mn2 (mn2 i j) k) l)) H) := by
  rintro pins s σ H xs us Q I r ⟨i, j, k, l, rfl, q⟩
  cases r with
  | cons r1 r => cases r with
    | cons r2 r => cases r with
      | cons r3 r => cases r with
        | cons r4 r =>
          cases r
          obtain ⟨t1, rfl⟩ := r1
          obtain ⟨t2, rfl⟩ := r2
          obtain ⟨t3, rfl⟩ := r3
          obtain ⟨t4, rfl⟩ := r4
          exact min_four (I.ok.hd hc) fun h' tk z kp => ⟨.int _, H, I.kept kp, ⟨_, rfl⟩, q⟩
end
end RP

/-! ### readings, reckoned by simp: one theorem of equations -/
namespace RP
open PySem PySem.Spec PyProof.Rows L2
theorem RDa :
    (∀ (i : Nat) (σ : L2.St) (H : Hp) (Q : VK), tVar i σ H Q = ∃ v, σ[i]? = some (some v) ∧ Q v H) ∧
    (∀ (v : V) (σ : L2.St) (H : Hp) (Q : VK), tC v σ H Q = Q v H) ∧
    (∀ (r : R2) (ta tb : TE) (σ : L2.St) (H : Hp) (Q : VK), tOp r ta tb σ H Q = ta σ H fun x H1 => tb σ H1 fun y H2 => r x y H2 Q) ∧
    (∀ (r : V → Hp → VK → Prop) (ta : TE) (σ : L2.St) (H : Hp) (Q : VK), tUn r ta σ H Q = ta σ H fun x H1 => r x H1 Q) ∧
    (∀ (C : Int → Int → Prop) (g : Int → Int → V) (x y : V) (H : Hp) (Q : VK), rI C g x y H Q = ∃ i j, x = .int i ∧ y = .int j ∧ C i j ∧ Q (g i j) H) ∧
    (∀ (g : Int → Int → V) (x y : V) (H : Hp) (Q : VK), rI0 g x y H Q = ∃ i j, x = .int i ∧ y = .int j ∧ Q (g i j) H) ∧
    (∀ (g : Int → V) (x : V) (H : Hp) (Q : VK), rU g x H Q = ∃ i, x = .int i ∧ Q (g i) H) ∧
    (∀ (t : TE) (σ : L2.St) (H : Hp) (Q : Bool → Hp → Prop), tB t σ H Q = t σ H fun x H1 => ∃ c, x = .bl c ∧ Q c H1) ∧
    (∀ (t : TE) (σ : L2.St) (H : Hp) (Q : Bool → Hp → Prop), tTest t σ H Q = t σ H fun x H1 => ∃ c, x = .bl c ∧ Q c H1) ∧
    (∀ (t u : TT) (σ : L2.St) (H : Hp) (Q : Bool → Hp → Prop), tAnd t u σ H Q = t σ H fun c H1 => if c = true then u σ H1 Q else Q false H1) ∧
    (∀ (t u : TT) (σ : L2.St) (H : Hp) (Q : Bool → Hp → Prop), tOr t u σ H Q = t σ H fun c H1 => if c = true then Q true H1 else u σ H1 Q) ∧
    (∀ (t : TT) (σ : L2.St) (H : Hp) (Q : Bool → Hp → Prop), tNot t σ H Q = t σ H fun c H1 => Q (!c) H1) ∧
    (∀ (ta tb : TE) (σ : L2.St) (H : Hp) (Q : VK), tAndV ta tb σ H Q = ta σ H fun x H1 => ∃ c, x = .bl c ∧ if c = true then tb σ H1 Q else Q (.bl false) H1) ∧
    (∀ (ta tb : TE) (σ : L2.St) (H : Hp) (Q : VK), tOrV ta tb σ H Q = ta σ H fun x H1 => ∃ c, x = .bl c ∧ if c = true then Q (.bl true) H1 else tb σ H1 Q) ∧
    (∀ (ta : TE) (σ : L2.St) (H : Hp) (Q : VK), tNotV ta σ H Q = ta σ H fun x H1 => ∃ c, x = .bl c ∧ Q (.bl (!c)) H1) ∧
    (∀ (t : TT) (ta tb : TE) (σ : L2.St) (H : Hp) (Q : VK), tIf t ta tb σ H Q = t σ H fun c H1 => if c = true then ta σ H1 Q else tb σ H1 Q) ∧
    (∀ (r r' : R2) (ta tb tc : TE) (σ : L2.St) (H : Hp) (Q : VK), tChain r r' ta tb tc σ H Q = ta σ H fun x H1 => tb σ H1 fun y H2 => r x y H2 fun z H3 => ∃ k, z = .bl k ∧ (if k = true then tc σ H3 fun w' H4 => r' y w' H4 Q else Q (.bl false) H3)) ∧
    (∀ (D : Ends) (σ : L2.St) (H : Hp), tNext D σ H = D.nx σ H) ∧
    (∀ (t u : TS) (D : Ends) (σ : L2.St) (H : Hp), tSeq t u D σ H = t { D with nx := u D } σ H) ∧
    (∀ (te : TE) (D : Ends) (σ : L2.St) (H : Hp), tDrop te D σ H = te σ H fun _ H1 => D.nx σ H1) ∧
    (∀ (te : TE) (D : Ends) (σ : L2.St) (H : Hp), tRet te D σ H = te σ H D.rt) ∧
    (∀ (D : Ends) (σ : L2.St) (H : Hp), tRetN D σ H = D.rt .non H) ∧
    (∀ (c : TT) (t u : TS) (D : Ends) (σ : L2.St) (H : Hp), tIfS c t u D σ H = c σ H fun b H1 => if b = true then t D σ H1 else u D σ H1) ∧
    (∀ (te : TE) (g : TG) (D : Ends) (σ : L2.St) (H : Hp), tAsg te g D σ H = te σ H fun x H1 => g x σ H1 D.nx) ∧
    (∀ (i : Nat) (v : V) (σ : L2.St) (H : Hp) (Q : L2.St → Hp → Prop), gName i v σ H Q = Q (σ.set i (some v)) H) ∧
    (∀ (vs : List V) (σ : L2.St) (H : Hp) (Q : L2.St → Hp → Prop), gNil vs σ H Q = (vs = [] ∧ Q σ H)) ∧
    (∀ (t : TG) (u : TGs) (vs : List V) (σ : L2.St) (H : Hp) (Q : L2.St → Hp → Prop), gCons t u vs σ H Q = ∃ v r, vs = v :: r ∧ t v σ H fun σ' H' => u r σ' H' Q) ∧
    (∀ (to ti : TE) (t : TSet) (v : V) (σ : L2.St) (H : Hp) (Q : L2.St → Hp → Prop), gSub to ti t v σ H Q = to σ H fun o H1 => ti σ H1 fun i H2 => t o i v H2 fun H3 => Q σ H3) :=
  ⟨fun _ _ _ _ => rfl, fun _ _ _ _ => rfl, fun _ _ _ _ _ _ => rfl, fun _ _ _ _ _ => rfl, fun _ _ _ _ _ _ => rfl, fun _ _ _ _ _ => rfl, fun _ _ _ _ => rfl, fun _ _ _ _ => rfl, fun _ _ _ _ => rfl, fun _ _ _ _ _ => rfl, fun _ _ _ _ _ => rfl, fun _ _ _ _ => rfl, fun _ _ _ _ _ => rfl,
   fun _ _ _ _ _ => rfl, fun _ _ _ _ => rfl, fun _ _ _ _ _ _ => rfl, fun _ _ _ _ _ _ _ _ => rfl, fun _ _ _ => rfl, fun _ _ _ _ _ => rfl, fun _ _ _ _ => rfl, fun _ _ _ _ => rfl, fun _ _ _ => rfl, fun _ _ _ _ _ _ => rfl, fun _ _ _ _ _ => rfl, fun _ _ _ _ _ => rfl, fun _ _ _ _ => rfl, fun _ _ _ _ _ _ => rfl, fun _ _ _ _ _ _ _ => rfl⟩
theorem RDb :
    (∀ (K : PySem.W.Frag) (ta : TE) (f : Str) (σ : L2.St) (H : Hp) (Q : VK), tFld K ta f σ H Q = ta σ H fun x H1 => ∃ a C dx fs v, x = .ref a ∧ H1 a = some (.ins C dx fs) ∧ Cls K C ∧ NoAttr K C f ∧ fs.lookup f = some v ∧ Q v H1) ∧
    (∀ (K : PySem.W.Frag) (ta tv : TE) (f : Str) (D : Ends) (σ : L2.St) (H : Hp), sFld K ta tv f D σ H = tv σ H fun y H1 => ta σ H1 fun x H2 => ∃ a C dx fs, x = .ref a ∧ H2 a = some (.ins C dx fs) ∧ Cls K C ∧ NoAttr K C f ∧ fs.length < 1000 ∧ D.nx σ (upd H2 a (.ins C dx (putF f y fs)))) ∧
    (∀ (σ : L2.St) (H : Hp) (Q : List V → Hp → Prop), tNil σ H Q = Q [] H) ∧
    (∀ (ta : TE) (tr : TA) (σ : L2.St) (H : Hp) (Q : List V → Hp → Prop), tCons ta tr σ H Q = ta σ H fun x H1 => tr σ H1 fun xs H2 => Q (x :: xs) H2) ∧
    (∀ (t : TA) (σ : L2.St) (H : Hp) (Q : VK), tTup t σ H Q = t σ H fun xs H1 => xs.length ≤ sizeLine ∧ ∀ p, H1 p = none → Q (.ref p) (upd H1 p (.tup xs))) ∧
    (∀ (t : TA) (σ : L2.St) (H : Hp) (Q : VK), tLst t σ H Q = t σ H fun xs H1 => xs.length ≤ sizeLine ∧ ∀ p, H1 p = none → Q (.ref p) (upd H1 p (.lst xs))) ∧
    (∀ (r : List V → Hp → VK → Prop) (t : TA) (σ : L2.St) (H : Hp) (Q : VK), tCB r t σ H Q = t σ H fun vs H1 => r vs H1 Q) ∧
    (∀ (sp : Sp) (E : L2.St → XK) (t : TA) (σ : L2.St) (H : Hp) (Q : VK), tCallS sp E t σ H Q = t σ H fun vs H1 => sp vs H1 Q (E σ)) ∧
    (∀ (C : Addr) (m : Str) (sp : Sp) (E : L2.St → XK) (ta : TE) (t : TA) (σ : L2.St) (H : Hp) (Q : VK), tMethS C m sp E ta t σ H Q = ta σ H fun x H1 => ∃ a dx fs, x = .ref a ∧ H1 a = some (.ins C dx fs) ∧ fs.lookup m = none ∧ t σ H1 fun vs H2 => sp (x :: vs) H2 Q (E σ)) ∧
    (∀ (C : Addr) (sp : Sp) (E : L2.St → XK) (t : TA) (σ : L2.St) (H : Hp) (Q : VK), tMakeS C sp E t σ H Q = t σ H fun vs H1 => ∀ x dx, H1 x = none → H1 dx = none → dx ≠ x → sp (.ref x :: vs) (upd (upd H1 dx (.own x)) x (.ins C dx [])) (fun v H2 => v = .non ∧ Q (.ref x) H2) (E σ)) ∧
    (∀ (x y : V) (H : Hp) (Q : VK), rEq x y H Q = (scal x y = true ∧ Q (.bl (decide (x = y))) H)) ∧
    (∀ (x y : V) (H : Hp) (Q : VK), rNe x y H Q = (scal x y = true ∧ Q (.bl (!decide (x = y))) H)) ∧
    (∀ (i j : Int), scal (.int i) (.int j) = true) ∧ (∀ (i j : Str), scal (.str i) (.str j) = true) ∧ (∀ (i j : Bool), scal (.bl i) (.bl j) = true) ∧
    (∀ (vs : List V) (H : Hp) (Q : VK), rIsC vs H Q = ∃ x c t b, vs = [x, .ty c] ∧ tyN H x = some t ∧ kitB t c = some b ∧ Q (.bl b) H) ∧
    (∀ (vs : List V) (H : Hp) (Q : VK), rLenC vs H Q = ∃ a n, vs = [.ref a] ∧ lenO H a = some n ∧ Q (.int (n : Int)) H) ∧
    (∀ (x y : V) (H : Hp) (Q : VK), rIxC x y H Q = ∃ p xs i v, x = .ref p ∧ y = .int i ∧ seqO H p = some xs ∧ atI xs i = some v ∧ Q v H) ∧
    (∀ (neg : Bool) (x y : V) (H : Hp) (Q : VK), rInC neg x y H Q = ∃ p xs, y = .ref p ∧ seqO H p = some xs ∧ flatV x = true ∧ xs.all flatV = true ∧ Q (.bl (if neg then !inV x xs else inV x xs)) H) ∧
    (∀ (neg : Bool) (x y : V) (H : Hp) (Q : VK), rEqC neg x y H Q = ∃ d e, dat H 8 x = some d ∧ dat H 8 y = some e ∧ SeqAt.shaped d = true ∧ SeqAt.shaped e = true ∧ Q (.bl (if neg then !PyData.eqv d e else PyData.eqv d e)) H) ∧
    (∀ (neg : Bool) (ty td : TE) (σ : L2.St) (H : Hp) (Q : VK), tInD neg ty td σ H Q = ty σ H fun y H1 => td σ H1 fun x H2 => ∃ a kvs k, x = .ref a ∧ H2 a = some (.dK kvs) ∧ keyV y = some k ∧ Q (.bl (if neg then !(valV kvs k).isSome else (valV kvs k).isSome)) H2) ∧
    (∀ (td ty : TE) (σ : L2.St) (H : Hp) (Q : VK), tGetD td ty σ H Q = td σ H fun x H1 => ty σ H1 fun y H2 => ∃ a kvs k v, x = .ref a ∧ H2 a = some (.dK kvs) ∧ keyV y = some k ∧ valV kvs k = some v ∧ Q v H2) ∧
    (∀ (td ty tv : TE) (D : Ends) (σ : L2.St) (H : Hp), sPutD td ty tv D σ H = tv σ H fun v H1 => td σ H1 fun x H2 => ty σ H2 fun y H3 => ∃ a kvs k, x = .ref a ∧ H3 a = some (.dK kvs) ∧ keyV y = some k ∧ kvs.length < sizeLine ∧ D.nx σ (upd H3 a (.dK (putK kvs k v)))) ∧
    (∀ (td ty : TE) (σ : L2.St) (H : Hp) (Q : VK), tPopD td ty σ H Q = td σ H fun x H1 => ∃ a kvs, x = .ref a ∧ H1 a = some (.dK kvs) ∧ ty σ H1 fun y H2 => ∃ kvs k v, H2 a = some (.dK kvs) ∧ keyV y = some k ∧ valV kvs k = some v ∧ Q v (upd H2 a (.dK (dropK kvs k)))) ∧
    (∀ (tl te : TE) (σ : L2.St) (H : Hp) (Q : VK), tAppC tl te σ H Q = tl σ H fun x H1 => ∃ l ys, x = .ref l ∧ H1 l = some (.lst ys) ∧ te σ H1 fun y H2 => ∃ xs, H2 l = some (.lst xs) ∧ xs.length < sizeLine ∧ Q .non (upd H2 l (.lst (xs ++ [y])))) ∧
    (∀ (σ : L2.St) (H : Hp) (Q : Option Int → Hp → Prop), tNoPart σ H Q = Q none H) ∧
    (∀ (t : TE) (σ : L2.St) (H : Hp) (Q : Option Int → Hp → Prop), tPart t σ H Q = t σ H fun x H1 => ∃ i, x = .int i ∧ Q (some i) H1) ∧
    (∀ (r : V → Option Int → Option Int → Hp → VK → Prop) (te : TE) (tl th : TO) (σ : L2.St) (H : Hp) (Q : VK), tSl r te tl th σ H Q = te σ H fun x H1 => tl σ H1 fun l H2 => th σ H2 fun u H3 => r x l u H3 Q) :=
  ⟨fun _ _ _ _ _ _ => rfl, fun _ _ _ _ _ _ _ => rfl, fun _ _ _ => rfl, fun _ _ _ _ _ => rfl, fun _ _ _ _ => rfl, fun _ _ _ _ => rfl, fun _ _ _ _ _ => rfl, fun _ _ _ _ _ _ => rfl, fun _ _ _ _ _ _ _ _ _ => rfl, fun _ _ _ _ _ _ _ => rfl, fun _ _ _ _ => rfl, fun _ _ _ _ => rfl,
   fun _ _ => rfl, fun _ _ => rfl, fun _ _ => rfl, fun _ _ _ => rfl, fun _ _ _ => rfl, fun _ _ _ _ => rfl, fun _ _ _ _ _ => rfl, fun _ _ _ _ _ => rfl, fun _ _ _ _ _ _ => rfl, fun _ _ _ _ _ => rfl, fun _ _ _ _ _ _ => rfl, fun _ _ _ _ _ => rfl, fun _ _ _ _ _ => rfl, fun _ _ _ => rfl, fun _ _ _ _ => rfl, fun _ _ _ _ _ _ _ => rfl⟩
theorem RDk :
    kitB "int" "int" = some true ∧ kitB "bool" "int" = some true ∧ kitB "str" "int" = some false ∧ kitB "NoneType" "int" = some false ∧ kitB "list" "int" = some false ∧ kitB "tuple" "int" = some false ∧ kitB "dict" "int" = some false ∧
    kitB "int" "bool" = some false ∧ kitB "bool" "bool" = some true ∧ kitB "str" "bool" = some false ∧ kitB "NoneType" "bool" = some false ∧ kitB "list" "bool" = some false ∧ kitB "tuple" "bool" = some false ∧ kitB "dict" "bool" = some false ∧
    kitB "int" "str" = some false ∧ kitB "bool" "str" = some false ∧ kitB "str" "str" = some true ∧ kitB "NoneType" "str" = some false ∧ kitB "list" "str" = some false ∧ kitB "tuple" "str" = some false ∧ kitB "dict" "str" = some false ∧
    kitB "int" "tuple" = some false ∧ kitB "bool" "tuple" = some false ∧ kitB "str" "tuple" = some false ∧ kitB "NoneType" "tuple" = some false ∧ kitB "list" "tuple" = some false ∧ kitB "tuple" "tuple" = some true ∧ kitB "dict" "tuple" = some false ∧
    kitB "int" "list" = some false ∧ kitB "bool" "list" = some false ∧ kitB "str" "list" = some false ∧ kitB "NoneType" "list" = some false ∧ kitB "list" "list" = some true ∧ kitB "tuple" "list" = some false ∧ kitB "dict" "list" = some false := by
  decide +kernel
theorem RDv :
    (∀ (i j : Int), (V.int i = V.int j) = (i = j)) ∧ (∀ (i j : Str), (V.str i = V.str j) = (i = j)) ∧ (∀ (i j : Bool), (V.bl i = V.bl j) = (i = j)) ∧ (∀ (i j : Addr), (V.ref i = V.ref j) = (i = j)) ∧ (∀ (i j : String), (V.ty i = V.ty j) = (i = j)) ∧
    (∀ (α : Type) (i j : α), (some i = some j) = (i = j)) ∧
    (∀ H, tyN H .non = some "NoneType") ∧ (∀ H b, tyN H (.bl b) = some "bool") ∧ (∀ H b, tyN H (.int b) = some "int") ∧ (∀ H b, tyN H (.str b) = some "str") ∧
    (∀ n, keyV (.int n) = some (.inl n)) ∧ (∀ n, keyV (.str n) = some (.inr n)) ∧
    (∀ (C dx : Addr) (fs : List (Str × V)) (C' dx' : Addr) (fs' : List (Str × V)), (HO.ins C dx fs = HO.ins C' dx' fs') = (C = C' ∧ dx = dx' ∧ fs = fs')) ∧
    (∀ xs ys, (HO.lst xs = HO.lst ys) = (xs = ys)) ∧ (∀ xs ys, (HO.tup xs = HO.tup ys) = (xs = ys)) ∧ (∀ xs ys, (HO.dK xs = HO.dK ys) = (xs = ys)) := by
  refine ⟨?_, ?_, ?_, ?_, ?_, ?_, fun _ => rfl, fun _ _ => rfl, fun _ _ => rfl, fun _ _ => rfl, fun _ => rfl, fun _ => rfl, ?_, ?_, ?_, ?_⟩ <;> intros <;> simp
theorem datE (H : Hp) :
    (∀ n, dat H n .non = some .none) ∧ (∀ n b, dat H n (.bl b) = some (.bool b)) ∧ (∀ n b, dat H n (.int b) = some (.int b)) ∧ (∀ n b, dat H n (.str b) = some (.str b)) ∧
    (∀ n a xs, H a = some (.lst xs) → dat H (n + 1) (.ref a) = (mapO (dat H n) xs).map PyData.list) ∧ (∀ n a xs, H a = some (.tup xs) → dat H (n + 1) (.ref a) = (mapO (dat H n) xs).map PyData.tuple) := by
  refine ⟨fun n => ?_, fun n b => ?_, fun n b => ?_, fun n b => ?_, fun n a xs h => ?_, fun n a xs h => ?_⟩
  · cases n <;> rfl
  · cases n <;> rfl
  · cases n <;> rfl
  · cases n <;> rfl
  · conv => lhs; unfold dat
    rw [h]
  · conv => lhs; unfold dat
    rw [h]
theorem RDx :
    (∀ (CX : CXT) (P : Program) (w : World) (K : PySem.W.Frag) (mg : Str → Option Value) (base : Heap) (N : List Str) (q : Str) (sc : Scope) (f : Addr) (cd : Value) (A : Around) (o : List Env) (s : Shared) (H : Hp) (E : XK), (cxOf CX P w K mg base N q sc f cd A o s H E).K = K) ∧
    (∀ (CX : CXT) (P : Program) (w : World) (K : PySem.W.Frag) (mg : Str → Option Value) (base : Heap) (N : List Str) (q : Str) (sc : Scope) (f : Addr) (cd : Value) (A : Around) (o : List Env) (s : Shared) (H : Hp) (E : XK) (p : Addr × Obj), (L2H.cxH CX P w K mg base N q sc f cd A o s H E p).K = K) ∧
    (∀ (X : Cx) (pn : List (Addr × Obj)) (xe : Value → Shared → Prop), (X.tr pn xe).K = X.K) ∧
    (∀ (X : Cx) (a : Addr) (pn : List (Addr × Obj)), (X.suite a pn).K = X.K) ∧
    (∀ (X : Cx) (s : Shared) (H : Hp) (sc : Scope) (ce : Env) (fp : List Addr), (X.blk s H sc ce fp).K = X.K) ∧
    (∀ (X : Cx), X.nox.K = X.K) := ⟨fun _ _ _ _ _ _ _ _ _ _ _ _ _ _ _ _ => rfl, fun _ _ _ _ _ _ _ _ _ _ _ _ _ _ _ _ _ => rfl, fun _ _ _ => rfl, fun _ _ _ => rfl, fun _ _ _ _ _ _ => rfl, fun _ => rfl⟩
theorem RDe :
    (∀ (K : PySem.W.Frag) (c : Value) (i : Nat) (ts : Addr → Value → Option Addr → TS) (Wout : WX) (D : Ends) (cls : Value) (d : Option Addr) (σ : L2.St) (H : Hp), wAs K c i ts Wout D cls d σ H =
      ∃ b, PySem.W.exmOne K cls c = some b ∧ (b = true → ∀ a, H a = none → ts a cls d { nx := fun σ' H' => D.nx (σ'.set i none) H', rt := D.rt, bk := fun σ' H' => D.bk (σ'.set i none) H', ct := fun σ' H' => D.ct (σ'.set i none) H' } (σ.set i (some (.ref a))) H) ∧ (b = false → Wout cls d σ H)) ∧
    (∀ (K : PySem.W.Frag) (Wout : WX) (D : Ends), L2.wMany K Wout D [] = Wout) ∧
    (∀ (K : PySem.W.Frag) (Wout : WX) (D : Ends) (c : Value) (ts : Addr → Value → Option Addr → TS) (r : List (Value × (Addr → Value → Option Addr → TS))) (cls : Value) (d : Option Addr) (σ : L2.St) (H : Hp), L2.wMany K Wout D ((c, ts) :: r) cls d σ H =
      ∃ b, PySem.W.exmOne K cls c = some b ∧ (b = true → ∀ a, H a = none → ts a cls d D σ H) ∧ (b = false → L2.wMany K Wout D r cls d σ H)) ∧
    (∀ (K : PySem.W.Frag) (a : Addr) (cls : Value) (xs : List V) (H : Hp) (Q : VK), rIsEC K a cls xs H Q = ∃ (c : V) (cv : Value) (b : Bool), xs = [.ref a, c] ∧ clsOf c = some cv ∧ PySem.W.kitOne K cls cv = some b ∧ Q (.bl b) H) ∧
    (∀ a, clsOf (.ref a) = some (.ref a)) ∧ (∀ n, clsOf (.ty n) = some (.type n)) :=
  ⟨fun _ _ _ _ _ _ _ _ _ _ => rfl, fun _ _ _ => rfl, fun _ _ _ _ _ _ _ _ _ _ => rfl, fun _ _ _ _ _ _ => rfl, fun _ => rfl, fun _ => rfl⟩
/-! #### texts -/
theorem mul_one (z : Str) : Txt.mul z 1 = z := by unfold Txt.mul; rw [if_neg (by decide), if_pos (by simp)]
theorem mul_zero (z : Str) : Txt.mul z 0 = Str.empty := by unfold Txt.mul; rw [if_pos (by decide)]
theorem mulOk_one (z : Str) : MulOk z 1 := ⟨by decide, fun _ h => by simp at h, fun _ h => by simp at h⟩
theorem mulOk_zero (z : Str) : MulOk z 0 := ⟨by decide, fun h => absurd (by decide) h, fun h => absurd (by decide) h⟩
theorem str_ext {x y : Str} (h : x.cps.toList = y.cps.toList) : x = y := by
  obtain ⟨a⟩ := x
  obtain ⟨b⟩ := y
  congr
  exact Array.toList_inj.mp h
theorem app_empty (z : Str) : z ++ Str.empty = z := by
  refine str_ext ?_
  show (z.cps ++ #[]).toList = _
  simp
/-! #### loops, by what their walked thing gives -/
section
variable {K : PySem.W.Frag} {tl : TE} {g : TG} {tb : TS} {D : Ends} {σ : L2.St} {H : Hp}
theorem for_lcut (G : Addr → Hp → Prop) (xs : List V) (h1 : ∀ Z : VK, (∀ a H1, G a H1 → Z (.ref a) H1) → tl σ H Z) (Pv : Addr → Nat → L2.St → Hp → Prop) (h0 : ∀ a H1, G a H1 → SqL K H1 a xs ∧ Pv a 0 σ H1) (hl : ∀ a i σ H, i ≤ xs.length → Pv a i σ H → SqL K H a xs)
    (hs : ∀ a i x σ H, xs[i]? = some x → Pv a i σ H → g x σ H fun σ2 H2 => tb { D with nx := Pv a (i + 1), ct := Pv a (i + 1), bk := D.nx } σ2 H2) (hd : ∀ a σ H, Pv a xs.length σ H → D.nx σ H) : tFor (iList K tl) g tb D σ H :=
  h1 _ fun a H1 q => ⟨a, rfl, ⟨xs, (h0 a H1 q).1⟩, for_list (Pv a) (h0 a H1 q).2 (hl a) (hs a) (hd a)⟩
end
theorem same_new {H : Hp} {p : Addr} {o : HO} (h : H p = none) : Same H (upd H p o) := fun b u e => by rw [upd_ne (ne_of_none e h)]; exact e
theorem same_sql {K : PySem.W.Frag} {H H' : Hp} {a : Addr} {xs : List V} (e : Same H H') (h : SqL K H a xs) : SqL K H' a xs := e.seq h
theorem bl3 {i : Nat} {x : V} (h : ([V.bl false, V.bl false, V.bl false] : List V)[i]? = some x) : x = .bl false := by
  match i, h with
  | 0, h => exact (Option.some.inj h).symm
  | 1, h => exact (Option.some.inj h).symm
  | 2, h => exact (Option.some.inj h).symm
  | n + 3, h => cases h
/-! #### data as it is compared -/
theorem seqO_tup {H : Hp} {a : Addr} {xs : List V} (h : H a = some (.tup xs)) : seqO H a = some xs := by unfold seqO; rw [h]
theorem seqO_lst {H : Hp} {a : Addr} {xs : List V} (h : H a = some (.lst xs)) : seqO H a = some xs := by unfold seqO; rw [h]
theorem tyN_tup {H : Hp} {a : Addr} {xs : List V} (h : H a = some (.tup xs)) : tyN H (.ref a) = some "tuple" := by unfold tyN; dsimp only; rw [h]
theorem tyN_lst {H : Hp} {a : Addr} {xs : List V} (h : H a = some (.lst xs)) : tyN H (.ref a) = some "list" := by unfold tyN; dsimp only; rw [h]
theorem tyN_dK {H : Hp} {a : Addr} {xs : List (Key × V)} (h : H a = some (.dK xs)) : tyN H (.ref a) = some "dict" := by unfold tyN; dsimp only; rw [h]
theorem lenO_tup {H : Hp} {a : Addr} {xs : List V} (h : H a = some (.tup xs)) : lenO H a = some xs.length := by unfold lenO seqO; rw [h]; rfl
theorem lenO_lst {H : Hp} {a : Addr} {xs : List V} (h : H a = some (.lst xs)) : lenO H a = some xs.length := by unfold lenO seqO; rw [h]; rfl
theorem lenO_dK {H : Hp} {a : Addr} {xs : List (Key × V)} (h : H a = some (.dK xs)) : lenO H a = some xs.length := by unfold lenO; rw [h]
theorem dat_tup {H : Hp} {a : Addr} {xs : List V} (h : H a = some (.tup xs)) (n : Nat) : dat H (n + 1) (.ref a) = (mapO (dat H n) xs).map PyData.tuple := (datE H).2.2.2.2.2 n a xs h
theorem dat_lst {H : Hp} {a : Addr} {xs : List V} (h : H a = some (.lst xs)) (n : Nat) : dat H (n + 1) (.ref a) = (mapO (dat H n) xs).map PyData.list := (datE H).2.2.2.2.1 n a xs h
theorem RDd :
    (∀ f, mapO f [] = some []) ∧ (∀ f v r, mapO f (v :: r) = match f v, mapO f r with | some d, some ds => some (d :: ds) | _, _ => none) ∧
    (∀ H n, dat H n .non = some .none) ∧ (∀ H n b, dat H n (.bl b) = some (.bool b)) ∧ (∀ H n b, dat H n (.int b) = some (.int b)) ∧ (∀ H n b, dat H n (.str b) = some (.str b)) ∧
    (∀ (α : Type) (x : α) xs, atI (x :: xs) 0 = some x) ∧ (∀ (α : Type) (x y : α) xs, atI (x :: y :: xs) 1 = some y) ∧ (∀ (α : Type) (x y z : α) xs, atI (x :: y :: z :: xs) 2 = some z) ∧ (∀ (α : Type) (x y z u : α) xs, atI (x :: y :: z :: u :: xs) 3 = some u) ∧
    (∀ H, Option.map PyData.list (some H) = some (PyData.list H)) ∧ (∀ H, Option.map PyData.tuple (some H) = some (PyData.tuple H)) := by
  have at_ : ∀ (α : Type) (xs : List α) (k : Nat) (x : α), xs[k]? = some x → atI xs (k : Int) = some x := fun α xs k x h => by
    unfold atI ixN
    obtain ⟨hk, _⟩ := List.getElem?_eq_some_iff.mp h
    rw [if_pos (by omega), if_pos (by omega), Option.bind_some, Int.toNat_natCast, h]
  refine ⟨fun _ => rfl, fun _ _ _ => rfl, fun H => (datE H).1, fun H => (datE H).2.1, fun H => (datE H).2.2.1, fun H => (datE H).2.2.2.1, fun α x xs => at_ α _ 0 x rfl, fun α x y xs => at_ α _ 1 y rfl, fun α x y z xs => at_ α _ 2 z rfl, fun α x y z u xs => at_ α _ 3 u rfl, fun _ => rfl, fun _ => rfl⟩
/-- data of at most n levels that can be compared -/
def Shp (n : Nat) (d : PyData) : Prop := d.canLay0 = true ∧ d.depth ≤ n
theorem Shp.ok {d : PyData} (h : Shp 64 d) : SeqAt.shaped d = true := by
  unfold SeqAt.shaped
  rw [h.1, Bool.true_and]
  exact decide_eq_true h.2
theorem Shp.mono {n m : Nat} {d : PyData} (h : Shp n d) (l : n ≤ m) : Shp m d := ⟨h.1, Nat.le_trans h.2 l⟩
theorem shp_all {n : Nat} : ∀ {ds : List PyData}, (∀ d ∈ ds, Shp n d) → PyData.canLayAll0 ds = true ∧ PyData.depthAll ds ≤ n
  | [], _ => ⟨by simp [PyData.canLayAll0], by simp [PyData.depthAll]⟩
  | d :: r, h => by
    have h1 := h d List.mem_cons_self
    have h2 := shp_all (ds := r) fun e he => h e (List.mem_cons_of_mem _ he)
    constructor
    · rw [PyData.canLayAll0, h1.1, h2.1]; rfl
    · rw [PyData.depthAll]; exact Nat.max_le.mpr ⟨h1.2, h2.2⟩
theorem shp_list {n : Nat} {ds : List PyData} (h : ∀ d ∈ ds, Shp n d) : Shp (n + 1) (.list ds) := by
  obtain ⟨a, b⟩ := shp_all h
  exact ⟨by rw [PyData.canLay0]; exact a, by rw [PyData.depth]; omega⟩
theorem shp_tuple {n : Nat} {ds : List PyData} (h : ∀ d ∈ ds, Shp n d) : Shp (n + 1) (.tuple ds) := by
  obtain ⟨a, b⟩ := shp_all h
  exact ⟨by rw [PyData.canLay0]; exact a, by rw [PyData.depth]; omega⟩
theorem shp_s (n : Nat) : Shp n .none ∧ (∀ b, Shp n (.bool b)) ∧ (∀ i, Shp n (.int i)) ∧ (∀ x, PyData.strOk x = true → Shp n (.str x)) :=
  ⟨⟨by simp [PyData.canLay0], by simp [PyData.depth]⟩, fun _ => ⟨by simp [PyData.canLay0], by simp [PyData.depth]⟩, fun _ => ⟨by simp [PyData.canLay0], by simp [PyData.depth]⟩, fun _ h => ⟨by simpa [PyData.canLay0] using h, by simp [PyData.depth]⟩⟩
theorem sh1 {d : PyData} (h : d.canLay0 = true) (h2 : d.depth = 0) : SeqAt.shaped (.tuple [d]) = true ∧ SeqAt.shaped (.tuple [d]) = true := ⟨Shp.ok ⟨by simp [PyData.canLay0, PyData.canLayAll0, h], by simp [PyData.depth, PyData.depthAll, h2]⟩, Shp.ok ⟨by simp [PyData.canLay0, PyData.canLayAll0, h], by simp [PyData.depth, PyData.depthAll, h2]⟩⟩
theorem eqv_self {d : PyData} (h : d.canLay0 = true) : PyData.eqv d d = true := SeqAt.eqv_refl d h
end RP

/-! ### things made for one use only: no trace in what is tracked -/
namespace RP
open PySem PySem.Spec PyProof.Rows L2
section
variable {X : Cx} {b l : Expr} {es : List Expr} {t : TA} {tb tl : TE} {pos pos1 : Pos}
/-- [e, ..][b] -/
def tPick (t : TA) (tb : TE) : TE := fun σ H Q => t σ H fun vs H1 => vs.length ≤ 1000 ∧ tb σ H1 fun y H2 => ∃ k v, y = .int k ∧ 0 ≤ k ∧ atI vs k = some v ∧ Q v H2
theorem pe_pick (he : PA X es t) (hi : PE X b tb) (hs : PlainIx b) : PE X (.Subscript (.List es pos1) b pos) (tPick t tb) := by
  constructor
  intro pins s σ H Q I h
  refine Subscript_ (wpAny_List_spliced (thn (he.run pos1 pins s σ H _ I h) ?_))
  rintro us s1 ⟨vs, H1, I1, r, z, q⟩
  have z1 : us.length ≤ 1000 := by rw [← r.length]; exact z
  refine ⟨Nat.le_trans z1 (by decide), ?_⟩
  have kp : ∀ (b : Addr) (o : Obj), s1.heap.get? b = some o → (s1.heap.push { cls := .type "list", data := .seq us.toArray }).get? b = some o := fun b o e => Heap.get?_push_of_some _ e
  have gL : (s1.heap.push { cls := .type "list", data := .seq us.toArray }).get? s1.heap.objs.size = some { cls := .type "list", data := .seq us.toArray } := Heap.get?_push_size _ rfl
  have I2 : Inv X pins σ H1 { s1 with heap := s1.heap.push { cls := .type "list", data := .seq us.toArray } } := I1.kept (t' := s1.toks) kp
  have I3 := I2.pinned (fp := [s1.heap.objs.size]) (fun b hb => by
    have e : b = s1.heap.objs.size := by simpa using hb
    rw [e]
    exact I1.fpOk (Nat.le_refl _) (I1.hok.fresh (Nat.le_refl _))) (fun b hb => by
    have e : b = s1.heap.objs.size := by simpa using hb
    rw [e]
    exact ⟨_, gL, fun v w => by cases w⟩)
  refine thn (hi.run _ _ σ H1 _ I3 q) ?_
  rintro u s2 ⟨y, H2, I4, ry, k, v, rfl, h0, ha, qv⟩
  have g2 := (I4.pin (s1.heap.objs.size, { cls := .type "list", data := .seq us.toArray }) (List.mem_append_right _ (List.mem_append_right _ (mem_pinsAt (by simp) gL)))).1
  obtain ⟨tk, rfl⟩ := ry
  obtain ⟨j, h1, h2, h3, h4, h5⟩ := atI_get ha
  obtain ⟨w, ew, rw'⟩ := r.get h2
  have hl := r.length
  have hj : k.toNat = j := by
    rw [seqIndex_of h0 h5] at h1
    exact Option.some.inj h1
  have pl : PlainL s2.heap s1.heap.objs.size us.toArray := ⟨_, _, g2, rfl, rfl, rfl⟩
  exact item_listR pl.isList h0 (by omega) (by rw [hj]; simpa using ew) ⟨v, H2, I4.unpinned, rw', qv⟩ (hs _ _)
/-- l == (e, ..), l != (e, ..) -/
def tEqT (neg : Bool) (tl : TE) (t : TA) : TE := fun σ H Q => tl σ H fun x H1 => t σ H1 fun vs H2 => vs.length ≤ 1000 ∧ ∃ d ds, dat H2 8 x = some d ∧ mapO (dat H2 7) vs = some ds ∧ SeqAt.shaped d = true ∧ SeqAt.shaped (.tuple ds) = true ∧ Q (.bl (if neg then !PyData.eqv d (.tuple ds) else PyData.eqv d (.tuple ds))) H2
theorem dat_new {H : Hp} {p : Addr} {o : HO} (hp : H p = none) : ∀ (n : Nat) (v : V) (d : PyData), dat H n v = some d → dat (upd H p o) n v = some d := by
  have key : ∀ (f f' : V → Option PyData), (∀ v d, f v = some d → f' v = some d) → ∀ (xs : List V) (ds : List PyData), mapO f xs = some ds → mapO f' xs = some ds := by
    intro f f' hf xs
    induction xs with
    | nil => intro ds h; exact h
    | cons v r ih =>
      intro ds h
      unfold mapO at h ⊢
      split at h
      · rename_i d ds' h1 h2
        cases h
        rw [hf _ _ h1, ih _ h2]
      · cases h
  intro n
  induction n with
  | zero =>
    intro v d h
    cases v <;> exact h
  | succ n ih =>
    intro v d h
    cases v with
    | ref a =>
      have e : ∀ u, H a = some u → upd H p o a = some u := fun u e => by rw [upd_ne (ne_of_none e hp)]; exact e
      unfold dat at h ⊢
      split at h
      · rename_i xs e1
        obtain ⟨ds, e2, rfl⟩ := Option.map_eq_some_iff.mp h
        rw [e _ e1]
        dsimp only
        rw [key _ _ ih _ _ e2]
        rfl
      · rename_i xs e1
        obtain ⟨ds, e2, rfl⟩ := Option.map_eq_some_iff.mp h
        rw [e _ e1]
        dsimp only
        rw [key _ _ ih _ _ e2]
        rfl
      · rename_i ob xs e1
        obtain ⟨ds, e2, rfl⟩ := Option.map_eq_some_iff.mp h
        rw [e _ e1]
        dsimp only
        rw [key _ _ ih _ _ e2]
        rfl
      · cases h
    | _ => exact h
theorem eqT_run {neg : Bool} {op : CmpOp} (hop : op = if neg then .NotEq else .Eq) (hu : X.A.units + 64 < cLine) (hl : PE X l tl) (he : PA X es t) {x1 : Nat} {pins : List (Addr × Obj)} {s : Shared} {σ : L2.St} {H : Hp} {Q : VK} (I : Inv X pins σ H s) (h : tEqT neg tl t σ H Q) :
    wpAny (model X.prog X.w) X.A (eval l X.env) (fun v s1 => wpAny (model X.prog X.w) X.A (eval (.Tuple es x1 pos1) X.env) (fun u s2 => wpAny (model X.prog X.w) X.A (compareOp op v u) (EP X pins σ Q) X.xe s2) X.xe s1) X.xe s := by
  refine thn (hl.run pins s σ H _ I h) ?_
  rintro v s1 ⟨x, H1, I1, rx, q1⟩
  refine wpAny_Tuple_spliced (thn (he.run pos1 pins s1 σ H1 _ I1 q1) ?_)
  rintro us s2 ⟨vs, H2, I2, r, z, d, ds, h1, h2, sd, se, q⟩
  have z1 : us.length ≤ sizeLine := by rw [← r.length]; exact Nat.le_trans z (by decide)
  refine ⟨z1, ?_⟩
  have hf : H2 s2.heap.objs.size = none := I2.hok.fresh (Nat.le_refl _)
  have kp : ∀ (b : Addr) (o : Obj), s2.heap.get? b = some o → (s2.heap.push { cls := .type "tuple", data := .seq us.toArray }).get? b = some o := fun b o e => Heap.get?_push_of_some _ e
  have IU : Inv X pins σ H2 { s2 with heap := s2.heap.push { cls := .type "tuple", data := .seq us.toArray } } := I2.kept (t' := s2.toks) kp
  have IT : Inv X pins σ (upd H2 s2.heap.objs.size (.tup vs)) { s2 with heap := s2.heap.push { cls := .type "tuple", data := .seq us.toArray } } :=
    I2.laid (t' := s2.toks) kp (Nat.le_refl _) ⟨Nat.le_trans z (by decide), us, r, ⟨_, Heap.get?_push_size _ rfl, rfl, _, rfl⟩⟩
  obtain ⟨as, r1⟩ := Dp.reads IT d x v (dat_ok _ _ _ (dat_new hf _ _ _ h1)) rx
  have h3 : dat (upd H2 s2.heap.objs.size (.tup vs)) 8 (.ref s2.heap.objs.size) = some (.tuple ds) := by
    rw [dat_tup upd_same]
    have key : ∀ (xs : List V) (ds : List PyData), mapO (dat H2 7) xs = some ds → mapO (dat (upd H2 s2.heap.objs.size (.tup vs)) 7) xs = some ds := by
      intro xs
      induction xs with
      | nil => intro ds h; exact h
      | cons v r ih =>
        intro ds h
        unfold mapO at h ⊢
        split at h
        · rename_i d ds' h1 h2
          cases h
          rw [dat_new hf _ _ _ h1, ih _ h2]
        · cases h
    rw [key _ _ h2]
    rfl
  obtain ⟨bs, r2⟩ := Dp.reads IT (.tuple ds) (.ref s2.heap.objs.size) (.ref s2.heap.objs.size) (dat_ok _ _ _ h3) rfl
  subst hop
  cases neg with
  | true => exact SeqAt.compareNe_shaped r1 r2 sd se hu ⟨.bl _, H2, IU, rfl, q⟩
  | false => exact SeqAt.compareEq_shaped r1 r2 sd se hu ⟨.bl _, H2, IU, rfl, q⟩
theorem pc_eqT {x1 : Nat} (hu : X.A.units + 64 < cLine) (hl : PE X l tl) (he : PA X es t) : PC X .Eq l (.Tuple es x1 pos1) (tEqT false tl t) := ⟨fun pins s σ H Q I h => eqT_run (neg := false) rfl hu hl he I h⟩
theorem pc_neT {x1 : Nat} (hu : X.A.units + 64 < cLine) (hl : PE X l tl) (he : PA X es t) : PC X .NotEq l (.Tuple es x1 pos1) (tEqT true tl t) := ⟨fun pins s σ H Q I h => eqT_run (neg := true) rfl hu hl he I h⟩
/-- l in (e, ..), l not in (e, ..): flat things -/
def tInT (neg : Bool) (tl : TE) (t : TA) : TE := fun σ H Q => tl σ H fun x H1 => t σ H1 fun vs H2 => vs.length ≤ 1000 ∧ flatV x = true ∧ vs.all flatV = true ∧ Q (.bl (if neg then !inV x vs else inV x vs)) H2
theorem inT_run {neg : Bool} {op : CmpOp} (hop : op = if neg then .NotIn else .In) (hl : PE X l tl) (he : PA X es t) {x1 : Nat} {pins : List (Addr × Obj)} {s : Shared} {σ : L2.St} {H : Hp} {Q : VK} (I : Inv X pins σ H s) (h : tInT neg tl t σ H Q) :
    wpAny (model X.prog X.w) X.A (eval l X.env) (fun v s1 => wpAny (model X.prog X.w) X.A (eval (.Tuple es x1 pos1) X.env) (fun u s2 => wpAny (model X.prog X.w) X.A (compareOp op v u) (EP X pins σ Q) X.xe s2) X.xe s1) X.xe s := by
  refine thn (hl.run pins s σ H _ I h) ?_
  rintro v s1 ⟨x, H1, I1, rx, q1⟩
  refine wpAny_Tuple_spliced (thn (he.run pos1 pins s1 σ H1 _ I1 q1) ?_)
  rintro us s2 ⟨vs, H2, I2, r, z, f1, f2, q⟩
  have z1 : us.length ≤ sizeLine := by rw [← r.length]; exact Nat.le_trans z (by decide)
  refine ⟨z1, ?_⟩
  have hf : H2 s2.heap.objs.size = none := I2.hok.fresh (Nat.le_refl _)
  have kp : ∀ (b : Addr) (o : Obj), s2.heap.get? b = some o → (s2.heap.push { cls := .type "tuple", data := .seq us.toArray }).get? b = some o := fun b o e => Heap.get?_push_of_some _ e
  have IU : Inv X pins σ H2 { s2 with heap := s2.heap.push { cls := .type "tuple", data := .seq us.toArray } } := I2.kept (t' := s2.toks) kp
  have IT : Inv X pins σ (upd H2 s2.heap.objs.size (.tup vs)) { s2 with heap := s2.heap.push { cls := .type "tuple", data := .seq us.toArray } } :=
    I2.laid (t' := s2.toks) kp (Nat.le_refl _) ⟨Nat.le_trans z (by decide), us, r, ⟨_, Heap.get?_push_size _ rfl, rfl, _, rfl⟩⟩
  obtain ⟨its, r', pl, hz⟩ := IT.tuple (SqT.of (K := X.K) (upd_same (a := s2.heap.objs.size) (o := .tup vs)))
  subst hop
  cases neg with
  | true =>
    refine SeqAt.notIn_tupleAt (eqU x) pl (fun w hw => mem_eqAt rx f1 r' f2 w (by simpa using hw)) ⟨.bl _, H2, IU, rfl, ?_⟩
    rw [show its.toArray.any (eqU x) = its.any (eqU x) by simp, any_eqU r' f2]
    exact q
  | false =>
    refine SeqAt.in_tupleAt (eqU x) pl (fun w hw => mem_eqAt rx f1 r' f2 w (by simpa using hw)) ⟨.bl _, H2, IU, rfl, ?_⟩
    rw [show its.toArray.any (eqU x) = its.any (eqU x) by simp, any_eqU r' f2]
    exact q
theorem pc_inT {x1 : Nat} (hl : PE X l tl) (he : PA X es t) : PC X .In l (.Tuple es x1 pos1) (tInT false tl t) := ⟨fun pins s σ H Q I h => inT_run (neg := false) rfl hl he I h⟩
theorem pc_notInT {x1 : Nat} (hl : PE X l tl) (he : PA X es t) : PC X .NotIn l (.Tuple es x1 pos1) (tInT true tl t) := ⟨fun pins s σ H Q I h => inT_run (neg := true) rfl hl he I h⟩
end
theorem RDp :
    (∀ (t : TA) (tb : TE) (σ : L2.St) (H : Hp) (Q : VK), tPick t tb σ H Q = t σ H fun vs H1 => vs.length ≤ 1000 ∧ tb σ H1 fun y H2 => ∃ k v, y = .int k ∧ 0 ≤ k ∧ atI vs k = some v ∧ Q v H2) ∧
    (∀ (neg : Bool) (tl : TE) (t : TA) (σ : L2.St) (H : Hp) (Q : VK), tEqT neg tl t σ H Q = tl σ H fun x H1 => t σ H1 fun vs H2 => vs.length ≤ 1000 ∧ ∃ d ds, dat H2 8 x = some d ∧ mapO (dat H2 7) vs = some ds ∧ SeqAt.shaped d = true ∧ SeqAt.shaped (.tuple ds) = true ∧ Q (.bl (if neg then !PyData.eqv d (.tuple ds) else PyData.eqv d (.tuple ds))) H2) ∧
    (∀ (neg : Bool) (tl : TE) (t : TA) (σ : L2.St) (H : Hp) (Q : VK), tInT neg tl t σ H Q = tl σ H fun x H1 => t σ H1 fun vs H2 => vs.length ≤ 1000 ∧ flatV x = true ∧ vs.all flatV = true ∧ Q (.bl (if neg then !inV x vs else inV x vs)) H2) ∧
    (∀ i j : Int, CDiv i j = (0 < j ∧ j < 1073741824)) ∧ (∀ i j : Int, CPow i j = (0 ≤ j ∧ j ≤ 1000000 ∧ i.natAbs < 2 ^ 64)) :=
  ⟨fun _ _ _ _ _ => rfl, fun _ _ _ _ _ _ => rfl, fun _ _ _ _ _ _ => rfl, fun _ _ => rfl, fun _ _ => rfl⟩
theorem seq_gen {t u : TS} {D : Ends} {σ : L2.St} {H : Hp} (h : ∀ N : L2.St → Hp → Prop, (∀ σ H, u D σ H → N σ H) → t { D with nx := N } σ H) : tSeq t u D σ H := h _ fun _ _ z => z
theorem cut_int {ns : List Int} {lo hi : Option Int} {i : Nat} {x : V} (h : (cutV (ns.map V.int) lo hi)[i]? = some x) : ∃ c, x = .int c := by
  have h1 : x ∈ cutV (ns.map V.int) lo hi := List.mem_of_getElem? h
  unfold cutV at h1
  have h2 := List.mem_of_mem_drop (List.mem_of_mem_take h1)
  obtain ⟨c, _, e⟩ := List.mem_map.mp h2
  exact ⟨c, e.symm⟩
theorem ite_merge {α : Sort _} {P R : Prop} [Decidable P] [Decidable R] {x y : α} : (if P then (if R then x else y) else y) = if P ∧ R then x else y := by
  by_cases p : P <;> by_cases r : R <;> simp [p, r]
theorem ite_or' {α : Sort _} {P R : Prop} [Decidable P] [Decidable R] {x y : α} : (if P then x else (if R then x else y)) = if P ∨ R then x else y := by
  by_cases p : P <;> by_cases r : R <;> simp [p, r]
theorem getD_all {α : Type} {p : α → Prop} {xs : List α} {d : α} (h : ∀ x ∈ xs, p x) (hd : p d) (i : Nat) : p (xs.getD i d) := by
  rw [List.getD_eq_getElem?_getD]
  cases e : xs[i]? with
  | none => exact hd
  | some x => exact h x (List.mem_of_getElem? e)
theorem md_rng {n : Int} (x : Int) (h : 0 < n) : 0 ≤ x % n ∧ x % n < n := ⟨Int.emod_nonneg _ (by omega), Int.emod_lt_of_pos _ h⟩
theorem pick2 {x y : V} {k : Int} (h0 : 0 ≤ k) (h1 : k < 2) : atI [x, y] k = some (if k = 0 then x else y) := by
  rcases (show k = 0 ∨ k = 1 by omega) with rfl | rfl
  · rfl
  · rfl
theorem pickI2 {x y k : Int} (h0 : 0 ≤ k) (h1 : k < 2) : atI [V.int x, V.int y] k = some (.int (if k = 0 then x else y)) := by
  rcases (show k = 0 ∨ k = 1 by omega) with rfl | rfl
  · rfl
  · rfl
/-- an item of a list of whole numbers -/
theorem atInt {xs : List Int} {k : Int} (h0 : 0 ≤ k) (h1 : k < (xs.length : Int)) : atI (xs.map V.int) k = some (.int (xs.getD k.toNat 0)) := by
  have e2 : k = ((k.toNat : Nat) : Int) := by omega
  have e3 : k.toNat < xs.length := by omega
  rw [e2]
  refine atI_nat ?_
  rw [List.getElem?_map, List.getElem?_eq_getElem e3, List.getD_eq_getElem?_getD, Int.toNat_natCast, List.getElem?_eq_getElem e3]
  rfl
/-- the law's own def -/
theorem fn_law {P : Program} {w : World} {K : PySem.W.Frag} {mg : Str → Option Value} {base : Heap} {x : Str} {st : Stmt} {N ps : List Str} {k : Nat} {sp : Sp} {f0 : Addr} {fd : FuncData} (F : FunD K x x (defArgs st) (defBody st) (defScope st) [] [] f0 fd) (S : FnScope N ps (defScope st)) (len : ∀ vs H Q E, sp vs H Q E → vs.length = ps.length)
    (hbody : ∀ (f : Addr) (cdv : Value) (A : Around) (outer : List Env) (s : Shared) (H : Hp) (vs : List V) (Q : VK) (E : XK), Room k (A.deeper (envOfC x (defScope st) s.heap.objs.size f cdv)) → sp vs H Q E →
      ∃ t, PSs (cxOf (L2N.CX P w) P w K mg base N x (defScope st) f cdv A outer s H E) (defBody st) t ∧ t { nx := fun _ H' => Q .non H', rt := Q } (start N vs) H) : FnOk P w K mg base (L2N.CX P w) (k + 1) f0 fd ps sp :=
  F.ok S len fun cdv A outer s H vs Q E hr h => hbody _ cdv A outer s H vs Q E hr h
/-- the end of a law, its air leaning on the world -/
theorem walk_W {l : PySem.W.OpenLaw} {n k : Nat} {q : Program} {loose : List Str} {XP : (Str → Option Value) → Heap → Prop} {YP : World → Heap → Prop} {d : DefRec} {CX : World → CXT} {x : Str}
    (hn : l.most = some n) (hn2 : n ≤ sizeLine) (hdf : d.params.defaults = []) (hr : Room k callerA)
    (F : ∀ (w : World) (mg : Str → Option Value) (fa : Addr) (h : Heap), YP w h → h.Ns mainGlobals mg → mg d.name = some (.ref fa) →
      ∃ (K : PySem.W.Frag) (fd : FuncData) (sp : Sp), K.In h ∧ (∀ (s : Shared) (u : Value), BindsTo s fd ⟨[u], []⟩ [(x, u)]) ∧
        (∀ (H : Hp) (a : Addr) (ns : List Int), ns.length ≤ n → Only H → SqL K H a (ns.map V.int) → sp [.ref a] H (fun v _ => v = .bl true) fun _ _ _ => False) ∧
        ∀ base : Heap, K.In base → base.Ns mainGlobals mg → FnOk l.prog w K mg base (CX w) k fa fd [x] sp)
    (hCX : ∀ (w : World) (H : Hp) (s : Shared) (e : Value) (s' : Shared), CX w [] H s (fun _ _ _ => False) e s' → False) :
    PySem.W.WalkO q loose XP YP l.row.toRowW d [] (fun f vs => PySem.call f vs) := by
  refine Att.attach_call hn hdf fun w s₀ s₁ mg mb fa o pm cd doc a vs ns G Y ho hd hcd hmg hobj hints hlen hg => ?_
  obtain ⟨K, fd, sp, KX, hb, hsp, hF⟩ := F w mg fa _ Y G.T.g hmg
  exact law_call KX G.T.g G.T.b G.T.builtins G.T.nolimit hg hobj hints (Nat.le_trans hlen hn2) hr hF hb (fun H hO hS => hsp H a ns hlen hO hS) fun H e s' => hCX w H s₁ e s'
end RP

namespace RP
open PySem PySem.Spec PyProof.Rows L2
def top (i : Nat) : Stmt := PySem.Challenge.pw_ringpost_k02_who_sends.main.body.getD i (.Pass ⟨0, 0, 0, 0⟩)
/-- what the top says of an own error class -/
structure ErrC (K : PySem.W.Frag) (mg : Str → Option Value) (n : Str) : Prop where
  g : mg n = some (.ref (He.ga K n))
  ex : PySem.W.excIn K (He.ga K n) He.veBase "ValueError.__new__" = true
  k : PySem.W.keepIn K (.ref (He.ga K n)) = true
  s : PySem.W.subIn K (.ref (He.ga K n)) (.type "BaseException") = some true
  t : PySem.W.typeIn K (.ref (He.ga K n)) = some (.type "type")
end RP

namespace RP
open PySem PySem.Spec PyProof.Rows L2
abbrev s_is_among : Stmt := top 11
abbrev N_is_among : List Str := ["thing", "least", "most"]
theorem sc_is_among : FnScope N_is_among ["thing", "least", "most"] (defScope s_is_among) := ⟨rfl, rfl, rfl, by decide +kernel, rfl, by decide +kernel, by decide +kernel⟩
/-- a whole number between two -/
def amongV (x : V) (lo hi : Int) : Bool := match x with
  | .int n => decide (lo ≤ n) && decide (n ≤ hi)
  | _ => false
/-- things that may be handed in anywhere -/
def Kn (H : Hp) (x : V) : Prop := (tyN H x).isSome = true
theorem Kn.cases {H : Hp} {x : V} (h : Kn H x) : x = .non ∨ (∃ b, x = .bl b) ∨ (∃ n, x = .int n) ∨ (∃ z, x = .str z) ∨ ∃ a t, x = .ref a ∧ tyN H (.ref a) = some t ∧ (t = "list" ∨ t = "tuple" ∨ t = "dict") := by
  unfold Kn at h
  cases x with
  | non => exact .inl rfl
  | bl b => exact .inr (.inl ⟨b, rfl⟩)
  | int n => exact .inr (.inr (.inl ⟨n, rfl⟩))
  | str z => exact .inr (.inr (.inr (.inl ⟨z, rfl⟩)))
  | byt b => cases h
  | flt b => cases h
  | ty n => cases h
  | ref a =>
    refine .inr (.inr (.inr (.inr ?_)))
    unfold tyN at h
    dsimp only at h
    split at h
    · rename_i xs e
      exact ⟨a, "list", rfl, by unfold tyN; dsimp only; rw [e], .inl rfl⟩
    · rename_i xs e
      exact ⟨a, "tuple", rfl, by unfold tyN; dsimp only; rw [e], .inr (.inl rfl)⟩
    · rename_i xs e
      exact ⟨a, "dict", rfl, by unfold tyN; dsimp only; rw [e], .inr (.inr rfl)⟩
    · cases h
def sp_is_among (K : PySem.W.Frag) : Sp := fun vs H Q _ => ∃ x lo hi, vs = [x, .int lo, .int hi] ∧ Kn H x ∧ Q (.bl (amongV x lo hi)) H
theorem ok_is_among {P : Program} {w : World} {K : PySem.W.Frag} {mg : Str → Option Value} {base : Heap} (F : FnP K ("is_among", none) "is_among" "is_among" s_is_among) (hm : mg "is_among" = some (.ref (He.ga K "is_among"))) (bl : Blt mg) : Cal P w K mg base 1 "is_among" (sp_is_among K) := by
  refine fn_cal F hm sc_is_among (fun vs H Q E => by walk_at "len") (fun _ _ _ _ _ _ us hl => match us, hl with | [_, _, _], _ => rfl) (fun f cdv A outer s H vs Q E hr h => ?_)
  have hu := hu_of hr
  obtain ⟨x, lo, hi, rfl, hk, q⟩ := h
  refine ⟨_, (pss_one (ps_ret (pe_and (pe_callB call_isC (by rfl) (bl.isi) (by decide +kernel) (pa_cons (pv 0) (pa_cons (pe_bltn (v := .ty "int") (u := .type "int") rfl (bl.int) (by decide +kernel) rfl) pa_nil))) (pe_and (pe_not (pe_callB call_isC (by rfl) (bl.isi) (by decide +kernel) (pa_cons (pv 0) (pa_cons (pe_bltn (v := .ty "bool") (u := .type "bool") rfl (bl.bool) (by decide +kernel) rfl) pa_nil)))) (pe_one (pe_chain op_le op_le (pv 1) (pv 0) (pv 2))))))), ?_⟩
  walk_at "st0"
  simp only [RDa, RDb, RDv, RDk, RDx, RDe, RDd, RDp, List.getElem?_cons_zero, List.getElem?_cons_succ, List.set_cons_zero, List.set_cons_succ, List.cons.injEq, List.cons_ne_nil, reduceCtorEq, exists_eq_left', exists_eq_left, exists_and_left, and_assoc, exists_const, true_and, and_true, if_true, if_false, false_and, and_false, exists_false, false_or, or_false, true_implies, false_implies, implies_true, forall_eq, forall_eq', Bool.false_eq_true, if_neg, decide_eq_true_eq, Bool.not_eq_true', decide_eq_false_iff_not, Bool.not_true, Bool.not_false, List.length_cons, List.length_nil, sizeLine_eq, Nat.reduceAdd, Nat.reduceLeDiff, Nat.reduceLT, Int.reduceLT, Int.reduceLE, Int.emod_nonneg, ne_eq, Int.reduceEq, not_false_eq_true]
  rcases hk.cases with rfl | ⟨b, rfl⟩ | ⟨n, rfl⟩ | ⟨z, rfl⟩ | ⟨a, t, rfl, ht, rfl | rfl | rfl⟩
  · simp only [RDa, RDb, RDv, RDk, RDx, RDe, RDd, RDp, List.getElem?_cons_zero, List.getElem?_cons_succ, List.set_cons_zero, List.set_cons_succ, List.cons.injEq, List.cons_ne_nil, reduceCtorEq, exists_eq_left', exists_eq_left, exists_and_left, and_assoc, exists_const, true_and, and_true, if_true, if_false, false_and, and_false, exists_false, false_or, or_false, true_implies, false_implies, implies_true, forall_eq, forall_eq', Bool.false_eq_true, if_neg, decide_eq_true_eq, Bool.not_eq_true', decide_eq_false_iff_not, Bool.not_true, Bool.not_false, List.length_cons, List.length_nil, sizeLine_eq, Nat.reduceAdd, Nat.reduceLeDiff, Nat.reduceLT, Int.reduceLT, Int.reduceLE, Int.emod_nonneg, ne_eq, Int.reduceEq, not_false_eq_true]
    exact q
  · simp only [RDa, RDb, RDv, RDk, RDx, RDe, RDd, RDp, List.getElem?_cons_zero, List.getElem?_cons_succ, List.set_cons_zero, List.set_cons_succ, List.cons.injEq, List.cons_ne_nil, reduceCtorEq, exists_eq_left', exists_eq_left, exists_and_left, and_assoc, exists_const, true_and, and_true, if_true, if_false, false_and, and_false, exists_false, false_or, or_false, true_implies, false_implies, implies_true, forall_eq, forall_eq', Bool.false_eq_true, if_neg, decide_eq_true_eq, Bool.not_eq_true', decide_eq_false_iff_not, Bool.not_true, Bool.not_false, List.length_cons, List.length_nil, sizeLine_eq, Nat.reduceAdd, Nat.reduceLeDiff, Nat.reduceLT, Int.reduceLT, Int.reduceLE, Int.emod_nonneg, ne_eq, Int.reduceEq, not_false_eq_true]
    exact q
  · simp only [RDa, RDb, RDv, RDk, RDx, RDe, RDd, RDp, List.getElem?_cons_zero, List.getElem?_cons_succ, List.set_cons_zero, List.set_cons_succ, List.cons.injEq, List.cons_ne_nil, reduceCtorEq, exists_eq_left', exists_eq_left, exists_and_left, and_assoc, exists_const, true_and, and_true, if_true, if_false, false_and, and_false, exists_false, false_or, or_false, true_implies, false_implies, implies_true, forall_eq, forall_eq', Bool.false_eq_true, if_neg, decide_eq_true_eq, Bool.not_eq_true', decide_eq_false_iff_not, Bool.not_true, Bool.not_false, List.length_cons, List.length_nil, sizeLine_eq, Nat.reduceAdd, Nat.reduceLeDiff, Nat.reduceLT, Int.reduceLT, Int.reduceLE, Int.emod_nonneg, ne_eq, Int.reduceEq, not_false_eq_true]
    unfold amongV at q
    by_cases h1 : lo ≤ n
    · rw [if_pos h1]
      simpa [h1] using q
    · rw [if_neg h1]
      simpa [h1] using q
  · simp only [RDa, RDb, RDv, RDk, RDx, RDe, RDd, RDp, List.getElem?_cons_zero, List.getElem?_cons_succ, List.set_cons_zero, List.set_cons_succ, List.cons.injEq, List.cons_ne_nil, reduceCtorEq, exists_eq_left', exists_eq_left, exists_and_left, and_assoc, exists_const, true_and, and_true, if_true, if_false, false_and, and_false, exists_false, false_or, or_false, true_implies, false_implies, implies_true, forall_eq, forall_eq', Bool.false_eq_true, if_neg, decide_eq_true_eq, Bool.not_eq_true', decide_eq_false_iff_not, Bool.not_true, Bool.not_false, List.length_cons, List.length_nil, sizeLine_eq, Nat.reduceAdd, Nat.reduceLeDiff, Nat.reduceLT, Int.reduceLT, Int.reduceLE, Int.emod_nonneg, ne_eq, Int.reduceEq, not_false_eq_true]
    exact q
  · simp only [RDa, RDb, RDv, RDk, RDx, RDe, RDd, RDp, List.getElem?_cons_zero, List.getElem?_cons_succ, List.set_cons_zero, List.set_cons_succ, List.cons.injEq, List.cons_ne_nil, reduceCtorEq, exists_eq_left', exists_eq_left, exists_and_left, and_assoc, exists_const, true_and, and_true, if_true, if_false, false_and, and_false, exists_false, false_or, or_false, true_implies, false_implies, implies_true, forall_eq, forall_eq', Bool.false_eq_true, if_neg, decide_eq_true_eq, Bool.not_eq_true', decide_eq_false_iff_not, Bool.not_true, Bool.not_false, List.length_cons, List.length_nil, sizeLine_eq, Nat.reduceAdd, Nat.reduceLeDiff, Nat.reduceLT, Int.reduceLT, Int.reduceLE, Int.emod_nonneg, ne_eq, Int.reduceEq, not_false_eq_true, ht]
    exact q
  · simp only [RDa, RDb, RDv, RDk, RDx, RDe, RDd, RDp, List.getElem?_cons_zero, List.getElem?_cons_succ, List.set_cons_zero, List.set_cons_succ, List.cons.injEq, List.cons_ne_nil, reduceCtorEq, exists_eq_left', exists_eq_left, exists_and_left, and_assoc, exists_const, true_and, and_true, if_true, if_false, false_and, and_false, exists_false, false_or, or_false, true_implies, false_implies, implies_true, forall_eq, forall_eq', Bool.false_eq_true, if_neg, decide_eq_true_eq, Bool.not_eq_true', decide_eq_false_iff_not, Bool.not_true, Bool.not_false, List.length_cons, List.length_nil, sizeLine_eq, Nat.reduceAdd, Nat.reduceLeDiff, Nat.reduceLT, Int.reduceLT, Int.reduceLE, Int.emod_nonneg, ne_eq, Int.reduceEq, not_false_eq_true, ht]
    exact q
  · simp only [RDa, RDb, RDv, RDk, RDx, RDe, RDd, RDp, List.getElem?_cons_zero, List.getElem?_cons_succ, List.set_cons_zero, List.set_cons_succ, List.cons.injEq, List.cons_ne_nil, reduceCtorEq, exists_eq_left', exists_eq_left, exists_and_left, and_assoc, exists_const, true_and, and_true, if_true, if_false, false_and, and_false, exists_false, false_or, or_false, true_implies, false_implies, implies_true, forall_eq, forall_eq', Bool.false_eq_true, if_neg, decide_eq_true_eq, Bool.not_eq_true', decide_eq_false_iff_not, Bool.not_true, Bool.not_false, List.length_cons, List.length_nil, sizeLine_eq, Nat.reduceAdd, Nat.reduceLeDiff, Nat.reduceLT, Int.reduceLT, Int.reduceLE, Int.emod_nonneg, ne_eq, Int.reduceEq, not_false_eq_true, ht]
    exact q
end RP

namespace RP
open PySem PySem.Spec PyProof.Rows L2
/-- the attributes of a Sender -/
def flSender (a0 : Int) (a1 : Int) (a2 : Int) (a3 : Int) (a4 : Int) : List (Str × V) := [(("window" : Str), V.int a0), (("ring" : Str), V.int a1), (("many" : Str), V.int a2), (("base" : Str), V.int a3), (("top" : Str), V.int a4)]
abbrev SenderF (K : PySem.W.Frag) : Prop := Cls K (He.ga K "Sender") ∧ NoAttr K (He.ga K "Sender") "window" ∧ NoAttr K (He.ga K "Sender") "ring" ∧ NoAttr K (He.ga K "Sender") "many" ∧ NoAttr K (He.ga K "Sender") "base" ∧ NoAttr K (He.ga K "Sender") "top"
theorem flSender_inj (a0 : Int) (a1 : Int) (a2 : Int) (a3 : Int) (a4 : Int) (b0 : Int) (b1 : Int) (b2 : Int) (b3 : Int) (b4 : Int) : (flSender a0 a1 a2 a3 a4 = flSender b0 b1 b2 b3 b4) = (a0 = b0 ∧ a1 = b1 ∧ a2 = b2 ∧ a3 = b3 ∧ a4 = b4) := by
  simp only [flSender, List.cons.injEq, Prod.mk.injEq, V.int.injEq, V.ref.injEq, true_and, and_true]
theorem SenderL : (∀ (a0 : Int) (a1 : Int) (a2 : Int) (a3 : Int) (a4 : Int), (flSender a0 a1 a2 a3 a4).lookup ("window" : Str) = some (.int a0)) ∧
    (∀ (a0 : Int) (a1 : Int) (a2 : Int) (a3 : Int) (a4 : Int), (flSender a0 a1 a2 a3 a4).lookup ("ring" : Str) = some (.int a1)) ∧
    (∀ (a0 : Int) (a1 : Int) (a2 : Int) (a3 : Int) (a4 : Int), (flSender a0 a1 a2 a3 a4).lookup ("many" : Str) = some (.int a2)) ∧
    (∀ (a0 : Int) (a1 : Int) (a2 : Int) (a3 : Int) (a4 : Int), (flSender a0 a1 a2 a3 a4).lookup ("base" : Str) = some (.int a3)) ∧
    (∀ (a0 : Int) (a1 : Int) (a2 : Int) (a3 : Int) (a4 : Int), (flSender a0 a1 a2 a3 a4).lookup ("top" : Str) = some (.int a4)) ∧
    (∀ (a0 : Int) (a1 : Int) (a2 : Int) (a3 : Int) (a4 : Int), (flSender a0 a1 a2 a3 a4).lookup ("span" : Str) = none) ∧
    (∀ (a0 : Int) (a1 : Int) (a2 : Int) (a3 : Int) (a4 : Int), (flSender a0 a1 a2 a3 a4).lookup ("sent" : Str) = none) ∧
    (∀ (a0 : Int) (a1 : Int) (a2 : Int) (a3 : Int) (a4 : Int), (flSender a0 a1 a2 a3 a4).lookup ("heard" : Str) = none) ∧
    (∀ (a0 : Int) (a1 : Int) (a2 : Int) (a3 : Int) (a4 : Int), (flSender a0 a1 a2 a3 a4).length = 5) ∧
    (∀ (a0 : Int) (a1 : Int) (a2 : Int) (a3 : Int) (a4 : Int) (b0 : Int) (b1 : Int) (b2 : Int) (b3 : Int) (b4 : Int), (flSender a0 a1 a2 a3 a4 = flSender b0 b1 b2 b3 b4) = (a0 = b0 ∧ a1 = b1 ∧ a2 = b2 ∧ a3 = b3 ∧ a4 = b4)) ∧
    (∀ (a0 : Int) (a1 : Int) (a2 : Int) (a3 : Int) (a4 : Int) (y : Int), putF ("window" : Str) (.int y) (flSender a0 a1 a2 a3 a4) = flSender y a1 a2 a3 a4) ∧
    (∀ (a0 : Int) (a1 : Int) (a2 : Int) (a3 : Int) (a4 : Int) (y : Int), putF ("ring" : Str) (.int y) (flSender a0 a1 a2 a3 a4) = flSender a0 y a2 a3 a4) ∧
    (∀ (a0 : Int) (a1 : Int) (a2 : Int) (a3 : Int) (a4 : Int) (y : Int), putF ("many" : Str) (.int y) (flSender a0 a1 a2 a3 a4) = flSender a0 a1 y a3 a4) ∧
    (∀ (a0 : Int) (a1 : Int) (a2 : Int) (a3 : Int) (a4 : Int) (y : Int), putF ("base" : Str) (.int y) (flSender a0 a1 a2 a3 a4) = flSender a0 a1 a2 y a4) ∧
    (∀ (a0 : Int) (a1 : Int) (a2 : Int) (a3 : Int) (a4 : Int) (y : Int), putF ("top" : Str) (.int y) (flSender a0 a1 a2 a3 a4) = flSender a0 a1 a2 a3 y) := by
  refine ⟨?_, ?_, ?_, ?_, ?_, ?_, ?_, ?_, ?_, ?_, ?_, ?_, ?_, ?_, ?_⟩ <;> intros <;> first | rfl | exact flSender_inj .. | kernel_rfl
theorem SenderI : (∀  (v : V), putF ("window" : Str) v ([] : List (Str × V)) = [(("window" : Str), v)]) ∧
    (∀ (u0 : V) (v : V), putF ("ring" : Str) v ([(("window" : Str), u0)] : List (Str × V)) = [(("window" : Str), u0), (("ring" : Str), v)]) ∧
    (∀ (u0 : V) (u1 : V) (v : V), putF ("many" : Str) v ([(("window" : Str), u0), (("ring" : Str), u1)] : List (Str × V)) = [(("window" : Str), u0), (("ring" : Str), u1), (("many" : Str), v)]) ∧
    (∀ (u0 : V) (u1 : V) (u2 : V) (v : V), putF ("base" : Str) v ([(("window" : Str), u0), (("ring" : Str), u1), (("many" : Str), u2)] : List (Str × V)) = [(("window" : Str), u0), (("ring" : Str), u1), (("many" : Str), u2), (("base" : Str), v)]) ∧
    (∀ (a0 : Int) (a1 : Int) (a2 : Int) (a3 : Int) (a4 : Int), putF ("top" : Str) (.int a4) ([(("window" : Str), V.int a0), (("ring" : Str), V.int a1), (("many" : Str), V.int a2), (("base" : Str), V.int a3)] : List (Str × V)) = flSender a0 a1 a2 a3 a4) := by
  refine ⟨?_, ?_, ?_, ?_, ?_⟩ <;> intros <;> first | rfl | kernel_rfl
theorem upd_id {H : Hp} {p : Addr} {o : HO} (h : H p = some o) : upd H p o = H := by
  funext b
  unfold upd
  split
  · rename_i e
    rw [e, h]
  · rfl
abbrev s_Sender_init : Stmt := inClass (top 13) 0
abbrev N_Sender_init : List Str := ["self", "window", "ring", "many"]
theorem sc_Sender_init : FnScope N_Sender_init ["self", "window", "ring", "many"] (defScope s_Sender_init) := ⟨rfl, rfl, rfl, by decide +kernel, rfl, by decide +kernel, by decide +kernel⟩
def sp_Sender_init (K : PySem.W.Frag) : Sp := fun vs H Q _ => ∃ p dx w r m, vs = [.ref p, .int w, .int r, .int m] ∧ H p = some (.ins (He.ga K "Sender") dx []) ∧ Q .non (upd H p (.ins (He.ga K "Sender") dx (flSender w r m 0 0)))
theorem ok_Sender_init {P : Program} {w : World} {K : PySem.W.Frag} {mg : Str → Option Value} {base : Heap} (F : FnP K ("Sender", some "__init__") "__init__" "Sender.__init__" s_Sender_init) (hm : mg "Sender" = some (.ref (He.ga K "Sender"))) (hmk : Mk K (He.ga K "Sender") (He.ma K (He.ga K "Sender") "__init__")) (bl : Blt mg) (hSender : SenderF K) : KCal P w K mg base 1 "Sender" (He.ga K "Sender") (sp_Sender_init K) := by
  refine fn_kcal F hm hmk sc_Sender_init (fun vs H Q E => by walk_at "len") (fun _ _ _ _ _ _ us hl => match us, hl with | [_, _, _, _], _ => rfl) (fun f cdv A outer s H vs Q E hr h => ?_)
  have hu := hu_of hr
  obtain ⟨p, dx, w', r, m, rfl, hp, q⟩ := h
  refine ⟨_, (pss_cons (ps_fld (pv 0) (pv 1) rfl)
  (pss_cons (ps_fld (pv 0) (pv 2) rfl)
  (pss_cons (ps_fld (pv 0) (pv 3) rfl)
  (pss_cons (ps_fld (pv 0) pe_int rfl)
  (pss_one (ps_fld (pv 0) pe_int rfl)))))), ?_⟩
  walk_at "st0"
  simp only [RDa, RDb, RDv, RDk, RDx, RDe, RDd, RDp, List.getElem?_cons_zero, List.getElem?_cons_succ, List.set_cons_zero, List.set_cons_succ, List.cons.injEq, List.cons_ne_nil, reduceCtorEq, exists_eq_left', exists_eq_left, exists_and_left, and_assoc, exists_const, true_and, and_true, if_true, if_false, false_and, and_false, exists_false, false_or, or_false, true_implies, false_implies, implies_true, forall_eq, forall_eq', Bool.false_eq_true, if_neg, decide_eq_true_eq, Bool.not_eq_true', decide_eq_false_iff_not, Bool.not_true, Bool.not_false, List.length_cons, List.length_nil, sizeLine_eq, Nat.reduceAdd, Nat.reduceLeDiff, Nat.reduceLT, Int.reduceLT, Int.reduceLE, Int.emod_nonneg, ne_eq, Int.reduceEq, not_false_eq_true, hSender, SenderI, hp, upd_same, upd_upd]
  exact q
abbrev s_Sender_span : Stmt := inClass (top 13) 1
abbrev N_Sender_span : List Str := ["self"]
theorem sc_Sender_span : FnScope N_Sender_span ["self"] (defScope s_Sender_span) := ⟨rfl, rfl, rfl, by decide +kernel, rfl, by decide +kernel, by decide +kernel⟩
def sp_Sender_span (K : PySem.W.Frag) : Sp := fun vs H Q _ => ∃ p dx w r m b t, vs = [.ref p] ∧ H p = some (.ins (He.ga K "Sender") dx (flSender w r m b t)) ∧ ∀ q, H q = none → Q (.ref q) (upd H q (.tup [.int b, .int t]))
theorem ok_Sender_span {P : Program} {w : World} {K : PySem.W.Frag} {mg : Str → Option Value} {base : Heap} (F : FnP K ("Sender", some "span") "span" "Sender.span" s_Sender_span) (hc : Cls K (He.ga K "Sender")) (hm : Meth K (He.ga K "Sender") "span" (He.ma K (He.ga K "Sender") "span")) (bl : Blt mg) (hSender : SenderF K) : MCal P w K mg base 1 (He.ga K "Sender") "span" (sp_Sender_span K) := by
  refine fn_mcal F hc hm sc_Sender_span (fun vs H Q E => by walk_at "len") (fun _ _ _ _ _ _ us hl => match us, hl with | [_], _ => rfl) (fun f cdv A outer s H vs Q E hr h => ?_)
  have hu := hu_of hr
  obtain ⟨p, dx, w', r, m, b, t, rfl, hp, q⟩ := h
  refine ⟨_, (pss_one (ps_ret (pe_tup (pa_cons (pe_fld (pv 0) rfl) (pa_cons (pe_fld (pv 0) rfl) pa_nil))))), ?_⟩
  walk_at "st0"
  simp only [RDa, RDb, RDv, RDk, RDx, RDe, RDd, RDp, List.getElem?_cons_zero, List.getElem?_cons_succ, List.set_cons_zero, List.set_cons_succ, List.cons.injEq, List.cons_ne_nil, reduceCtorEq, exists_eq_left', exists_eq_left, exists_and_left, and_assoc, exists_const, true_and, and_true, if_true, if_false, false_and, and_false, exists_false, false_or, or_false, true_implies, false_implies, implies_true, forall_eq, forall_eq', Bool.false_eq_true, if_neg, decide_eq_true_eq, Bool.not_eq_true', decide_eq_false_iff_not, Bool.not_true, Bool.not_false, List.length_cons, List.length_nil, sizeLine_eq, Nat.reduceAdd, Nat.reduceLeDiff, Nat.reduceLT, Int.reduceLT, Int.reduceLE, Int.emod_nonneg, ne_eq, Int.reduceEq, not_false_eq_true, hSender, SenderL, hp, upd_same, upd_upd]
  exact q
def sTop (t k : Int) : Int := if k = t then t + 1 else t
abbrev s_Sender_sent : Stmt := inClass (top 13) 2
abbrev N_Sender_sent : List Str := ["self", "k", "last"]
theorem sc_Sender_sent : FnScope N_Sender_sent ["self", "k"] (defScope s_Sender_sent) := ⟨rfl, rfl, rfl, by decide +kernel, rfl, by decide +kernel, by decide +kernel⟩
def sp_Sender_sent (K : PySem.W.Frag) : Sp := fun vs H Q E => ∃ p dx w r m b t x, vs = [.ref p, x] ∧ H p = some (.ins (He.ga K "Sender") dx (flSender w r m b t)) ∧ 0 < r ∧ Kn H x ∧
  (amongV x b (mn2 (mn2 t (b + w - 1)) (m - 1)) = true → ∀ k, x = .int k → Q (.int (k % r)) (upd H p (.ins (He.ga K "Sender") dx (flSender w r m b (sTop t k))))) ∧
  (amongV x b (mn2 (mn2 t (b + w - 1)) (m - 1)) = false → E (.ref (He.ga K "NotNow")) none H)
theorem ok_Sender_sent {P : Program} {w : World} {K : PySem.W.Frag} {mg : Str → Option Value} {base : Heap} (F : FnP K ("Sender", some "sent") "sent" "Sender.sent" s_Sender_sent) (hc : Cls K (He.ga K "Sender")) (hm : Meth K (He.ga K "Sender") "sent" (He.ma K (He.ga K "Sender") "sent")) (bl : Blt mg) (hSender : SenderF K) (c_is_among : Cal P w K mg base 1 "is_among" (sp_is_among K)) (e_NotNow : ErrC K mg "NotNow") : MCal P w K mg base 2 (He.ga K "Sender") "sent" (sp_Sender_sent K) := by
  refine fn_mcal F hc hm sc_Sender_sent (fun vs H Q E => by walk_at "len") (fun _ _ _ _ _ _ us hl => match us, hl with | [_, _], _ => rfl) (fun f cdv A outer s H vs Q E hr h => ?_)
  have hu := hu_of hr
  obtain ⟨p, dx, w', r, m, b, t, x, rfl, hp, hr0, hk, q1, q2⟩ := h
  refine ⟨_, (pss_cons (ps_set (i := 2) sc_Sender_sent.nd rfl (Or.inl rfl) (pe_callB (call_min3 rfl) (by rfl) (bl.min) (by decide +kernel) (pa_cons (pe_fld (pv 0) rfl) (pa_cons (pe_op op_sub (pe_op op_add (pe_fld (pv 0) rfl) (pe_fld (pv 0) rfl)) pe_int) (pa_cons (pe_op op_sub (pe_fld (pv 0) rfl) pe_int) pa_nil)))))
  (pss_cons (ps_if (pt_not (pt_val (pe_fn c_is_among (hr.mono (by decide)) (L2N.takes_of rfl rfl rfl rfl) (pa_cons (pv 1) (pa_cons (pe_fld (pv 0) rfl) (pa_cons (pv 2) pa_nil))))))
  (pss_one (L2N.ps_raise rfl (L2N.takes_of rfl rfl rfl rfl) (L2N.pmk_own PySem.F.excBase_ValueError e_NotNow.ex e_NotNow.g e_NotNow.k (raises_own e_NotNow.s e_NotNow.t) rfl)))
  pss_nil)
  (pss_cons (ps_if (pt_cmpR op_eq (pv 1) (pe_fld (pv 0) rfl) (nomark _))
  (pss_one (ps_fld (pv 0) (pe_op op_add (pe_fld (pv 0) rfl) pe_int) rfl))
  pss_nil)
  (pss_one (ps_ret (pe_op op_mod (pv 1) (pe_fld (pv 0) rfl))))))), ?_⟩
  walk_at "st0"
  simp only [RDa, RDb, RDv, RDk, RDx, RDe, RDd, RDp, List.getElem?_cons_zero, List.getElem?_cons_succ, List.set_cons_zero, List.set_cons_succ, List.cons.injEq, List.cons_ne_nil, reduceCtorEq, exists_eq_left', exists_eq_left, exists_and_left, and_assoc, exists_const, true_and, and_true, if_true, if_false, false_and, and_false, exists_false, false_or, or_false, true_implies, false_implies, implies_true, forall_eq, forall_eq', Bool.false_eq_true, if_neg, decide_eq_true_eq, Bool.not_eq_true', decide_eq_false_iff_not, Bool.not_true, Bool.not_false, List.length_cons, List.length_nil, sizeLine_eq, Nat.reduceAdd, Nat.reduceLeDiff, Nat.reduceLT, Int.reduceLT, Int.reduceLE, Int.emod_nonneg, ne_eq, Int.reduceEq, not_false_eq_true, hSender, SenderL, hp, upd_same, upd_upd, sp_is_among, hk]
  cases ha : amongV x b (mn2 (mn2 t (b + w' - 1)) (m - 1)) with
  | false => exact q2 ha
  | true =>
    obtain ⟨k, rfl⟩ : ∃ k, x = .int k := by
      cases x <;> simp only [amongV, Bool.false_eq_true, reduceCtorEq] at ha
      exact ⟨_, rfl⟩
    have q := q1 ha k rfl
    unfold sTop at q
    simp only [RDa, RDb, RDv, RDk, RDx, RDe, RDd, RDp, List.getElem?_cons_zero, List.getElem?_cons_succ, List.set_cons_zero, List.set_cons_succ, List.cons.injEq, List.cons_ne_nil, reduceCtorEq, exists_eq_left', exists_eq_left, exists_and_left, and_assoc, exists_const, true_and, and_true, if_true, if_false, false_and, and_false, exists_false, false_or, or_false, true_implies, false_implies, implies_true, forall_eq, forall_eq', Bool.false_eq_true, if_neg, decide_eq_true_eq, Bool.not_eq_true', decide_eq_false_iff_not, Bool.not_true, Bool.not_false, List.length_cons, List.length_nil, sizeLine_eq, Nat.reduceAdd, Nat.reduceLeDiff, Nat.reduceLT, Int.reduceLT, Int.reduceLE, Int.emod_nonneg, ne_eq, Int.reduceEq, not_false_eq_true, hr0]
    by_cases e : k = t
    · rw [if_pos e] at q ⊢
      exact q
    · rw [if_neg e] at q ⊢
      rw [upd_id hp] at q
      exact q
/-- the base behind an answer -/
def sBase (b t r n : Int) : Int := if b + (n - b) % r ≤ t then b + (n - b) % r else b
abbrev s_Sender_heard : Stmt := inClass (top 13) 3
abbrev N_Sender_heard : List Str := ["self", "number", "step"]
theorem sc_Sender_heard : FnScope N_Sender_heard ["self", "number"] (defScope s_Sender_heard) := ⟨rfl, rfl, rfl, by decide +kernel, rfl, by decide +kernel, by decide +kernel⟩
def sp_Sender_heard (K : PySem.W.Frag) : Sp := fun vs H Q E => ∃ p dx w r m b t n, vs = [.ref p, .int n] ∧ H p = some (.ins (He.ga K "Sender") dx (flSender w r m b t)) ∧ 0 < r ∧
  Q .non (upd H p (.ins (He.ga K "Sender") dx (flSender w r m (sBase b t r n) t)))
theorem ok_Sender_heard {P : Program} {w : World} {K : PySem.W.Frag} {mg : Str → Option Value} {base : Heap} (F : FnP K ("Sender", some "heard") "heard" "Sender.heard" s_Sender_heard) (hc : Cls K (He.ga K "Sender")) (hm : Meth K (He.ga K "Sender") "heard" (He.ma K (He.ga K "Sender") "heard")) (bl : Blt mg) (hSender : SenderF K) : MCal P w K mg base 1 (He.ga K "Sender") "heard" (sp_Sender_heard K) := by
  refine fn_mcal F hc hm sc_Sender_heard (fun vs H Q E => by walk_at "len") (fun _ _ _ _ _ _ us hl => match us, hl with | [_, _], _ => rfl) (fun f cdv A outer s H vs Q E hr h => ?_)
  have hu := hu_of hr
  obtain ⟨p, dx, w', r, m, b, t, n, rfl, hp, hr0, q⟩ := h
  refine ⟨_, (pss_cons (ps_set (i := 2) sc_Sender_heard.nd rfl (Or.inl rfl) (pe_op op_mod (pe_op op_sub (pv 1) (pe_fld (pv 0) rfl)) (pe_fld (pv 0) rfl)))
  (pss_one (ps_if (pt_cmpR op_le (pe_op op_add (pe_fld (pv 0) rfl) (pv 2)) (pe_fld (pv 0) rfl) (nomark _))
  (pss_one (ps_fld (pv 0) (pe_op op_add (pe_fld (pv 0) rfl) (pv 2)) rfl))
  pss_nil))), ?_⟩
  walk_at "st0"
  simp only [RDa, RDb, RDv, RDk, RDx, RDe, RDd, RDp, List.getElem?_cons_zero, List.getElem?_cons_succ, List.set_cons_zero, List.set_cons_succ, List.cons.injEq, List.cons_ne_nil, reduceCtorEq, exists_eq_left', exists_eq_left, exists_and_left, and_assoc, exists_const, true_and, and_true, if_true, if_false, false_and, and_false, exists_false, false_or, or_false, true_implies, false_implies, implies_true, forall_eq, forall_eq', Bool.false_eq_true, if_neg, decide_eq_true_eq, Bool.not_eq_true', decide_eq_false_iff_not, Bool.not_true, Bool.not_false, List.length_cons, List.length_nil, sizeLine_eq, Nat.reduceAdd, Nat.reduceLeDiff, Nat.reduceLT, Int.reduceLT, Int.reduceLE, Int.emod_nonneg, ne_eq, Int.reduceEq, not_false_eq_true, hSender, SenderL, hp, upd_same, upd_upd, hr0]
  unfold sBase at q
  by_cases e : b + (n - b) % r ≤ t
  · rw [if_pos e] at q ⊢
    exact q
  · rw [if_neg e] at q ⊢
    rw [upd_id hp] at q
    exact q
end RP

namespace RP
open PySem PySem.Spec PyProof.Rows L2
def cell (ns : List Int) (k : Int) : Int := ns.getD k.toNat 0
abbrev s__law_at : Stmt := top 15
abbrev N__law_at : List Str := ["_law_script", "_law_k"]
theorem sc__law_at : FnScope N__law_at ["_law_script", "_law_k"] (defScope s__law_at) := ⟨rfl, rfl, rfl, by decide +kernel, rfl, by decide +kernel, by decide +kernel⟩
def sp__law_at (K : PySem.W.Frag) (a : Addr) (ns : List Int) : Sp := fun vs H Q _ => ∃ k, vs = [.ref a, .int k] ∧ SqL K H a (ns.map V.int) ∧ 0 ≤ k ∧ Q (.int (cell ns k)) H
theorem ok__law_at {P : Program} {w : World} {K : PySem.W.Frag} {mg : Str → Option Value} {base : Heap} (F : FnP K ("_law_at", none) "_law_at" "_law_at" s__law_at) (hm : mg "_law_at" = some (.ref (He.ga K "_law_at"))) (bl : Blt mg) (a : Addr) (ns : List Int) : Cal P w K mg base 1 "_law_at" (sp__law_at K a ns) := by
  refine fn_cal F hm sc__law_at (fun vs H Q E => by walk_at "len") (fun _ _ _ _ _ _ us hl => match us, hl with | [_, _], _ => rfl) (fun f cdv A outer s H vs Q E hr h => ?_)
  have hu := hu_of hr
  obtain ⟨k, rfl, hS, hk, q⟩ := h
  refine ⟨_, (pss_cons (ps_if (pt_cmpR op_lt (pv 1) (pe_callB call_len_seq (by rfl) (bl.len) (by decide +kernel) (pa_cons (pv 0) pa_nil)) (nomark _))
  (pss_one (ps_ret (pe_ix ix_list (pv 0) (pv 1) (fun _ _ => rfl))))
  pss_nil)
  (pss_one (ps_ret pe_int))), ?_⟩
  walk_at "st0"
  simp only [RDa, RDb, RDv, RDk, RDx, RDe, RDd, RDp, List.getElem?_cons_zero, List.getElem?_cons_succ, List.set_cons_zero, List.set_cons_succ, List.cons.injEq, List.cons_ne_nil, reduceCtorEq, exists_eq_left', exists_eq_left, exists_and_left, and_assoc, exists_const, true_and, and_true, if_true, if_false, false_and, and_false, exists_false, false_or, or_false, true_implies, false_implies, implies_true, forall_eq, forall_eq', Bool.false_eq_true, if_neg, decide_eq_true_eq, Bool.not_eq_true', decide_eq_false_iff_not, Bool.not_true, Bool.not_false, List.length_cons, List.length_nil, sizeLine_eq, Nat.reduceAdd, Nat.reduceLeDiff, Nat.reduceLT, Int.reduceLT, Int.reduceLE, Int.emod_nonneg, ne_eq, Int.reduceEq, not_false_eq_true, hS]
  refine ⟨_, .inl hS, ?_⟩
  rw [List.length_map]
  by_cases e : k < (ns.length : Int)
  · rw [if_pos e]
    refine ⟨_, _, k, V.int (cell ns k), rfl, rfl, hS, ?_, q⟩
    have e2 : k = ((k.toNat : Nat) : Int) := by omega
    have e3 : k.toNat < ns.length := by omega
    rw [e2]
    refine atI_nat ?_
    unfold cell
    rw [List.getElem?_map, List.getElem?_eq_getElem e3, List.getD_eq_getElem?_getD, Int.toNat_natCast, List.getElem?_eq_getElem e3]
    rfl
  · rw [if_neg e]
    have e3 : ns.length ≤ k.toNat := by omega
    have e4 : cell ns k = 0 := by
      unfold cell
      rw [List.getD_eq_getElem?_getD, List.getElem?_eq_none e3]
      rfl
    rw [e4] at q
    exact q
def mixed (c k : Int) : Int := (c * 48271 + 7919 * (k + 1) * (k + 3)) % 2147483647
abbrev s__law_mixed : Stmt := top 16
abbrev N__law_mixed : List Str := ["_law_cell", "_law_k"]
theorem sc__law_mixed : FnScope N__law_mixed ["_law_cell", "_law_k"] (defScope s__law_mixed) := ⟨rfl, rfl, rfl, by decide +kernel, rfl, by decide +kernel, by decide +kernel⟩
def sp__law_mixed (K : PySem.W.Frag) : Sp := fun vs H Q _ => ∃ c k : Int, vs = [.int c, .int k] ∧ 0 ≤ k ∧ k < 100 ∧ Q (.int (mixed c k)) H
theorem ok__law_mixed {P : Program} {w : World} {K : PySem.W.Frag} {mg : Str → Option Value} {base : Heap} (F : FnP K ("_law_mixed", none) "_law_mixed" "_law_mixed" s__law_mixed) (hm : mg "_law_mixed" = some (.ref (He.ga K "_law_mixed"))) (bl : Blt mg) : Cal P w K mg base 1 "_law_mixed" (sp__law_mixed K) := by
  refine fn_cal F hm sc__law_mixed (fun vs H Q E => by walk_at "len") (fun _ _ _ _ _ _ us hl => match us, hl with | [_, _], _ => rfl) (fun f cdv A outer s H vs Q E hr h => ?_)
  have hu := hu_of hr
  obtain ⟨c, k, rfl, h0, h1, q⟩ := h
  refine ⟨_, (pss_one (ps_ret (pe_op op_mod (pe_op op_add (pe_op op_mul (pv 0) pe_int) (pe_op op_mul (pe_op op_mul pe_int (pe_op op_add (pv 1) pe_int)) (pe_op op_add (pv 1) pe_int))) pe_int))), ?_⟩
  walk_at "st0"
  simp only [RDa, RDb, RDv, RDk, RDx, RDe, RDd, RDp, List.getElem?_cons_zero, List.getElem?_cons_succ, List.set_cons_zero, List.set_cons_succ, List.cons.injEq, List.cons_ne_nil, reduceCtorEq, exists_eq_left', exists_eq_left, exists_and_left, and_assoc, exists_const, true_and, and_true, if_true, if_false, false_and, and_false, exists_false, false_or, or_false, true_implies, false_implies, implies_true, forall_eq, forall_eq', Bool.false_eq_true, if_neg, decide_eq_true_eq, Bool.not_eq_true', decide_eq_false_iff_not, Bool.not_true, Bool.not_false, List.length_cons, List.length_nil, sizeLine_eq, Nat.reduceAdd, Nat.reduceLeDiff, Nat.reduceLT, Int.reduceLT, Int.reduceLE, Int.emod_nonneg, ne_eq, Int.reduceEq, not_false_eq_true]
  refine ⟨.inr ⟨by decide, by decide⟩, .inl ⟨by decide, by decide⟩, .inr ⟨by omega, by omega⟩, q⟩
theorem mixed_pos (c k : Int) : 0 ≤ mixed c k := Int.emod_nonneg _ (by decide)
abbrev s__law_whole : Stmt := top 17
abbrev N__law_whole : List Str := ["_law_thing"]
theorem sc__law_whole : FnScope N__law_whole ["_law_thing"] (defScope s__law_whole) := ⟨rfl, rfl, rfl, by decide +kernel, rfl, by decide +kernel, by decide +kernel⟩
def wholeV (x : V) : Bool := match x with
  | .int _ => true
  | _ => false
def sp__law_whole (K : PySem.W.Frag) : Sp := fun vs H Q _ => ∃ x, vs = [x] ∧ Kn H x ∧ Q (.bl (wholeV x)) H
theorem ok__law_whole {P : Program} {w : World} {K : PySem.W.Frag} {mg : Str → Option Value} {base : Heap} (F : FnP K ("_law_whole", none) "_law_whole" "_law_whole" s__law_whole) (hm : mg "_law_whole" = some (.ref (He.ga K "_law_whole"))) (bl : Blt mg) : Cal P w K mg base 1 "_law_whole" (sp__law_whole K) := by
  refine fn_cal F hm sc__law_whole (fun vs H Q E => by walk_at "len") (fun _ _ _ _ _ _ us hl => match us, hl with | [_], _ => rfl) (fun f cdv A outer s H vs Q E hr h => ?_)
  have hu := hu_of hr
  obtain ⟨x, rfl, hk, q⟩ := h
  refine ⟨_, (pss_one (ps_ret (pe_and (pe_callB call_isC (by rfl) (bl.isi) (by decide +kernel) (pa_cons (pv 0) (pa_cons (pe_bltn (v := .ty "int") (u := .type "int") rfl (bl.int) (by decide +kernel) rfl) pa_nil))) (pe_one (pe_not (pe_callB call_isC (by rfl) (bl.isi) (by decide +kernel) (pa_cons (pv 0) (pa_cons (pe_bltn (v := .ty "bool") (u := .type "bool") rfl (bl.bool) (by decide +kernel) rfl) pa_nil)))))))), ?_⟩
  walk_at "st0"
  simp only [RDa, RDb, RDv, RDk, RDx, RDe, RDd, RDp, List.getElem?_cons_zero, List.getElem?_cons_succ, List.set_cons_zero, List.set_cons_succ, List.cons.injEq, List.cons_ne_nil, reduceCtorEq, exists_eq_left', exists_eq_left, exists_and_left, and_assoc, exists_const, true_and, and_true, if_true, if_false, false_and, and_false, exists_false, false_or, or_false, true_implies, false_implies, implies_true, forall_eq, forall_eq', Bool.false_eq_true, if_neg, decide_eq_true_eq, Bool.not_eq_true', decide_eq_false_iff_not, Bool.not_true, Bool.not_false, List.length_cons, List.length_nil, sizeLine_eq, Nat.reduceAdd, Nat.reduceLeDiff, Nat.reduceLT, Int.reduceLT, Int.reduceLE, Int.emod_nonneg, ne_eq, Int.reduceEq, not_false_eq_true]
  rcases hk.cases with rfl | ⟨b, rfl⟩ | ⟨n, rfl⟩ | ⟨z, rfl⟩ | ⟨a, t, rfl, ht, rfl | rfl | rfl⟩
  · simp only [RDv, RDk, exists_eq_left', if_true, Bool.false_eq_true, if_false]; exact q
  · simp only [RDv, RDk, exists_eq_left', if_true, Bool.false_eq_true, if_false, Bool.not_true]; exact q
  · simp only [RDv, RDk, exists_eq_left', if_true, Bool.false_eq_true, if_false, Bool.not_false]; exact q
  · simp only [RDv, RDk, exists_eq_left', if_true, Bool.false_eq_true, if_false]; exact q
  · simp only [ht, RDv, RDk, exists_eq_left', if_true, Bool.false_eq_true, if_false]; exact q
  · simp only [ht, RDv, RDk, exists_eq_left', if_true, Bool.false_eq_true, if_false]; exact q
  · simp only [ht, RDv, RDk, exists_eq_left', if_true, Bool.false_eq_true, if_false]; exact q
end RP

namespace RP
open PySem PySem.Spec PyProof.Rows L2 L2H
/-- what isinstance says of an error of the class D -/
abbrev KitF (K : PySem.W.Frag) (D : Str) (l : List (Str × Bool)) : Prop := ∀ q ∈ l, PySem.W.kitOne K (.ref (He.ga K D)) (.ref (He.ga K q.1)) = some q.2
abbrev errNames : List Str := ["BadBounds", "BadRing", "BadTexts", "BadStep", "NotNow", "NoLetter", "Safe", "NoLine"]
abbrev s__law_word : Stmt := top 18
abbrev N__law_word : List Str := ["_law_error", "_law_word_here", "_law_is_other"]
theorem sc__law_word : FnScope N__law_word ["_law_error"] (defScope s__law_word) := ⟨rfl, rfl, rfl, by decide +kernel, rfl, by decide +kernel, by decide +kernel⟩
def sp__law_word (K : PySem.W.Frag) (a : Addr) (c : Value) (d : Option Addr) : Sp := fun vs H Q _ => vs = [.ref a] ∧ c = .ref (He.ga K "NotNow") ∧ d = none ∧ ∀ H', Same H H' → Q (.str "now") H'
theorem ok__law_word {P : Program} {w : World} {K : PySem.W.Frag} {mg : Str → Option Value} {base : Heap} (F : FnP K ("_law_word", none) "_law_word" "_law_word" s__law_word) (hm : mg "_law_word" = some (.ref (He.ga K "_law_word"))) (bl : Blt mg) (e_BadBounds : ErrC K mg "BadBounds") (e_BadRing : ErrC K mg "BadRing") (e_BadStep : ErrC K mg "BadStep") (e_BadTexts : ErrC K mg "BadTexts") (e_NoLetter : ErrC K mg "NoLetter") (e_NoLine : ErrC K mg "NoLine") (e_NotNow : ErrC K mg "NotNow") (e_Safe : ErrC K mg "Safe") (hE : ExcC K (He.ga K "NotNow")) (hkf : KitF K "NotNow" (errNames.map fun x => (x, decide (x = "NotNow")))) (hkv : PySem.W.kitOne K (.ref (He.ga K "NotNow")) (.type "ValueError") = some true) : CalE P w K mg base 1 "_law_word" (sp__law_word K) := by
  refine fn_calE F hm sc__law_word (fun _ _ _ vs H Q E => by walk_at "len") (fun _ _ _ _ _ _ us hl => match us, hl with | [_], _ => rfl) (fun f cdv A outer s H vs Q E p c d hot hz hr h => ?_)
  obtain ⟨rfl, rfl, rfl, q⟩ := h
  have hfl : ∃ vs, p.2.data = .fields vs := hot.2.elim fun vs e => ⟨vs, e.1⟩
  have k1 := hkf ("BadBounds", false) (by decide)
  have k2 := hkf ("BadRing", false) (by decide)
  have k3 := hkf ("BadTexts", false) (by decide)
  have k4 := hkf ("BadStep", false) (by decide)
  have k5 := hkf ("NotNow", true) (by decide)
  have k6 := hkf ("NoLetter", false) (by decide)
  have k7 := hkf ("Safe", false) (by decide)
  have k8 := hkf ("NoLine", false) (by decide)
  refine ⟨_, (pss_cons (ps_set (i := 1) sc__law_word.nd rfl (Or.inl rfl) (pe_op op_mul_str pe_str (pe_callTy call_int1 (by rfl) (bl.int) (by decide +kernel) (pa_cons (pe_callB (isE hE (a := p.1) (oe := p.2) List.mem_cons_self hz rfl rfl hfl) (by rfl) (bl.isi) (by decide +kernel) (pa_cons (pv 0) (pa_cons (pe_glob (v := .ref (He.ga K "NotNow")) rfl e_NotNow.g rfl) pa_nil))) pa_nil))))
  (pss_cons (L2H.ps_forH (passes_of rfl) ⟨p, hot, List.mem_cons_self⟩ (pi_listH (pe_lst (pa_cons (pe_callB (isE hE (a := p.1) (oe := p.2) List.mem_cons_self hz rfl rfl hfl) (by rfl) (bl.isi) (by decide +kernel) (pa_cons (pv 0) (pa_cons (pe_glob (v := .ref (He.ga K "BadBounds")) rfl e_BadBounds.g rfl) pa_nil))) (pa_cons (pe_callB (isE hE (a := p.1) (oe := p.2) List.mem_cons_self hz rfl rfl hfl) (by rfl) (bl.isi) (by decide +kernel) (pa_cons (pv 0) (pa_cons (pe_glob (v := .ref (He.ga K "BadRing")) rfl e_BadRing.g rfl) pa_nil))) (pa_cons (pe_callB (isE hE (a := p.1) (oe := p.2) List.mem_cons_self hz rfl rfl hfl) (by rfl) (bl.isi) (by decide +kernel) (pa_cons (pv 0) (pa_cons (pe_glob (v := .ref (He.ga K "BadTexts")) rfl e_BadTexts.g rfl) pa_nil))) pa_nil))))) (pg_name (i := 2) sc__law_word.nd rfl (Or.inl rfl))
  (pss_one (ps_set (i := 1) sc__law_word.nd rfl (Or.inl rfl) (pe_op op_add_str (pv 1) (pe_op op_mul_str pe_str (pe_callTy call_int1 (by rfl) (bl.int) (by decide +kernel) (pa_cons (pv 2) pa_nil)))))))
  (pss_cons (L2H.ps_forH (passes_of rfl) ⟨p, hot, List.mem_cons_self⟩ (pi_listH (pe_lst (pa_cons (pe_callB (isE hE (a := p.1) (oe := p.2) List.mem_cons_self hz rfl rfl hfl) (by rfl) (bl.isi) (by decide +kernel) (pa_cons (pv 0) (pa_cons (pe_glob (v := .ref (He.ga K "BadStep")) rfl e_BadStep.g rfl) pa_nil))) (pa_cons (pe_callB (isE hE (a := p.1) (oe := p.2) List.mem_cons_self hz rfl rfl hfl) (by rfl) (bl.isi) (by decide +kernel) (pa_cons (pv 0) (pa_cons (pe_glob (v := .ref (He.ga K "NoLetter")) rfl e_NoLetter.g rfl) pa_nil))) (pa_cons (pe_callB (isE hE (a := p.1) (oe := p.2) List.mem_cons_self hz rfl rfl hfl) (by rfl) (bl.isi) (by decide +kernel) (pa_cons (pv 0) (pa_cons (pe_glob (v := .ref (He.ga K "Safe")) rfl e_Safe.g rfl) pa_nil))) pa_nil))))) (pg_name (i := 2) sc__law_word.nd rfl (Or.inl rfl))
  (pss_one (ps_set (i := 1) sc__law_word.nd rfl (Or.inl rfl) (pe_op op_add_str (pv 1) (pe_op op_mul_str pe_str (pe_callTy call_int1 (by rfl) (bl.int) (by decide +kernel) (pa_cons (pv 2) pa_nil)))))))
  (pss_one (ps_ret (pe_op op_mul_str (pe_op op_add_str (pv 1) (pe_op op_mul_str pe_str (pe_callTy call_int1 (by rfl) (bl.int) (by decide +kernel) (pa_cons (pe_callB (isE hE (a := p.1) (oe := p.2) List.mem_cons_self hz rfl rfl hfl) (by rfl) (bl.isi) (by decide +kernel) (pa_cons (pv 0) (pa_cons (pe_glob (v := .ref (He.ga K "NoLine")) rfl e_NoLine.g rfl) pa_nil))) pa_nil)))) (pe_callTy call_int1 (by rfl) (bl.int) (by decide +kernel) (pa_cons (pe_callB (isE hE (a := p.1) (oe := p.2) List.mem_cons_self hz rfl rfl hfl) (by rfl) (bl.isi) (by decide +kernel) (pa_cons (pv 0) (pa_cons (pe_bltn (v := .ty "ValueError") (u := .type "ValueError") rfl (bl.ValueError) (by decide +kernel) rfl) pa_nil))) pa_nil)))))))), ?_⟩
  walk_at "st0"
  simp only [RDa, RDb, RDv, RDk, RDx, RDe, RDd, RDp, List.getElem?_cons_zero, List.getElem?_cons_succ, List.set_cons_zero, List.set_cons_succ, List.cons.injEq, List.cons_ne_nil, reduceCtorEq, exists_eq_left', exists_eq_left, exists_and_left, and_assoc, exists_const, true_and, and_true, if_true, if_false, false_and, and_false, exists_false, false_or, or_false, true_implies, false_implies, implies_true, forall_eq, forall_eq', Bool.false_eq_true, if_neg, decide_eq_true_eq, Bool.not_eq_true', decide_eq_false_iff_not, Bool.not_true, Bool.not_false, List.length_cons, List.length_nil, sizeLine_eq, Nat.reduceAdd, Nat.reduceLeDiff, Nat.reduceLT, Int.reduceLT, Int.reduceLE, Int.emod_nonneg, ne_eq, Int.reduceEq, not_false_eq_true, k1, k2, k3, k4, k5, k6, k7, k8, hkv, mul_one, mul_zero, mulOk_one, mulOk_zero, app_empty]
  have hl : ("now" : Str).length + Str.empty.length ≤ 16777216 := by decide +kernel
  refine for_lcut (fun a H2 => Same H H2 ∧ H2 a = some (.lst [.bl false, .bl false, .bl false])) [.bl false, .bl false, .bl false] (fun Z hZ => ?_)
    (fun a i σ H' => (∃ v, σ = [some (.ref p.1), some (.str "now"), v]) ∧ Same H H' ∧ H' a = some (.lst [.bl false, .bl false, .bl false])) ?_ ?_ ?_ ?_
  · simp only [RDa, RDb, RDv, RDk, RDx, RDe, RDd, RDp, List.getElem?_cons_zero, List.getElem?_cons_succ, List.set_cons_zero, List.set_cons_succ, List.cons.injEq, List.cons_ne_nil, reduceCtorEq, exists_eq_left', exists_eq_left, exists_and_left, and_assoc, exists_const, true_and, and_true, if_true, if_false, false_and, and_false, exists_false, false_or, or_false, true_implies, false_implies, implies_true, forall_eq, forall_eq', Bool.false_eq_true, if_neg, decide_eq_true_eq, Bool.not_eq_true', decide_eq_false_iff_not, Bool.not_true, Bool.not_false, List.length_cons, List.length_nil, sizeLine_eq, Nat.reduceAdd, Nat.reduceLeDiff, Nat.reduceLT, Int.reduceLT, Int.reduceLE, Int.emod_nonneg, ne_eq, Int.reduceEq, not_false_eq_true, k1, k2, k3, k4, k5, k6, k7, k8, hkv, mul_one, mul_zero, mulOk_one, mulOk_zero, app_empty]
    exact fun a ha => hZ a _ ⟨same_new ha, upd_same⟩
  · rintro a H1 ⟨h1, h2⟩
    exact ⟨SqL.of h2, ⟨none, rfl⟩, h1, h2⟩
  · rintro a i σ H1 _ ⟨_, _, h2⟩
    exact SqL.of h2
  · rintro a i x σ H1 hx ⟨⟨v, rfl⟩, h1, h2⟩
    rw [bl3 hx]
    simp only [RDa, RDb, RDv, RDk, RDx, RDe, RDd, RDp, List.getElem?_cons_zero, List.getElem?_cons_succ, List.set_cons_zero, List.set_cons_succ, List.cons.injEq, List.cons_ne_nil, reduceCtorEq, exists_eq_left', exists_eq_left, exists_and_left, and_assoc, exists_const, true_and, and_true, if_true, if_false, false_and, and_false, exists_false, false_or, or_false, true_implies, false_implies, implies_true, forall_eq, forall_eq', Bool.false_eq_true, if_neg, decide_eq_true_eq, Bool.not_eq_true', decide_eq_false_iff_not, Bool.not_true, Bool.not_false, List.length_cons, List.length_nil, sizeLine_eq, Nat.reduceAdd, Nat.reduceLeDiff, Nat.reduceLT, Int.reduceLT, Int.reduceLE, Int.emod_nonneg, ne_eq, Int.reduceEq, not_false_eq_true, k1, k2, k3, k4, k5, k6, k7, k8, hkv, mul_one, mul_zero, mulOk_one, mulOk_zero, app_empty]
    exact ⟨hl, ⟨_, rfl⟩, h1, h2⟩
  rintro a1 σ H1 ⟨⟨v, rfl⟩, h1, h2⟩
  simp only [RDa, RDb, RDv, RDk, RDx, RDe, RDd, RDp, List.getElem?_cons_zero, List.getElem?_cons_succ, List.set_cons_zero, List.set_cons_succ, List.cons.injEq, List.cons_ne_nil, reduceCtorEq, exists_eq_left', exists_eq_left, exists_and_left, and_assoc, exists_const, true_and, and_true, if_true, if_false, false_and, and_false, exists_false, false_or, or_false, true_implies, false_implies, implies_true, forall_eq, forall_eq', Bool.false_eq_true, if_neg, decide_eq_true_eq, Bool.not_eq_true', decide_eq_false_iff_not, Bool.not_true, Bool.not_false, List.length_cons, List.length_nil, sizeLine_eq, Nat.reduceAdd, Nat.reduceLeDiff, Nat.reduceLT, Int.reduceLT, Int.reduceLE, Int.emod_nonneg, ne_eq, Int.reduceEq, not_false_eq_true, k1, k2, k3, k4, k5, k6, k7, k8, hkv, mul_one, mul_zero, mulOk_one, mulOk_zero, app_empty]
  refine for_lcut (fun a H2 => Same H H2 ∧ H2 a = some (.lst [.bl false, .bl false, .bl false])) [.bl false, .bl false, .bl false] (fun Z hZ => ?_)
    (fun a i σ H' => (∃ v, σ = [some (.ref p.1), some (.str "now"), v]) ∧ Same H H' ∧ H' a = some (.lst [.bl false, .bl false, .bl false])) ?_ ?_ ?_ ?_
  · simp only [RDa, RDb, RDv, RDk, RDx, RDe, RDd, RDp, List.getElem?_cons_zero, List.getElem?_cons_succ, List.set_cons_zero, List.set_cons_succ, List.cons.injEq, List.cons_ne_nil, reduceCtorEq, exists_eq_left', exists_eq_left, exists_and_left, and_assoc, exists_const, true_and, and_true, if_true, if_false, false_and, and_false, exists_false, false_or, or_false, true_implies, false_implies, implies_true, forall_eq, forall_eq', Bool.false_eq_true, if_neg, decide_eq_true_eq, Bool.not_eq_true', decide_eq_false_iff_not, Bool.not_true, Bool.not_false, List.length_cons, List.length_nil, sizeLine_eq, Nat.reduceAdd, Nat.reduceLeDiff, Nat.reduceLT, Int.reduceLT, Int.reduceLE, Int.emod_nonneg, ne_eq, Int.reduceEq, not_false_eq_true, k1, k2, k3, k4, k5, k6, k7, k8, hkv, mul_one, mul_zero, mulOk_one, mulOk_zero, app_empty]
    exact fun a ha => hZ a _ ⟨h1.trans (same_new ha), upd_same⟩
  · rintro a H2 ⟨h3, h4⟩
    exact ⟨SqL.of h4, ⟨v, rfl⟩, h3, h4⟩
  · rintro a i σ H2 _ ⟨_, _, h4⟩
    exact SqL.of h4
  · rintro a i x σ H2 hx ⟨⟨v, rfl⟩, h3, h4⟩
    rw [bl3 hx]
    simp only [RDa, RDb, RDv, RDk, RDx, RDe, RDd, RDp, List.getElem?_cons_zero, List.getElem?_cons_succ, List.set_cons_zero, List.set_cons_succ, List.cons.injEq, List.cons_ne_nil, reduceCtorEq, exists_eq_left', exists_eq_left, exists_and_left, and_assoc, exists_const, true_and, and_true, if_true, if_false, false_and, and_false, exists_false, false_or, or_false, true_implies, false_implies, implies_true, forall_eq, forall_eq', Bool.false_eq_true, if_neg, decide_eq_true_eq, Bool.not_eq_true', decide_eq_false_iff_not, Bool.not_true, Bool.not_false, List.length_cons, List.length_nil, sizeLine_eq, Nat.reduceAdd, Nat.reduceLeDiff, Nat.reduceLT, Int.reduceLT, Int.reduceLE, Int.emod_nonneg, ne_eq, Int.reduceEq, not_false_eq_true, k1, k2, k3, k4, k5, k6, k7, k8, hkv, mul_one, mul_zero, mulOk_one, mulOk_zero, app_empty]
    exact ⟨hl, ⟨_, rfl⟩, h3, h4⟩
  rintro a2 σ H2 ⟨⟨v, rfl⟩, h3, h4⟩
  simp only [RDa, RDb, RDv, RDk, RDx, RDe, RDd, RDp, List.getElem?_cons_zero, List.getElem?_cons_succ, List.set_cons_zero, List.set_cons_succ, List.cons.injEq, List.cons_ne_nil, reduceCtorEq, exists_eq_left', exists_eq_left, exists_and_left, and_assoc, exists_const, true_and, and_true, if_true, if_false, false_and, and_false, exists_false, false_or, or_false, true_implies, false_implies, implies_true, forall_eq, forall_eq', Bool.false_eq_true, if_neg, decide_eq_true_eq, Bool.not_eq_true', decide_eq_false_iff_not, Bool.not_true, Bool.not_false, List.length_cons, List.length_nil, sizeLine_eq, Nat.reduceAdd, Nat.reduceLeDiff, Nat.reduceLT, Int.reduceLT, Int.reduceLE, Int.emod_nonneg, ne_eq, Int.reduceEq, not_false_eq_true, k1, k2, k3, k4, k5, k6, k7, k8, hkv, mul_one, mul_zero, mulOk_one, mulOk_zero, app_empty]
  exact ⟨hl, q H2 h3⟩
end RP

namespace RP
open PySem PySem.Spec PyProof.Rows L2 L2H
abbrev s__law_said : Stmt := top 19
abbrev N__law_said : List Str := ["_law_sender", "_law_k", "_law_error"]
theorem sc__law_said : FnScope N__law_said ["_law_sender", "_law_k"] (defScope s__law_said) := ⟨rfl, rfl, rfl, by decide +kernel, rfl, by decide +kernel, by decide +kernel⟩
def sp__law_said (K : PySem.W.Frag) : Sp := fun vs H Q E => ∃ p dx w r m b t x, vs = [.ref p, x] ∧ H p = some (.ins (He.ga K "Sender") dx (flSender w r m b t)) ∧ 0 < r ∧ Kn H x ∧
  (amongV x b (mn2 (mn2 t (b + w - 1)) (m - 1)) = true → ∀ k, x = .int k → ∀ (q : Addr) (H1 : Hp), H1 = upd H p (.ins (He.ga K "Sender") dx (flSender w r m b (sTop t k))) → H1 q = none → Q (.ref q) (upd H1 q (.tup [.str "told", .int (k % r)]))) ∧
  (amongV x b (mn2 (mn2 t (b + w - 1)) (m - 1)) = false → ∀ (q : Addr) (H1 : Hp), Same H H1 → H1 q = none → Q (.ref q) (upd H1 q (.tup [.str "refused", .str "now"])))
theorem ok__law_said {P : Program} {w : World} {K : PySem.W.Frag} {mg : Str → Option Value} {base : Heap} (F : FnP K ("_law_said", none) "_law_said" "_law_said" s__law_said) (hm : mg "_law_said" = some (.ref (He.ga K "_law_said"))) (bl : Blt mg) (hSender : SenderF K) (m_Sender_sent : MCal P w K mg base 2 (He.ga K "Sender") "sent" (sp_Sender_sent K)) (c__law_word : CalE P w K mg base 1 "_law_word" (sp__law_word K)) (e_PostError : ErrC K mg "PostError") (hx : PySem.W.exmOne K (.ref (He.ga K "NotNow")) (.ref (He.ga K "PostError")) = some true) : Cal P w K mg base 3 "_law_said" (sp__law_said K) := by
  refine fn_cal F hm sc__law_said (fun vs H Q E => by walk_at "len") (fun _ _ _ _ _ _ us hl => match us, hl with | [_, _], _ => rfl) (fun f cdv A outer s H vs Q E hr h => ?_)
  have hu := hu_of hr
  obtain ⟨p, dx, w', r, m, b, t, x, rfl, hp, hr0, hk, q1, q2⟩ := h
  refine ⟨_, (pss_one (L2N.ps_try_as (i := 2) rfl rfl sc__law_said.nd rfl rfl ⟨rfl, by decide, .inl e_PostError.g⟩ (L2N.takes_of rfl rfl rfl rfl)
  (fun W pn xe tk po => (pss_one (ps_ret (pe_tup (pa_cons pe_str (pa_cons (pe_mth (pv 0) m_Sender_sent (hr.mono (by decide)) tk (pa_cons (pv 1) pa_nil)) pa_nil))))))
  (fun a oe cls d pn hz hf => (pss_one (ps_ret (pe_tup (pa_cons pe_str (pa_cons (by exact (pe_fnE c__law_word (roomS hr (by decide)) ⟨rfl, hf.elim fun vs e => ⟨vs, e, hz.2.2 vs e⟩⟩ hz List.mem_cons_self tkN (pa_cons (pv 2) pa_nil))) pa_nil)))))))), ?_⟩
  walk_at "st0"
  simp only [RDa, RDb, RDv, RDk, RDx, RDe, RDd, RDp, List.getElem?_cons_zero, List.getElem?_cons_succ, List.set_cons_zero, List.set_cons_succ, List.cons.injEq, List.cons_ne_nil, reduceCtorEq, exists_eq_left', exists_eq_left, exists_and_left, and_assoc, exists_const, true_and, and_true, if_true, if_false, false_and, and_false, exists_false, false_or, or_false, true_implies, false_implies, implies_true, forall_eq, forall_eq', Bool.false_eq_true, if_neg, decide_eq_true_eq, Bool.not_eq_true', decide_eq_false_iff_not, Bool.not_true, Bool.not_false, List.length_cons, List.length_nil, sizeLine_eq, Nat.reduceAdd, Nat.reduceLeDiff, Nat.reduceLT, Int.reduceLT, Int.reduceLE, Int.emod_nonneg, ne_eq, Int.reduceEq, not_false_eq_true, hSender, SenderL, hp, upd_same, upd_upd, sp_Sender_sent, hk, hr0, hx]
  refine ⟨fun ha k e q hq => q1 ha k e q _ rfl hq, fun ha a hn => ⟨rfl, rfl, rfl, fun H' hs q hq => q2 ha q H' hs hq⟩⟩
abbrev s__law_span : Stmt := top 20
abbrev N__law_span : List Str := ["_law_sender", "_law_base", "_law_top", "_law_found"]
theorem sc__law_span : FnScope N__law_span ["_law_sender", "_law_base", "_law_top"] (defScope s__law_span) := ⟨rfl, rfl, rfl, by decide +kernel, rfl, by decide +kernel, by decide +kernel⟩
def sp__law_span (K : PySem.W.Frag) : Sp := fun vs H Q E => ∃ p dx w r m b t, vs = [.ref p, .int b, .int t] ∧ H p = some (.ins (He.ga K "Sender") dx (flSender w r m b t)) ∧ ∀ H', Same H H' → Q (.bl true) H'
theorem ok__law_span {P : Program} {w : World} {K : PySem.W.Frag} {mg : Str → Option Value} {base : Heap} (F : FnP K ("_law_span", none) "_law_span" "_law_span" s__law_span) (hm : mg "_law_span" = some (.ref (He.ga K "_law_span"))) (bl : Blt mg) (hSender : SenderF K) (m_Sender_span : MCal P w K mg base 1 (He.ga K "Sender") "span" (sp_Sender_span K)) (c__law_whole : Cal P w K mg base 1 "_law_whole" (sp__law_whole K)) : Cal P w K mg base 2 "_law_span" (sp__law_span K) := by
  refine fn_cal F hm sc__law_span (fun vs H Q E => by walk_at "len") (fun _ _ _ _ _ _ us hl => match us, hl with | [_, _, _], _ => rfl) (fun f cdv A outer s H vs Q E hr h => ?_)
  have hu := hu_of hr
  obtain ⟨p, dx, w', r, m, b, t, rfl, hp, q⟩ := h
  refine ⟨_, (pss_cons (ps_set (i := 3) sc__law_span.nd rfl (Or.inl rfl) (pe_mth0 (pv 0) m_Sender_span (hr.mono (by decide)) (L2N.takes_of rfl rfl rfl rfl)))
  (pss_one (ps_ret (pe_and (pe_callB call_isC (by rfl) (bl.isi) (by decide +kernel) (pa_cons (pv 3) (pa_cons (pe_bltn (v := .ty "tuple") (u := .type "tuple") rfl (bl.tuple) (by decide +kernel) rfl) pa_nil))) (pe_and (pe_cmp (pc_eqT hr.units (pv 3) (pa_cons (pv 1) (pa_cons (pv 2) pa_nil)))) (pe_and (pe_fn c__law_whole (hr.mono (by decide)) (L2N.takes_of rfl rfl rfl rfl) (pa_cons (pe_ix ix_C (pv 3) pe_int (fun _ _ => rfl)) pa_nil)) (pe_one (pe_fn c__law_whole (hr.mono (by decide)) (L2N.takes_of rfl rfl rfl rfl) (pa_cons (pe_ix ix_C (pv 3) pe_int (fun _ _ => rfl)) pa_nil))))))))), ?_⟩
  walk_at "st0"
  simp only [RDa, RDb, RDv, RDk, RDx, RDe, RDd, RDp, List.getElem?_cons_zero, List.getElem?_cons_succ, List.set_cons_zero, List.set_cons_succ, List.cons.injEq, List.cons_ne_nil, reduceCtorEq, exists_eq_left', exists_eq_left, exists_and_left, and_assoc, exists_const, true_and, and_true, if_true, if_false, false_and, and_false, exists_false, false_or, or_false, true_implies, false_implies, implies_true, forall_eq, forall_eq', Bool.false_eq_true, if_neg, decide_eq_true_eq, Bool.not_eq_true', decide_eq_false_iff_not, Bool.not_true, Bool.not_false, List.length_cons, List.length_nil, sizeLine_eq, Nat.reduceAdd, Nat.reduceLeDiff, Nat.reduceLT, Int.reduceLT, Int.reduceLE, Int.emod_nonneg, ne_eq, Int.reduceEq, not_false_eq_true, hSender, SenderL, hp, upd_same, upd_upd, sp_Sender_span, sp__law_whole]
  intro q1 n_q1
  generalize e_H1 : upd H q1 (.tup [.int b, .int t]) = H1
  have a_H1 : H1 q1 = some (.tup [.int b, .int t]) := by rw [← e_H1]; exact upd_same
  have s_H1 : Same H H1 := by rw [← e_H1]; exact same_new n_q1
  simp only [RDa, RDb, RDv, RDk, RDx, RDe, RDd, RDp, List.getElem?_cons_zero, List.getElem?_cons_succ, List.set_cons_zero, List.set_cons_succ, List.cons.injEq, List.cons_ne_nil, reduceCtorEq, exists_eq_left', exists_eq_left, exists_and_left, and_assoc, exists_const, true_and, and_true, if_true, if_false, false_and, and_false, exists_false, false_or, or_false, true_implies, false_implies, implies_true, forall_eq, forall_eq', Bool.false_eq_true, if_neg, decide_eq_true_eq, Bool.not_eq_true', decide_eq_false_iff_not, Bool.not_true, Bool.not_false, List.length_cons, List.length_nil, sizeLine_eq, Nat.reduceAdd, Nat.reduceLeDiff, Nat.reduceLT, Int.reduceLT, Int.reduceLE, Int.emod_nonneg, ne_eq, Int.reduceEq, not_false_eq_true, tyN_tup a_H1]
  have sh : SeqAt.shaped (.tuple [.int b, .int t]) = true := rfl
  have k1 : ∀ n, Kn H1 (.int n) := fun _ => rfl
  simp only [RDa, RDb, RDv, RDk, RDx, RDe, RDd, RDp, List.getElem?_cons_zero, List.getElem?_cons_succ, List.set_cons_zero, List.set_cons_succ, List.cons.injEq, List.cons_ne_nil, reduceCtorEq, exists_eq_left', exists_eq_left, exists_and_left, and_assoc, exists_const, true_and, and_true, if_true, if_false, false_and, and_false, exists_false, false_or, or_false, true_implies, false_implies, implies_true, forall_eq, forall_eq', Bool.false_eq_true, if_neg, decide_eq_true_eq, Bool.not_eq_true', decide_eq_false_iff_not, Bool.not_true, Bool.not_false, List.length_cons, List.length_nil, sizeLine_eq, Nat.reduceAdd, Nat.reduceLeDiff, Nat.reduceLT, Int.reduceLT, Int.reduceLE, Int.emod_nonneg, ne_eq, Int.reduceEq, not_false_eq_true, dat_tup a_H1, seqO_tup a_H1, sh, eqv_self, PyData.canLay0, PyData.canLayAll0, k1, wholeV, Bool.and_self]
  exact q _ s_H1
end RP

namespace RP
open PySem PySem.Spec PyProof.Rows L2 L2H
abbrev s_law : Stmt := top 21
abbrev N_law : List Str := ["_law_script", "_law_one", "_law_window", "_law_ring", "_law_many", "_law_sender", "_law_other", "_law_base", "_law_top", "_law_cell", "_law_more", "_law_some", "_law_k", "_law_found", "_law_number", "_law_step", "_law_odd"]
theorem sc_law : FnScope N_law ["_law_script"] (defScope s_law) := ⟨rfl, rfl, rfl, by decide +kernel, rfl, by decide +kernel, by decide +kernel⟩
structure K02 (K : PySem.W.Frag) (H0 H : Hp) (p o : Addr) (w r m b t : Int) : Prop where
  s : Same H0 H
  ne : o ≠ p
  hp : ∃ dx, H p = some (.ins (He.ga K "Sender") dx (flSender w r m b t))
  ho : ∃ dx, H o = some (.ins (He.ga K "Sender") dx (flSender w r m 0 0))
  np : H0 p = none
  no : H0 o = none
theorem K02.mono {K : PySem.W.Frag} {H0 H H1 : Hp} {p o : Addr} {w r m b t : Int} (h : K02 K H0 H p o w r m b t) (s : Same H H1) : K02 K H0 H1 p o w r m b t :=
  ⟨h.s.trans s, h.ne, h.hp.elim fun _ e => ⟨_, s _ _ e⟩, h.ho.elim fun _ e => ⟨_, s _ _ e⟩, h.np, h.no⟩
theorem K02.put {K : PySem.W.Frag} {H0 H H1 : Hp} {p o dx : Addr} {w r m b t b' t' : Int} (h : K02 K H0 H p o w r m b t) (e : H1 = upd H p (.ins (He.ga K "Sender") dx (flSender w r m b' t'))) : K02 K H0 H1 p o w r m b' t' := by
  subst e
  refine ⟨fun c u e => ?_, h.ne, ⟨dx, upd_same⟩, h.ho.elim fun d e => ⟨d, by rw [upd_ne h.ne]; exact e⟩, h.np, h.no⟩
  rw [upd_ne (ne_of_none e h.np)]
  exact h.s _ _ e
theorem among_in {k b t w m : Int} : amongV (.int k) b (mn2 (mn2 t (b + w - 1)) (m - 1)) = decide (b ≤ k ∧ k ≤ t ∧ k < b + w ∧ k < m) := by
  unfold amongV mn2
  dsimp only
  rw [Bool.eq_iff_iff]
  simp only [Bool.and_eq_true, decide_eq_true_eq]
  constructor
  · rintro ⟨h1, h2⟩
    repeat' split at h2
    all_goals omega
  · intro h
    repeat' split
    all_goals omega
def sp_law (K : PySem.W.Frag) : Sp := fun vs H Q E => ∃ (a : Addr) (ns : List Int), vs = [.ref a] ∧ SqL K H a (ns.map V.int) ∧ ∀ H', Q (.bl true) H'
theorem ok_law {P : Program} {w : World} {K : PySem.W.Frag} {mg : Str → Option Value} {base : Heap} {f0 : Addr} {fd : FuncData} (F : FunD K "law" "law" (defArgs s_law) (defBody s_law) (defScope s_law) [] [] f0 fd) (bl : Blt mg) (hSender : SenderF K) (m_Sender_heard : MCal P w K mg base 1 (He.ga K "Sender") "heard" (sp_Sender_heard K)) (c_Sender : KCal P w K mg base 1 "Sender" (He.ga K "Sender") (sp_Sender_init K)) (c__law_at : ∀ (a : Addr) (ns : List Int), Cal P w K mg base 1 "_law_at" (sp__law_at K a ns)) (c__law_mixed : Cal P w K mg base 1 "_law_mixed" (sp__law_mixed K)) (c__law_said : Cal P w K mg base 3 "_law_said" (sp__law_said K)) (c__law_span : Cal P w K mg base 2 "_law_span" (sp__law_span K)) (c__law_whole : Cal P w K mg base 1 "_law_whole" (sp__law_whole K)) : FnOk P w K mg base (L2N.CX P w) 4 f0 fd ["_law_script"] (sp_law K) := by
  refine fn_law F sc_law (fun vs H Q E => by walk_at "len") (fun f cdv A outer s H vs Q E hr h => ?_)
  have hu := hu_of hr
  obtain ⟨a, ns, rfl, hS, q⟩ := h
  refine ⟨_, (pss_cons (ps_set (i := 1) sc_law.nd rfl (Or.inl rfl) (pe_fn c__law_mixed (hr.mono (by decide)) (L2N.takes_of rfl rfl rfl rfl) (pa_cons (pe_fn (c__law_at a ns) (hr.mono (by decide)) (L2N.takes_of rfl rfl rfl rfl) (pa_cons (pv 0) (pa_cons pe_int pa_nil))) (pa_cons pe_int pa_nil))))
  (pss_cons (ps_set (i := 2) sc_law.nd rfl (Or.inl rfl) (pe_op op_add pe_int (pe_op op_mod (pv 1) (pe_pick (pa_cons pe_int (pa_cons pe_int pa_nil)) (pe_op op_mod (pe_op op_fdiv (pv 1) pe_int) pe_int) (fun _ _ => rfl)))))
  (pss_cons (ps_set (i := 3) sc_law.nd rfl (Or.inl rfl) (pe_op op_add pe_int (pe_op op_mod (pe_fn c__law_mixed (hr.mono (by decide)) (L2N.takes_of rfl rfl rfl rfl) (pa_cons (pe_fn (c__law_at a ns) (hr.mono (by decide)) (L2N.takes_of rfl rfl rfl rfl) (pa_cons (pv 0) (pa_cons pe_int pa_nil))) (pa_cons pe_int pa_nil))) (pe_pick (pa_cons (pe_op op_add (pv 2) pe_int) (pa_cons pe_int pa_nil)) (pe_op op_mod (pe_op op_fdiv (pv 1) pe_int) pe_int) (fun _ _ => rfl)))))
  (pss_cons (ps_set (i := 4) sc_law.nd rfl (Or.inl rfl) (pe_op op_mod (pe_fn c__law_mixed (hr.mono (by decide)) (L2N.takes_of rfl rfl rfl rfl) (pa_cons (pe_fn (c__law_at a ns) (hr.mono (by decide)) (L2N.takes_of rfl rfl rfl rfl) (pa_cons (pv 0) (pa_cons pe_int pa_nil))) (pa_cons pe_int pa_nil))) pe_int))
  (pss_cons (ps_set (i := 5) sc_law.nd rfl (Or.inl rfl) (pe_mk c_Sender (hr.mono (by decide)) (L2N.takes_of rfl rfl rfl rfl) (pa_cons (pv 2) (pa_cons (pv 3) (pa_cons (pv 4) pa_nil)))))
  (pss_cons (ps_set (i := 6) sc_law.nd rfl (Or.inl rfl) (pe_mk c_Sender (hr.mono (by decide)) (L2N.takes_of rfl rfl rfl rfl) (pa_cons (pv 2) (pa_cons (pv 3) (pa_cons (pv 4) pa_nil)))))
  (pss_cons (ps_set (i := 7) sc_law.nd rfl (Or.inl rfl) pe_int)
  (pss_cons (ps_set (i := 8) sc_law.nd rfl (Or.inl rfl) pe_int)
  (pss_cons (ps_if (pt_not (pt_val (pe_fn c__law_span (hr.mono (by decide)) (L2N.takes_of rfl rfl rfl rfl) (pa_cons (pv 5) (pa_cons pe_int (pa_cons pe_int pa_nil))))))
  (pss_one (ps_ret pe_bl))
  pss_nil)
  (pss_cons (ps_for (passes_of rfl) rfl (pi_list (pe_slice sl_list (pv 0) (po_some pe_int) (po_some pe_int))) (pg_name (i := 9) sc_law.nd rfl (Or.inl rfl))
  (pss_cons (ps_set (i := 10) sc_law.nd rfl (Or.inl rfl) (pe_op op_fdiv (pv 9) pe_int))
  (pss_cons (ps_if (pt_cmpR op_lt (pe_op op_mod (pv 9) pe_int) pe_int (nomark _))
  (pss_cons (ps_set (i := 11) sc_law.nd rfl (Or.inl rfl) (pe_lst (pa_cons (pv 8) (pa_cons (pe_op op_add (pv 7) (pe_op op_mod (pe_op op_fdiv (pv 10) pe_int) (pv 2))) (pa_cons (pe_op op_sub (pv 7) pe_int) (pa_cons (pe_op op_add (pv 7) (pv 2)) (pa_cons (pe_op op_add (pv 8) pe_int) (pa_cons (pv 4) pa_nil))))))))
  (pss_cons (ps_set (i := 12) sc_law.nd rfl (Or.inl rfl) (pe_ix ix_C (pv 11) (pe_pick (pa_cons pe_int (pa_cons pe_int (pa_cons pe_int (pa_cons pe_int (pa_cons pe_int (pa_cons pe_int (pa_cons pe_int (pa_cons pe_int pa_nil)))))))) (pe_op op_mod (pv 10) pe_int) (fun _ _ => rfl)) (fun _ _ => rfl)))
  (pss_one (ps_if (PW.pt (pw_and (pt_chain op_le op_le (pv 7) (pv 12) (pv 8)) (pw_and (pt_cmpR op_lt (pv 12) (pe_op op_add (pv 7) (pv 2)) (nomark _)) (pw_and1 (pt_cmpR op_lt (pv 12) (pv 4) (nomark _))))))
  (pss_cons (ps_set (i := 13) sc_law.nd rfl (Or.inl rfl) (pe_fn c__law_said (hr.mono (by decide)) (L2N.takes_of rfl rfl rfl rfl) (pa_cons (pv 5) (pa_cons (pv 12) pa_nil))))
  (pss_cons (ps_if (PW.pt (pw_or (pt_cmp (pc_neT hr.units (pv 13) (pa_cons pe_str (pa_cons (pe_op op_mod (pv 12) (pv 3)) pa_nil)))) (pw_or1 (pt_not (pt_val (pe_fn c__law_whole (hr.mono (by decide)) (L2N.takes_of rfl rfl rfl rfl) (pa_cons (pe_ix ix_C (pv 13) pe_int (fun _ _ => rfl)) pa_nil)))))))
  (pss_one (ps_ret pe_bl))
  pss_nil)
  (pss_one (ps_set (i := 8) sc_law.nd rfl (Or.inl rfl) (pe_callB (call_max2 rfl) (by rfl) (bl.max) (by decide +kernel) (pa_cons (pv 8) (pa_cons (pe_op op_add (pv 12) pe_int) pa_nil)))))))
  (pss_one (ps_if (pt_cmp (pc_neT hr.units (pe_fn c__law_said (hr.mono (by decide)) (L2N.takes_of rfl rfl rfl rfl) (pa_cons (pv 5) (pa_cons (pv 12) pa_nil))) (pa_cons pe_str (pa_cons pe_str pa_nil))))
  (pss_one (ps_ret pe_bl))
  pss_nil))))))
  (pss_cons (ps_set (i := 14) sc_law.nd rfl (Or.inl rfl) (pe_pick (pa_cons (pe_op op_mod (pv 10) (pv 3)) (pa_cons (pe_op op_mod (pe_op op_add (pv 7) (pe_op op_mod (pe_op op_fdiv (pv 10) pe_int) (pe_op op_add (pe_op op_sub (pv 8) (pv 7)) pe_int))) (pv 3)) pa_nil)) (pe_op op_mod (pe_op op_fdiv (pe_op op_mod (pv 10) pe_int) pe_int) pe_int) (fun _ _ => rfl)))
  (pss_cons (ps_set (i := 15) sc_law.nd rfl (Or.inl rfl) (pe_op op_mod (pe_op op_sub (pv 14) (pv 7)) (pv 3)))
  (pss_cons (ps_if (pt_cmpR op_notN (pe_mth (pv 5) m_Sender_heard (hr.mono (by decide)) (L2N.takes_of rfl rfl rfl rfl) (pa_cons (pv 14) pa_nil)) pe_non (nomark _))
  (pss_one (ps_ret pe_bl))
  pss_nil)
  (pss_one (ps_if (pt_cmpR op_le (pe_op op_add (pv 7) (pv 15)) (pv 8) (nomark _))
  (pss_one (ps_set (i := 7) sc_law.nd rfl (Or.inl rfl) (pe_op op_add (pv 7) (pv 15))))
  pss_nil))))))
  (pss_one (ps_if (PW.pt (pw_and (pt_cmpR op_gt (pe_op op_mod (pe_op op_fdiv (pv 9) pe_int) pe_int) pe_int (nomark _)) (pw_and1 (pt_not (pt_val (pe_fn c__law_span (hr.mono (by decide)) (L2N.takes_of rfl rfl rfl rfl) (pa_cons (pv 5) (pa_cons (pv 7) (pa_cons (pv 8) pa_nil)))))))))
  (pss_one (ps_ret pe_bl))
  pss_nil)))))
  (pss_cons (ps_set (i := 16) sc_law.nd rfl (Or.inl rfl) (pe_pick (pa_cons pe_non (pa_cons pe_bl (pa_cons pe_str (pa_cons (pe_lst (pa_cons (pv 7) pa_nil)) (pa_cons (pe_tup (pa_cons (pv 7) pa_nil)) (pa_cons (pe_un un_neg pe_int) (pa_cons pe_bl (pa_cons (pe_op op_add (pv 7) (pe_op op_pow pe_int pe_int)) pa_nil)))))))) (pe_op op_mod (pe_fn (c__law_at a ns) (hr.mono (by decide)) (L2N.takes_of rfl rfl rfl rfl) (pa_cons (pv 0) (pa_cons pe_int pa_nil))) pe_int) (fun _ _ => rfl)))
  (pss_cons (ps_if (PW.pt (pw_or (pt_cmp (pc_neT hr.units (pe_fn c__law_said (hr.mono (by decide)) (L2N.takes_of rfl rfl rfl rfl) (pa_cons (pv 5) (pa_cons (pv 16) pa_nil))) (pa_cons pe_str (pa_cons pe_str pa_nil)))) (pw_or1 (pt_not (pt_val (pe_fn c__law_span (hr.mono (by decide)) (L2N.takes_of rfl rfl rfl rfl) (pa_cons (pv 5) (pa_cons (pv 7) (pa_cons (pv 8) pa_nil)))))))))
  (pss_one (ps_ret pe_bl))
  pss_nil)
  (pss_one (ps_ret (pe_fn c__law_span (hr.mono (by decide)) (L2N.takes_of rfl rfl rfl rfl) (pa_cons (pv 6) (pa_cons pe_int (pa_cons pe_int pa_nil)))))))))))))))))), ?_⟩
  walk_at "st0"
  simp only [RDa, RDb, RDv, RDk, RDx, RDe, RDd, RDp, List.getElem?_cons_zero, List.getElem?_cons_succ, List.set_cons_zero, List.set_cons_succ, List.cons.injEq, List.cons_ne_nil, reduceCtorEq, exists_eq_left', exists_eq_left, exists_and_left, and_assoc, exists_const, true_and, and_true, if_true, if_false, false_and, and_false, exists_false, false_or, or_false, true_implies, false_implies, implies_true, forall_eq, forall_eq', Bool.false_eq_true, if_neg, decide_eq_true_eq, Bool.not_eq_true', decide_eq_false_iff_not, Bool.not_true, Bool.not_false, List.length_cons, List.length_nil, sizeLine_eq, Nat.reduceAdd, Nat.reduceLeDiff, Nat.reduceLT, Int.reduceLT, Int.reduceLE, Int.emod_nonneg, ne_eq, Int.reduceEq, not_false_eq_true, hSender, hS, sp__law_at, sp__law_mixed, sp_Sender_init]
  have hi : 0 ≤ mixed (cell ns 0) 0 / 20 % 2 ∧ mixed (cell ns 0) 0 / 20 % 2 < 2 := by omega
  refine ⟨_, pick2 hi.1 hi.2, if mixed (cell ns 0) 0 / 20 % 2 = 0 then 4 else 20, by split <;> rfl, by split <;> omega, ?_⟩
  generalize ew : 1 + mixed (cell ns 0) 0 % (if mixed (cell ns 0) 0 / 20 % 2 = 0 then 4 else 20) = w'
  have hw : 1 ≤ w' ∧ w' ≤ 20 := by split at ew <;> omega
  have hi : 0 ≤ mixed (cell ns 0) 0 / 40 % 2 ∧ mixed (cell ns 0) 0 / 40 % 2 < 2 := by omega
  refine ⟨_, pick2 hi.1 hi.2, if mixed (cell ns 0) 0 / 40 % 2 = 0 then w' + 4 else 45, by split <;> rfl, by split <;> omega, ?_⟩
  generalize er : 1 + mixed (cell ns 1) 1 % (if mixed (cell ns 0) 0 / 40 % 2 = 0 then w' + 4 else 45) = r
  have hr1 : 1 ≤ r ∧ r ≤ 45 := by
    have z1 := md_rng (n := w' + 4) (mixed (cell ns 1) 1) (by omega)
    split at er <;> omega
  generalize em : mixed (cell ns 2) 2 % 31 = m
  have hm1 : 0 ≤ m ∧ m ≤ 30 := by omega
  intro p dx n1 n2 n3
  refine ⟨_, upd_same, fun o dx2 => ?_⟩
  simp only [RDa, RDb, RDv, RDk, RDx, RDe, RDd, RDp, List.getElem?_cons_zero, List.getElem?_cons_succ, List.set_cons_zero, List.set_cons_succ, List.cons.injEq, List.cons_ne_nil, reduceCtorEq, exists_eq_left', exists_eq_left, exists_and_left, and_assoc, exists_const, true_and, and_true, if_true, if_false, false_and, and_false, exists_false, false_or, or_false, true_implies, false_implies, implies_true, forall_eq, forall_eq', Bool.false_eq_true, if_neg, decide_eq_true_eq, Bool.not_eq_true', decide_eq_false_iff_not, Bool.not_true, Bool.not_false, List.length_cons, List.length_nil, sizeLine_eq, Nat.reduceAdd, Nat.reduceLeDiff, Nat.reduceLT, Int.reduceLT, Int.reduceLE, Int.emod_nonneg, ne_eq, Int.reduceEq, not_false_eq_true, hSender, upd_upd]
  intro n4 n5 n6
  have np : o ≠ p := fun e => by rw [e, upd_same] at n4; cases n4
  refine ⟨_, upd_same, ?_⟩
  generalize eH : upd _ o (.ins (He.ga K "Sender") _ (flSender w' r m 0 0)) = H2
  have k0 : K02 K H H2 p o w' r m 0 0 := by
    have ndx : dx2 ≠ p := fun e => by rw [e, upd_same] at n5; cases n5
    have nHo : H o = none := by
      rw [upd_ne np] at n4
      by_cases e : o = dx
      · rw [e, upd_same] at n4; cases n4
      · rw [upd_ne e] at n4; exact n4
    subst eH
    refine ⟨fun c u e => ?_, np, ⟨dx, ?_⟩, ⟨_, upd_same⟩, n1, nHo⟩
    · have e1 : c ≠ p := ne_of_none e n1
      have e2 : c ≠ dx := ne_of_none e n2
      have e3 : c ≠ o := ne_of_none e nHo
      have e4 : c ≠ dx2 := fun z => by
        rw [← z, upd_ne e1, upd_ne e2, e] at n5
        cases n5
      rw [upd_ne e3, upd_ne e4, upd_ne e1, upd_ne e2, e]
    · rw [upd_ne (Ne.symm np), upd_ne (Ne.symm ndx), upd_same]
  clear eH n4 n5 n6 n3 n2
  obtain ⟨d, hp⟩ := k0.hp
  refine ⟨p, d, w', r, m, 0, 0, rfl, hp, fun H3 s3 => ⟨_, rfl, ?_⟩⟩
  rw [if_neg (by decide)]
  have k1 := k0.mono s3
  refine for_lcut (fun la H4 => Same H3 H4 ∧ H4 la = some (.lst (cutV (ns.map V.int) (some 3) (some 43)))) (cutV (ns.map V.int) (some 3) (some 43)) (fun Z hZ => ?_)
    (fun la i σ H' => (∃ b t u9 u10 u11 u12 u13 u14 u15 u16, σ = [some (.ref a), some (.int (mixed (cell ns 0) 0)), some (.int w'), some (.int r), some (.int m), some (.ref p), some (.ref o), some (.int b), some (.int t), u9, u10, u11, u12, u13, u14, u15, u16] ∧
      K02 K H H' p o w' r m b t ∧ 0 ≤ b ∧ b ≤ t ∧ t ≤ m) ∧ H' la = some (.lst (cutV (ns.map V.int) (some 3) (some 43)))) ?_ ?_ ?_ ?_
  · simp only [RDa, RDb, RDv, RDk, RDx, RDe, RDd, RDp, List.getElem?_cons_zero, List.getElem?_cons_succ, List.set_cons_zero, List.set_cons_succ, List.cons.injEq, List.cons_ne_nil, reduceCtorEq, exists_eq_left', exists_eq_left, exists_and_left, and_assoc, exists_const, true_and, and_true, if_true, if_false, false_and, and_false, exists_false, false_or, or_false, true_implies, false_implies, implies_true, forall_eq, forall_eq', Bool.false_eq_true, if_neg, decide_eq_true_eq, Bool.not_eq_true', decide_eq_false_iff_not, Bool.not_true, Bool.not_false, List.length_cons, List.length_nil, sizeLine_eq, Nat.reduceAdd, Nat.reduceLeDiff, Nat.reduceLT, Int.reduceLT, Int.reduceLE, Int.emod_nonneg, ne_eq, Int.reduceEq, not_false_eq_true, hS]
    exact ⟨a, _, rfl, k1.s.seq hS, fun l nl => hZ _ _ ⟨same_new nl, upd_same⟩⟩
  · rintro la H4 ⟨s4, h4⟩
    exact ⟨SqL.of h4, ⟨_, _, _, _, _, _, _, _, _, _, rfl, k1.mono s4, by omega, by omega, hm1.1⟩, h4⟩
  · rintro la i σ H4 _ ⟨_, h4⟩
    exact SqL.of h4
  · rintro la i x σ H4 hx ⟨⟨b, t, u9, u10, u11, u12, u13, u14, u15, u16, rfl, k4, hb, ht, htm⟩, h4⟩
    obtain ⟨c, rfl⟩ := cut_int hx
    refine seq_gen fun N_m h_m => ?_
    simp only [RDa, RDb, RDv, RDk, RDx, RDe, RDd, RDp, List.getElem?_cons_zero, List.getElem?_cons_succ, List.set_cons_zero, List.set_cons_succ, List.cons.injEq, List.cons_ne_nil, reduceCtorEq, exists_eq_left', exists_eq_left, exists_and_left, and_assoc, exists_const, true_and, and_true, if_true, if_false, false_and, and_false, exists_false, false_or, or_false, true_implies, false_implies, implies_true, forall_eq, forall_eq', Bool.false_eq_true, if_neg, decide_eq_true_eq, Bool.not_eq_true', decide_eq_false_iff_not, Bool.not_true, Bool.not_false, List.length_cons, List.length_nil, sizeLine_eq, Nat.reduceAdd, Nat.reduceLeDiff, Nat.reduceLT, Int.reduceLT, Int.reduceLE, Int.emod_nonneg, ne_eq, Int.reduceEq, not_false_eq_true]
    refine h_m _ _ ?_
    refine seq_gen fun N_i h_i => ?_
    simp only [RDa, RDb, RDv, RDk, RDx, RDe, RDd, RDp, List.getElem?_cons_zero, List.getElem?_cons_succ, List.set_cons_zero, List.set_cons_succ, List.cons.injEq, List.cons_ne_nil, reduceCtorEq, exists_eq_left', exists_eq_left, exists_and_left, and_assoc, exists_const, true_and, and_true, if_true, if_false, false_and, and_false, exists_false, false_or, or_false, true_implies, false_implies, implies_true, forall_eq, forall_eq', Bool.false_eq_true, if_neg, decide_eq_true_eq, Bool.not_eq_true', decide_eq_false_iff_not, Bool.not_true, Bool.not_false, List.length_cons, List.length_nil, sizeLine_eq, Nat.reduceAdd, Nat.reduceLeDiff, Nat.reduceLT, Int.reduceLT, Int.reduceLE, Int.emod_nonneg, ne_eq, Int.reduceEq, not_false_eq_true, hSender, h4]
    have hN : ∀ (b t : Int) (u11 u12 u13 u14 u15 u16 : Option V) (H6 : Hp), K02 K H H6 p o w' r m b t → 0 ≤ b → b ≤ t → t ≤ m → H6 la = some (.lst (cutV (ns.map V.int) (some 3) (some 43))) →
        N_i [some (.ref a), some (.int (mixed (cell ns 0) 0)), some (.int w'), some (.int r), some (.int m), some (.ref p), some (.ref o), some (.int b), some (.int t), some (.int c), some (.int (c / 3)), u11, u12, u13, u14, u15, u16] H6 := by
      clear h_m k4 hb ht htm h4
      intro b t u11 u12 u13 u14 u15 u16 H6 k6 hb ht htm l6
      refine h_i _ _ ?_
      simp only [RDa, RDb, RDv, RDk, RDx, RDe, RDd, RDp, List.getElem?_cons_zero, List.getElem?_cons_succ, List.set_cons_zero, List.set_cons_succ, List.cons.injEq, List.cons_ne_nil, reduceCtorEq, exists_eq_left', exists_eq_left, exists_and_left, and_assoc, exists_const, true_and, and_true, if_true, if_false, false_and, and_false, exists_false, false_or, or_false, true_implies, false_implies, implies_true, forall_eq, forall_eq', Bool.false_eq_true, if_neg, decide_eq_true_eq, Bool.not_eq_true', decide_eq_false_iff_not, Bool.not_true, Bool.not_false, List.length_cons, List.length_nil, sizeLine_eq, Nat.reduceAdd, Nat.reduceLeDiff, Nat.reduceLT, Int.reduceLT, Int.reduceLE, Int.emod_nonneg, ne_eq, Int.reduceEq, not_false_eq_true]
      by_cases h9 : 0 < c / 24 % 3
      · rw [if_pos h9]
        obtain ⟨d6, p6⟩ := k6.hp
        exact ⟨p, d6, w', r, m, b, t, rfl, p6, fun H7 s7 => ⟨_, rfl, by rw [if_neg (by decide)]; exact ⟨k6.mono s7, hb, ht, htm, s7 _ _ l6⟩⟩⟩
      · rw [if_neg h9]
        exact ⟨k6, hb, ht, htm, l6⟩
    by_cases h3 : c % 3 < 2
    · rw [if_pos h3]
      refine ⟨by omega, ?_⟩
      intro l n_l
      generalize e_H5 : upd H4 l (.lst [.int t, .int (b + c / 3 / 4 % w'), .int (b - 1), .int (b + w'), .int (t + 1), .int m]) = H5
      have a_H5 : H5 l = some (.lst [.int t, .int (b + c / 3 / 4 % w'), .int (b - 1), .int (b + w'), .int (t + 1), .int m]) := by rw [← e_H5]; exact upd_same
      have s_H5 : Same H4 H5 := by rw [← e_H5]; exact same_new n_l
      refine ⟨_, atInt (xs := [0, 0, 1, 1, 2, 3, 4, 5]) (by omega) (by show _ < (8 : Int); omega), ?_⟩
      have hj : 0 ≤ [(0 : Int), 0, 1, 1, 2, 3, 4, 5].getD (c / 3 % 8).toNat 0 ∧ [(0 : Int), 0, 1, 1, 2, 3, 4, 5].getD (c / 3 % 8).toNat 0 < 6 := getD_all (p := fun x : Int => 0 ≤ x ∧ x < 6) (by decide) (by decide) _
      generalize [(0 : Int), 0, 1, 1, 2, 3, 4, 5].getD (c / 3 % 8).toNat 0 = j at hj
      have k5 : K02 K H H5 p o w' r m b t := k4.mono s_H5
      have l5 : H5 la = some (.lst (cutV (ns.map V.int) (some 3) (some 43))) := s_H5 _ _ h4
      refine ⟨_, _, rfl, seqO_lst a_H5, _, atInt (xs := [t, b + c / 3 / 4 % w', b - 1, b + w', t + 1, m]) hj.1 hj.2, ?_⟩
      generalize [t, b + c / 3 / 4 % w', b - 1, b + w', t + 1, m].getD j.toNat 0 = k
      simp only [RDa, RDb, RDv, RDk, RDx, RDe, RDd, RDp, List.getElem?_cons_zero, List.getElem?_cons_succ, List.set_cons_zero, List.set_cons_succ, List.cons.injEq, List.cons_ne_nil, reduceCtorEq, exists_eq_left', exists_eq_left, exists_and_left, and_assoc, exists_const, true_and, and_true, if_true, if_false, false_and, and_false, exists_false, false_or, or_false, true_implies, false_implies, implies_true, forall_eq, forall_eq', Bool.false_eq_true, if_neg, decide_eq_true_eq, Bool.not_eq_true', decide_eq_false_iff_not, Bool.not_true, Bool.not_false, List.length_cons, List.length_nil, sizeLine_eq, Nat.reduceAdd, Nat.reduceLeDiff, Nat.reduceLT, Int.reduceLT, Int.reduceLE, Int.emod_nonneg, ne_eq, Int.reduceEq, not_false_eq_true, ite_merge]
      obtain ⟨d5, p5⟩ := k5.hp
      by_cases hin : b ≤ k ∧ k ≤ t ∧ k < b + w' ∧ k < m
      · rw [if_pos hin]
        have ha : amongV (.int k) b (mn2 (mn2 t (b + w' - 1)) (m - 1)) = true := by rw [among_in]; exact decide_eq_true hin
        refine ⟨p, d5, w', r, m, b, t, _, rfl, p5, by omega, rfl, ?_, fun e => by rw [e] at ha; cases ha⟩
        rintro _ k' e' q1 H6 e6 n6
        cases e'
        have k6 : K02 K H H6 p o w' r m b (sTop t k) := k5.put e6
        generalize e7 : upd H6 q1 (.tup [.str "told", .int (k % r)]) = H7
        have a7 : H7 q1 = some (.tup [.str "told", .int (k % r)]) := by rw [← e7]; exact upd_same
        have s7 : Same H6 H7 := by rw [← e7]; exact same_new n6
        have so : PyData.strOk "told" = true := by decide +kernel
        have sh : SeqAt.shaped (.tuple [.str "told", .int (k % r)]) = true := by simp [SeqAt.shaped, PyData.canLay0, PyData.canLayAll0, PyData.depth, PyData.depthAll, so]
        have l7 : H7 la = some (.lst (cutV (ns.map V.int) (some 3) (some 43))) := s7 _ _ (by rw [e6, upd_ne (fun e => by rw [e, p5] at l5; cases l5)]; exact l5)
        have kn : ∀ n, Kn H7 (.int n) := fun _ => rfl
        simp only [RDa, RDb, RDv, RDk, RDx, RDe, RDd, RDp, List.getElem?_cons_zero, List.getElem?_cons_succ, List.set_cons_zero, List.set_cons_succ, List.cons.injEq, List.cons_ne_nil, reduceCtorEq, exists_eq_left', exists_eq_left, exists_and_left, and_assoc, exists_const, true_and, and_true, if_true, if_false, false_and, and_false, exists_false, false_or, or_false, true_implies, false_implies, implies_true, forall_eq, forall_eq', Bool.false_eq_true, if_neg, decide_eq_true_eq, Bool.not_eq_true', decide_eq_false_iff_not, Bool.not_true, Bool.not_false, List.length_cons, List.length_nil, sizeLine_eq, Nat.reduceAdd, Nat.reduceLeDiff, Nat.reduceLT, Int.reduceLT, Int.reduceLE, Int.emod_nonneg, ne_eq, Int.reduceEq, not_false_eq_true, dat_tup a7, seqO_tup a7, sh, eqv_self, PyData.canLay0, PyData.canLayAll0, sp__law_whole, kn, wholeV, Bool.and_self, so]
        refine ⟨by omega, ?_⟩
        have et : (if k + 1 > t then k + 1 else t) = sTop t k := by
          unfold sTop
          split <;> split <;> omega
        rw [et]
        have hst : b ≤ sTop t k ∧ sTop t k ≤ m := by unfold sTop; split <;> omega
        exact hN _ _ _ _ _ _ _ _ _ (k6.mono s7) hb hst.1 hst.2 l7
      · rw [if_neg hin]
        have ha : amongV (.int k) b (mn2 (mn2 t (b + w' - 1)) (m - 1)) = false := by rw [among_in]; exact decide_eq_false hin
        refine ⟨p, d5, w', r, m, b, t, _, rfl, p5, by omega, rfl, fun e => (by rw [e] at ha; cases ha), ?_⟩
        rintro _ q1 H6 e6 n6
        have k6 : K02 K H H6 p o w' r m b t := k5.mono e6
        generalize e7 : upd H6 q1 (.tup [.str "refused", .str "now"]) = H7
        have a7 : H7 q1 = some (.tup [.str "refused", .str "now"]) := by rw [← e7]; exact upd_same
        have s7 : Same H6 H7 := by rw [← e7]; exact same_new n6
        have sh : SeqAt.shaped (.tuple [.str "refused", .str "now"]) = true := by decide +kernel
        have so : PyData.strOk "refused" = true ∧ PyData.strOk "now" = true := by decide +kernel
        simp only [RDa, RDb, RDv, RDk, RDx, RDe, RDd, RDp, List.getElem?_cons_zero, List.getElem?_cons_succ, List.set_cons_zero, List.set_cons_succ, List.cons.injEq, List.cons_ne_nil, reduceCtorEq, exists_eq_left', exists_eq_left, exists_and_left, and_assoc, exists_const, true_and, and_true, if_true, if_false, false_and, and_false, exists_false, false_or, or_false, true_implies, false_implies, implies_true, forall_eq, forall_eq', Bool.false_eq_true, if_neg, decide_eq_true_eq, Bool.not_eq_true', decide_eq_false_iff_not, Bool.not_true, Bool.not_false, List.length_cons, List.length_nil, sizeLine_eq, Nat.reduceAdd, Nat.reduceLeDiff, Nat.reduceLT, Int.reduceLT, Int.reduceLE, Int.emod_nonneg, ne_eq, Int.reduceEq, not_false_eq_true, dat_tup a7, seqO_tup a7, sh, eqv_self, PyData.canLay0, PyData.canLayAll0, Bool.and_self, so]
        exact hN _ _ _ _ _ _ _ _ _ (k6.mono s7) hb ht htm (s7 _ _ (e6 _ _ l5))
    · rw [if_neg h3]
      obtain ⟨d4, p4⟩ := k4.hp
      refine ⟨by omega, by omega, by omega, _, pickI2 (by omega) (by omega), _, rfl, by omega, _, _, p4, rfl, ?_⟩
      generalize (if c / 3 % 5 / 2 % 2 = 0 then c / 3 % r else (b + c / 3 / 5 % (t - b + 1)) % r) = nu
      refine ⟨p, d4, w', r, m, b, t, nu, rfl, p4, by omega, ?_⟩
      have l5 : upd H4 p (.ins (He.ga K "Sender") d4 (flSender w' r m (sBase b t r nu) t)) la = some (.lst (cutV (ns.map V.int) (some 3) (some 43))) := by rw [upd_ne (fun e => by rw [e, p4] at h4; cases h4)]; exact h4
      have nn := md_rng (nu - b) (show 0 < r by omega)
      have k5 := k4.put (b' := sBase b t r nu) (t' := t) (dx := d4) rfl
      dsimp only
      rw [if_neg (fun h => h rfl)]
      unfold sBase at k5 l5
      unfold sBase
      split
      · rename_i hh
        rw [if_pos hh] at k5 l5
        exact hN _ _ _ _ _ _ _ _ _ k5 (by omega) (by omega) htm l5
      · rename_i hh
        rw [if_neg hh] at k5 l5
        exact hN _ _ _ _ _ _ _ _ _ k5 hb ht htm l5
  · rintro la σ H4 ⟨⟨b, t, u9, u10, u11, u12, u13, u14, u15, u16, rfl, k4, hb, ht, htm⟩, -⟩
    dsimp only
    refine seq_gen fun N_o h_o => ?_
    simp only [RDa, RDb, RDv, RDk, RDx, RDe, RDd, RDp, List.getElem?_cons_zero, List.getElem?_cons_succ, List.set_cons_zero, List.set_cons_succ, List.cons.injEq, List.cons_ne_nil, reduceCtorEq, exists_eq_left', exists_eq_left, exists_and_left, and_assoc, exists_const, true_and, and_true, if_true, if_false, false_and, and_false, exists_false, false_or, or_false, true_implies, false_implies, implies_true, forall_eq, forall_eq', Bool.false_eq_true, if_neg, decide_eq_true_eq, Bool.not_eq_true', decide_eq_false_iff_not, Bool.not_true, Bool.not_false, List.length_cons, List.length_nil, sizeLine_eq, Nat.reduceAdd, Nat.reduceLeDiff, Nat.reduceLT, Int.reduceLT, Int.reduceLE, Int.emod_nonneg, ne_eq, Int.reduceEq, not_false_eq_true]
    intro l1 n_l1
    generalize e_H5 : upd H4 l1 (.lst [.int b]) = H5
    have a_H5 : H5 l1 = some (.lst [.int b]) := by rw [← e_H5]; exact upd_same
    have s_H5 : Same H4 H5 := by rw [← e_H5]; exact same_new n_l1
    intro l2 n_l2
    generalize e_H6 : upd H5 l2 (.tup [.int b]) = H6
    have a_H6 : H6 l2 = some (.tup [.int b]) := by rw [← e_H6]; exact upd_same
    have s_H6 : Same H5 H6 := by rw [← e_H6]; exact same_new n_l2
    have k6 : K02 K H H6 p o w' r m b t := (k4.mono s_H5).mono s_H6
    refine ⟨by decide, 2, rfl, k6.s.seq hS, by decide, _, rfl, ?_⟩
    have e10 : (10 : Int) ^ Int.toNat 6 = 1000000 := by decide
    have t1 : tyN H6 (.ref l1) = some "list" := tyN_lst (s_H6 _ _ a_H5)
    have t2 : tyN H6 (.ref l2) = some "tuple" := tyN_tup a_H6
    obtain ⟨x, hx, kx, ax⟩ : ∃ x, atI [.non, .bl true, .str "0", .ref l1, .ref l2, .int (-1), .bl false, .int (b + 10 ^ Int.toNat 6)] (cell ns 2 % 8) = some x ∧ Kn H6 x ∧ amongV x b (mn2 (mn2 t (b + w' - 1)) (m - 1)) = false := by
      have h8 := md_rng (cell ns 2) (show (0 : Int) < 8 by decide)
      generalize cell ns 2 % 8 = j at h8
      rcases (show j = 0 ∨ j = 1 ∨ j = 2 ∨ j = 3 ∨ j = 4 ∨ j = 5 ∨ j = 6 ∨ j = 7 by omega) with rfl | rfl | rfl | rfl | rfl | rfl | rfl | rfl
      · exact ⟨_, rfl, rfl, rfl⟩
      · exact ⟨_, rfl, rfl, rfl⟩
      · exact ⟨_, rfl, rfl, rfl⟩
      · exact ⟨_, rfl, by unfold Kn; rw [t1]; rfl, rfl⟩
      · exact ⟨_, rfl, by unfold Kn; rw [t2]; rfl, rfl⟩
      · exact ⟨_, rfl, rfl, by rw [among_in]; exact decide_eq_false (by omega)⟩
      · exact ⟨_, rfl, rfl, rfl⟩
      · exact ⟨_, rfl, rfl, by rw [among_in]; exact decide_eq_false (by rw [e10]; omega)⟩
    refine ⟨x, hx, h_o _ _ ?_⟩
    refine seq_gen fun N_s h_s => ?_
    simp only [RDa, RDb, RDv, RDk, RDx, RDe, RDd, RDp, List.getElem?_cons_zero, List.getElem?_cons_succ, List.set_cons_zero, List.set_cons_succ, List.cons.injEq, List.cons_ne_nil, reduceCtorEq, exists_eq_left', exists_eq_left, exists_and_left, and_assoc, exists_const, true_and, and_true, if_true, if_false, false_and, and_false, exists_false, false_or, or_false, true_implies, false_implies, implies_true, forall_eq, forall_eq', Bool.false_eq_true, if_neg, decide_eq_true_eq, Bool.not_eq_true', decide_eq_false_iff_not, Bool.not_true, Bool.not_false, List.length_cons, List.length_nil, sizeLine_eq, Nat.reduceAdd, Nat.reduceLeDiff, Nat.reduceLT, Int.reduceLT, Int.reduceLE, Int.emod_nonneg, ne_eq, Int.reduceEq, not_false_eq_true]
    obtain ⟨d6, p6⟩ := k6.hp
    refine ⟨p, d6, w', r, m, b, t, x, rfl, p6, by omega, kx, fun e => (by rw [e] at ax; cases ax), ?_⟩
    rintro _ q1 H7 e7 n7
    have k7 : K02 K H H7 p o w' r m b t := k6.mono e7
    generalize e8 : upd H7 q1 (.tup [.str "refused", .str "now"]) = H8
    have a8 : H8 q1 = some (.tup [.str "refused", .str "now"]) := by rw [← e8]; exact upd_same
    have s8 : Same H7 H8 := by rw [← e8]; exact same_new n7
    have sh : SeqAt.shaped (.tuple [.str "refused", .str "now"]) = true := by decide +kernel
    have so : PyData.strOk "refused" = true ∧ PyData.strOk "now" = true := by decide +kernel
    simp only [RDa, RDb, RDv, RDk, RDx, RDe, RDd, RDp, List.getElem?_cons_zero, List.getElem?_cons_succ, List.set_cons_zero, List.set_cons_succ, List.cons.injEq, List.cons_ne_nil, reduceCtorEq, exists_eq_left', exists_eq_left, exists_and_left, and_assoc, exists_const, true_and, and_true, if_true, if_false, false_and, and_false, exists_false, false_or, or_false, true_implies, false_implies, implies_true, forall_eq, forall_eq', Bool.false_eq_true, if_neg, decide_eq_true_eq, Bool.not_eq_true', decide_eq_false_iff_not, Bool.not_true, Bool.not_false, List.length_cons, List.length_nil, sizeLine_eq, Nat.reduceAdd, Nat.reduceLeDiff, Nat.reduceLT, Int.reduceLT, Int.reduceLE, Int.emod_nonneg, ne_eq, Int.reduceEq, not_false_eq_true, dat_tup a8, seqO_tup a8, sh, eqv_self, PyData.canLay0, PyData.canLayAll0, Bool.and_self, so]
    obtain ⟨d8, p8⟩ := (k7.mono s8).hp
    refine ⟨p, d8, w', r, m, b, t, rfl, p8, fun H9 s9 => ⟨_, rfl, ?_⟩⟩
    rw [if_neg (by decide)]
    refine h_s _ _ ?_
    simp only [RDa, RDb, RDv, RDk, RDx, RDe, RDd, RDp, List.getElem?_cons_zero, List.getElem?_cons_succ, List.set_cons_zero, List.set_cons_succ, List.cons.injEq, List.cons_ne_nil, reduceCtorEq, exists_eq_left', exists_eq_left, exists_and_left, and_assoc, exists_const, true_and, and_true, if_true, if_false, false_and, and_false, exists_false, false_or, or_false, true_implies, false_implies, implies_true, forall_eq, forall_eq', Bool.false_eq_true, if_neg, decide_eq_true_eq, Bool.not_eq_true', decide_eq_false_iff_not, Bool.not_true, Bool.not_false, List.length_cons, List.length_nil, sizeLine_eq, Nat.reduceAdd, Nat.reduceLeDiff, Nat.reduceLT, Int.reduceLT, Int.reduceLE, Int.emod_nonneg, ne_eq, Int.reduceEq, not_false_eq_true]
    obtain ⟨d9, o9⟩ := ((k7.mono s8).mono s9).ho
    exact ⟨o, d9, w', r, m, 0, 0, rfl, o9, fun H10 _ => q _⟩
end RP

namespace RP
open PySem PySem.Spec PyProof.Rows L2 L2H

/-- tests -/
def excB (K : PySem.W.Frag) (D : Addr) : Bool := decide (PySem.W.findIn K (.ref D) "__getattribute__" = some (some (.builtin "BaseException.__getattribute__"))) && (decide (PySem.W.findIn K (.ref D) "__getattr__" = some none) && (decide (PySem.W.subIn K (.ref D) (.type "BaseException") = some true) && (decide (PySem.W.hasDictIn K D = true) &&
  (decide (PySem.W.findIn K (.ref D) "__class__" = some (some (.builtin "object.__class__"))) && (decide (PySem.W.specialIn K (.builtin "object.__class__") "__get__" = some (some (.builtin "getset_descriptor.__get__"))) && (decide (PySem.W.takesIn K (.builtin "object.__class__") = some true) && decide (PySem.W.mroIn K D (.type "object") = some true)))))))
theorem excB_ok {K : PySem.W.Frag} {D : Addr} (h : excB K D = true) : ExcC K D := by
  unfold excB at h
  simp only [Bool.and_eq_true, decide_eq_true_eq] at h
  obtain ⟨h1, h2, h3, h4, h5, h6, h7, h8⟩ := h
  exact ⟨h1, h2, h3, h4, h5, h6, h7, h8⟩
def kitFB (K : PySem.W.Frag) (D : Str) (l : List (Str × Bool)) : Bool := l.all fun q => decide (PySem.W.kitOne K (.ref (He.ga K D)) (.ref (He.ga K q.1)) = some q.2)
theorem kitFB_ok {K : PySem.W.Frag} {D : Str} {l : List (Str × Bool)} (h : kitFB K D l = true) : ∀ q ∈ l, PySem.W.kitOne K (.ref (He.ga K D)) (.ref (He.ga K q.1)) = some q.2 := fun q hq => of_decide_eq_true (List.all_eq_true.mp h q hq)
def d_is_among : He.DefD := ⟨("is_among", none), "is_among", "is_among", defArgs s_is_among, defBody s_is_among, defScope s_is_among, [], []⟩
def d_Sender_init : He.DefD := ⟨("Sender", some "__init__"), "__init__", "Sender.__init__", defArgs s_Sender_init, defBody s_Sender_init, defScope s_Sender_init, [], []⟩
def d_Sender_span : He.DefD := ⟨("Sender", some "span"), "span", "Sender.span", defArgs s_Sender_span, defBody s_Sender_span, defScope s_Sender_span, [], []⟩
def d_Sender_sent : He.DefD := ⟨("Sender", some "sent"), "sent", "Sender.sent", defArgs s_Sender_sent, defBody s_Sender_sent, defScope s_Sender_sent, [], []⟩
def d_Sender_heard : He.DefD := ⟨("Sender", some "heard"), "heard", "Sender.heard", defArgs s_Sender_heard, defBody s_Sender_heard, defScope s_Sender_heard, [], []⟩
def d__law_at : He.DefD := ⟨("_law_at", none), "_law_at", "_law_at", defArgs s__law_at, defBody s__law_at, defScope s__law_at, [], []⟩
def d__law_mixed : He.DefD := ⟨("_law_mixed", none), "_law_mixed", "_law_mixed", defArgs s__law_mixed, defBody s__law_mixed, defScope s__law_mixed, [], []⟩
def d__law_whole : He.DefD := ⟨("_law_whole", none), "_law_whole", "_law_whole", defArgs s__law_whole, defBody s__law_whole, defScope s__law_whole, [], []⟩
def d__law_word : He.DefD := ⟨("_law_word", none), "_law_word", "_law_word", defArgs s__law_word, defBody s__law_word, defScope s__law_word, [], []⟩
def d__law_said : He.DefD := ⟨("_law_said", none), "_law_said", "_law_said", defArgs s__law_said, defBody s__law_said, defScope s__law_said, [], []⟩
def d__law_span : He.DefD := ⟨("_law_span", none), "_law_span", "_law_span", defArgs s__law_span, defBody s__law_span, defScope s__law_span, [], []⟩
def d_law : He.DefD := ⟨("law", none), "law", "law", defArgs s_law, defBody s_law, defScope s_law, [], []⟩
def fn : List He.DefD := [d_is_among, d_Sender_init, d_Sender_span, d_Sender_sent, d_Sender_heard, d__law_at, d__law_mixed, d__law_whole, d__law_word, d__law_said, d__law_span, d_law]
def fa : List He.Fa := [.free "len", .free "range", .free "min", .free "max", .free "isinstance", .free "int", .free "bool", .free "str", .free "list", .free "tuple", .free "dict", .free "sorted", .free "enumerate", .free "zip", .free "all", .free "ValueError", .glo "is_among", .glo "Sender", .mkr "Sender", .cls "Sender", .noat "Sender" "window", .noat "Sender" "ring", .noat "Sender" "many", .noat "Sender" "base", .noat "Sender" "top", .meth "Sender" "span", .meth "Sender" "sent", .exc "NotNow", .glo "NotNow", .meth "Sender" "heard", .glo "_law_at", .glo "_law_mixed", .glo "_law_whole", .glo "_law_word", .exc "BadBounds", .glo "BadBounds", .exc "BadRing", .glo "BadRing", .exc "BadStep", .glo "BadStep", .exc "BadTexts", .glo "BadTexts", .exc "NoLetter", .glo "NoLetter", .exc "NoLine", .glo "NoLine", .exc "Safe", .glo "Safe", .glo "_law_said", .exc "PostError", .glo "PostError", .exm "NotNow" "PostError" true, .glo "_law_span", .glo "law"]
def exB (K : PySem.W.Frag) : Bool := true && (excB K (He.ga K "NotNow")) && (kitFB K "NotNow" (errNames.map fun x => (x, decide (x = "NotNow")))) && (decide (PySem.W.kitOne K (.ref (He.ga K "NotNow")) (.type "ValueError") = some true))
def loose : List Str := ["PostError", "BadBounds", "BadRing", "BadTexts", "BadStep", "NotNow", "NoLetter", "Safe", "NoLine", "is_among", "Sender", "_law_at", "_law_mixed", "_law_whole", "_law_word", "_law_said", "_law_span"]
abbrev PW : Program := (PySem.W.OpenLaw.row PySem.Challenge.rw_ringpost_k02_who_sends).prog
abbrev R : PySem.W.OpenRow := PySem.W.OpenLaw.row PySem.Challenge.rw_ringpost_k02_who_sends
abbrev hk : PySem.W.Hook := He.hookX 5 fa fn [] [] exB
def ob (s : PySem.W.SharedT) : He.AlX := He.obsX 5 fa fn [] [] exB (HandSHeadRun.getT s)
theorem ob_eq (s : PySem.W.SharedT) : ob s = hk.obs s.abs := He.obsX_eq (HandSHeadRun.getT_eq s)
theorem run (w : World) : HandSHeadRun.RunEq R (PySem.W.view R.prog [21]) hk ob 3000 loose w := by
  intro os
  kernel_rfl
theorem facts {w : World} {K : PySem.W.Frag} {h : Heap} {mg : Str → Option Value} {f : Addr} (X : K.In h) (G : h.Ns mainGlobals mg) (hfa : mg ("law" : Str) = some (.ref f)) (c : He.SaysX fa fn [] [] exB w h K) :
    ∃ fd : FuncData, (∀ (s : Shared) (v : Value), BindsTo s fd ⟨[v], []⟩ [("_law_script", v)]) ∧ ∀ base : Heap, K.In base → base.Ns mainGlobals mg → FnOk PW w K mg base (L2N.CX PW w) 4 f fd ["_law_script"] (sp_law K) := by
  have cf : ∀ (i : Nat) {f : He.Fa}, fa[i]? = some f → f.ok K = true := fun i f h => c.t.d.fact i h
  have cd : ∀ {d : He.DefD}, d ∈ fn → ∃ fd, FunD K d.name d.qual d.params d.body d.scope (d.dvs K) (d.kws K) (He.fAd K d.at_) fd := fun h => c.t.d.defs h
  have cx := c.more
  unfold exB at cx
  simp only [Bool.true_and, Bool.and_eq_true] at cx
  obtain ⟨⟨z0, z1⟩, z2⟩ := cx
  have ex0 : ExcC K (He.ga K "NotNow") := excB_ok z0
  have ex1 : KitF K "NotNow" (errNames.map fun x => (x, decide (x = "NotNow"))) := kitFB_ok z1
  have ex2 : PySem.W.kitOne K (.ref (He.ga K "NotNow")) (.type "ValueError") = some true := of_decide_eq_true z2
  have bl : Blt mg := ⟨He.free_ok X G (cf 0 (f := .free "len") rfl), He.free_ok X G (cf 1 (f := .free "range") rfl), He.free_ok X G (cf 2 (f := .free "min") rfl), He.free_ok X G (cf 3 (f := .free "max") rfl), He.free_ok X G (cf 4 (f := .free "isinstance") rfl), He.free_ok X G (cf 5 (f := .free "int") rfl), He.free_ok X G (cf 6 (f := .free "bool") rfl), He.free_ok X G (cf 7 (f := .free "str") rfl), He.free_ok X G (cf 8 (f := .free "list") rfl), He.free_ok X G (cf 9 (f := .free "tuple") rfl), He.free_ok X G (cf 10 (f := .free "dict") rfl), He.free_ok X G (cf 11 (f := .free "sorted") rfl), He.free_ok X G (cf 12 (f := .free "enumerate") rfl), He.free_ok X G (cf 13 (f := .free "zip") rfl), He.free_ok X G (cf 14 (f := .free "all") rfl), He.free_ok X G (cf 15 (f := .free "ValueError") rfl)⟩
  have c_is_among := fun (base : Heap) => ok_is_among (P := PW) (w := w) (base := base) (cd (d := d_is_among) (by simp [fn])) (He.glo_ok X G (cf 16 (f := .glo "is_among") rfl)) bl
  have hSender : SenderF K := ⟨He.cls_ok (cf 19 (f := .cls "Sender") rfl), He.noat_ok (cf 20 (f := .noat "Sender" "window") rfl), He.noat_ok (cf 21 (f := .noat "Sender" "ring") rfl), He.noat_ok (cf 22 (f := .noat "Sender" "many") rfl), He.noat_ok (cf 23 (f := .noat "Sender" "base") rfl), He.noat_ok (cf 24 (f := .noat "Sender" "top") rfl)⟩
  have c_Sender := fun (base : Heap) => ok_Sender_init (P := PW) (w := w) (base := base) (cd (d := d_Sender_init) (by simp [fn])) (He.glo_ok X G (cf 17 (f := .glo "Sender") rfl)) (He.mkr_ok (cf 18 (f := .mkr "Sender") rfl)) bl hSender
  have m_Sender_span := fun (base : Heap) => ok_Sender_span (P := PW) (w := w) (base := base) (cd (d := d_Sender_span) (by simp [fn])) (He.cls_ok (cf 19 (f := .cls "Sender") rfl)) (He.meth_ok (cf 25 (f := .meth "Sender" "span") rfl)) bl hSender
  have e_NotNow : ErrC K mg "NotNow" := by
    have z := He.exc_ok (cf 27 (f := .exc "NotNow") rfl)
    exact ⟨He.glo_ok X G (cf 28 (f := .glo "NotNow") rfl), z.1, z.2.1, z.2.2.1, z.2.2.2⟩
  have m_Sender_sent := fun (base : Heap) => ok_Sender_sent (P := PW) (w := w) (base := base) (cd (d := d_Sender_sent) (by simp [fn])) (He.cls_ok (cf 19 (f := .cls "Sender") rfl)) (He.meth_ok (cf 26 (f := .meth "Sender" "sent") rfl)) bl hSender (c_is_among base) e_NotNow
  have m_Sender_heard := fun (base : Heap) => ok_Sender_heard (P := PW) (w := w) (base := base) (cd (d := d_Sender_heard) (by simp [fn])) (He.cls_ok (cf 19 (f := .cls "Sender") rfl)) (He.meth_ok (cf 29 (f := .meth "Sender" "heard") rfl)) bl hSender
  have c__law_at := fun (base : Heap) (a : Addr) (ns : List Int) => ok__law_at (P := PW) (w := w) (base := base) (cd (d := d__law_at) (by simp [fn])) (He.glo_ok X G (cf 30 (f := .glo "_law_at") rfl)) bl a ns
  have c__law_mixed := fun (base : Heap) => ok__law_mixed (P := PW) (w := w) (base := base) (cd (d := d__law_mixed) (by simp [fn])) (He.glo_ok X G (cf 31 (f := .glo "_law_mixed") rfl)) bl
  have c__law_whole := fun (base : Heap) => ok__law_whole (P := PW) (w := w) (base := base) (cd (d := d__law_whole) (by simp [fn])) (He.glo_ok X G (cf 32 (f := .glo "_law_whole") rfl)) bl
  have e_BadBounds : ErrC K mg "BadBounds" := by
    have z := He.exc_ok (cf 34 (f := .exc "BadBounds") rfl)
    exact ⟨He.glo_ok X G (cf 35 (f := .glo "BadBounds") rfl), z.1, z.2.1, z.2.2.1, z.2.2.2⟩
  have e_BadRing : ErrC K mg "BadRing" := by
    have z := He.exc_ok (cf 36 (f := .exc "BadRing") rfl)
    exact ⟨He.glo_ok X G (cf 37 (f := .glo "BadRing") rfl), z.1, z.2.1, z.2.2.1, z.2.2.2⟩
  have e_BadStep : ErrC K mg "BadStep" := by
    have z := He.exc_ok (cf 38 (f := .exc "BadStep") rfl)
    exact ⟨He.glo_ok X G (cf 39 (f := .glo "BadStep") rfl), z.1, z.2.1, z.2.2.1, z.2.2.2⟩
  have e_BadTexts : ErrC K mg "BadTexts" := by
    have z := He.exc_ok (cf 40 (f := .exc "BadTexts") rfl)
    exact ⟨He.glo_ok X G (cf 41 (f := .glo "BadTexts") rfl), z.1, z.2.1, z.2.2.1, z.2.2.2⟩
  have e_NoLetter : ErrC K mg "NoLetter" := by
    have z := He.exc_ok (cf 42 (f := .exc "NoLetter") rfl)
    exact ⟨He.glo_ok X G (cf 43 (f := .glo "NoLetter") rfl), z.1, z.2.1, z.2.2.1, z.2.2.2⟩
  have e_NoLine : ErrC K mg "NoLine" := by
    have z := He.exc_ok (cf 44 (f := .exc "NoLine") rfl)
    exact ⟨He.glo_ok X G (cf 45 (f := .glo "NoLine") rfl), z.1, z.2.1, z.2.2.1, z.2.2.2⟩
  have e_Safe : ErrC K mg "Safe" := by
    have z := He.exc_ok (cf 46 (f := .exc "Safe") rfl)
    exact ⟨He.glo_ok X G (cf 47 (f := .glo "Safe") rfl), z.1, z.2.1, z.2.2.1, z.2.2.2⟩
  have c__law_word := fun (base : Heap) => ok__law_word (P := PW) (w := w) (base := base) (cd (d := d__law_word) (by simp [fn])) (He.glo_ok X G (cf 33 (f := .glo "_law_word") rfl)) bl e_BadBounds e_BadRing e_BadStep e_BadTexts e_NoLetter e_NoLine e_NotNow e_Safe ex0 ex1 ex2
  have e_PostError : ErrC K mg "PostError" := by
    have z := He.exc_ok (cf 49 (f := .exc "PostError") rfl)
    exact ⟨He.glo_ok X G (cf 50 (f := .glo "PostError") rfl), z.1, z.2.1, z.2.2.1, z.2.2.2⟩
  have c__law_said := fun (base : Heap) => ok__law_said (P := PW) (w := w) (base := base) (cd (d := d__law_said) (by simp [fn])) (He.glo_ok X G (cf 48 (f := .glo "_law_said") rfl)) bl hSender (m_Sender_sent base) (c__law_word base) e_PostError (He.exm_ok (cf 51 (f := .exm "NotNow" "PostError" true) rfl))
  have c__law_span := fun (base : Heap) => ok__law_span (P := PW) (w := w) (base := base) (cd (d := d__law_span) (by simp [fn])) (He.glo_ok X G (cf 52 (f := .glo "_law_span") rfl)) bl hSender (m_Sender_span base) (c__law_whole base)
  obtain ⟨fd, FL⟩ := cd (d := d_law) (by simp [fn])
  have e := hfa.symm.trans (He.glo_ok X G (cf 53 (f := .glo "law") rfl))
  have e2 : f = He.fAd K ("law", none) := Value.ref.inj (Option.some.inj e)
  subst e2
  have b := FunD.bindsA (ps := ["_law_script"]) FL fun _ _ _ _ _ _ us hl => match us, hl with | [_], _ => rfl
  exact ⟨fd, fun s v => b s [v] rfl, fun base _ _ => ok_law FL bl hSender (m_Sender_heard base) (c_Sender base) (c__law_at base) (c__law_mixed base) (c__law_said base) (c__law_span base) (c__law_whole base)⟩
end RP
open PySem PySem.W PySem.Calls PyProof.Rows
theorem PySem.Challenge.cw_ringpost_k02_who_sends_holds : PySem.Challenge.rw_ringpost_k02_who_sends.Holds := by
  w_on; o_law
  refine HandSHeadRun.head_any (r := OpenLaw.row PySem.Challenge.rw_ringpost_k02_who_sends) (q := view (OpenLaw.row PySem.Challenge.rw_ringpost_k02_who_sends).prog [21]) (H := RP.hk) (ob := RP.ob) (M := 3000) (loose := RP.loose) (d := HandSHeadRun.topDef (OpenLaw.row PySem.Challenge.rw_ringpost_k02_who_sends).prog 21) (kwd := []) RP.ob_eq
    (by kernel_rfl) (fun s => by kernel_rfl) RP.run (by kernel_rfl) (by kernel_rfl) (by kernel_rfl) (by rfl) (by first | assumption | decide +kernel) (by decide +kernel) ⟨rfl, rfl, rfl, rfl, rfl, by decide +kernel⟩ ?hw ?hc
  case hw => w_witness2
  case hc =>
    refine RP.walk_W (l := PySem.Challenge.rw_ringpost_k02_who_sends) (n := 63) (k := 4) (x := "_law_script") (CX := fun w => L2N.CX RP.PW w) rfl (by decide) (by kernel_rfl) ⟨rfl, by decide, by decide⟩ ?F (fun _ _ _ _ _ z => by
      obtain ⟨_, _, _, _, _, _, _, _, _, _, _, _, q⟩ := z
      exact q)
    intro w mg fa h Y G hmg0
    obtain ⟨K, KX, c⟩ := Y
    have hmg : mg ("law" : PySem.Str) = some (.ref fa) := by
      have e : (HandSHeadRun.topDef (OpenLaw.row PySem.Challenge.rw_ringpost_k02_who_sends).prog 21).name = ("law" : PySem.Str) := by kernel_rfl
      rw [← e]
      exact hmg0
    obtain ⟨fd, hb, hF⟩ := RP.facts (w := w) KX G hmg c
    exact ⟨K, fd, RP.sp_law K, KX, hb, fun H a ns hl hO hS => ⟨a, ns, rfl, hS, fun _ => rfl⟩, hF⟩

