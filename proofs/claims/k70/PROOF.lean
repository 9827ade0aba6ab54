import PyProof.Rows.All
import HandS.ForMost
import HandS.Exc
import HandS.ExcOwn
import HandS.ExcField
import HandS.ExcInit
import HandS.ExcIs
import HandS.IsInst
import HandS.TryOnly
import HandS.TryElse
import HandS.WordsExc
import HandS.Wide
import HandS.Conv
import HandS.SortInts
import HandS.Defaults
import HandS.CallSlots
import HandS.HotCalls
import HandS.Style
import HandS.Deep
import HandS.HeadHook3
import HandS.SortOrd
import HandS.SetFor
import HandS.Strs
import HandS.HeadHook4
import HandS.DeepEq
import KE.KEqNest
import HandS.Walk
import HandS.EndBits
import HandS.HeadEnd
import HandS.Head2
import PySem.Challenge.RW_stillheap_k70_round_papers
import PyProof.Rows.Walk
set_option Elab.async false
set_option linter.all false
set_option maxRecDepth 100000
set_option maxHeartbeats 2000000
namespace SX0
open PySem PySem.Spec PyProof.Rows L2
/-- a def that keeps its promise, however its function object is called -/
def GoodF (P : Program) (w : World) (K : PySem.W.Frag) (mg : Str → Option Value) (base : Heap) (k : Nat) (f : Addr) (fd : FuncData) (ps : List Str) (sp : Sp) : Prop :=
  FnOk P w K mg base (L2.CX P w) k f fd ps sp ∧ Binds K fd ps [] ∧ PySem.W.keepIn K (.ref f) = true
def Good (P : Program) (w : World) (K : PySem.W.Frag) (mg : Str → Option Value) (base : Heap) (k : Nat) (f : Addr) (ps : List Str) (sp : Sp) : Prop :=
  ∃ fd, GoodF P w K mg base k f fd ps sp
theorem Good.mono {P : Program} {w : World} {K : PySem.W.Frag} {mg : Str → Option Value} {base : Heap} {j k : Nat} {f : Addr} {ps : List Str} {sp : Sp} (g : Good P w K mg base j f ps sp) (h : j ≤ k) : Good P w K mg base k f ps sp := by
  obtain ⟨fd, F, b, kp⟩ := g
  exact ⟨fd, F.mono h, b, kp⟩
/-- what leaves a def, at any slots -/
abbrev WD (E : XK) : WX := fun cls d _ H => E cls d H
abbrev W0 : WX := fun _ _ _ _ => False
section
variable {X : Cx} {W : WX} {k : Nat} {f C : Addr} {ps : List Str} {sp : Sp} {x m : Str} {p pos apos : Pos} {e o : Expr} {es : List Expr} {ta : TE} {t : TA}
theorem pe_cU (G : Good X.prog X.w X.K X.mg X.base k f ps sp) (hr : Room k X.A) (tk : Takes X W) (hg : Gl X x) (hm : X.mg x = some (.ref f))
    (ha : PA X (e :: es) t) (hdb : (x == ("__debug__" : Str)) = false := by decide) (he : starEach (e :: es) X.env = (false, eval e X.env) :: starEach es X.env := by rfl) (hpl : (backTo pos (starEach es X.env)).any (·.1) = false := by rfl) :
    PE X (.Call (.Name x p) (e :: es) [] pos) (tCallS sp (WE W) t) := by
  obtain ⟨fd, F, b, kp⟩ := G
  exact pe_callS F hr hg hm kp b (fun σ => passAt tk σ) ha hdb he hpl
theorem pe_cU0 (G : Good X.prog X.w X.K X.mg X.base k f ps sp) (hr : Room k X.A) (tk : Takes X W) (hg : Gl X x) (hm : X.mg x = some (.ref f))
    (hdb : (x == ("__debug__" : Str)) = false := by decide) :
    PE X (.Call (.Name x p) [] [] pos) (tCallS sp (WE W) tNil) := by
  obtain ⟨fd, F, b, kp⟩ := G
  refine ⟨fun pins s σ H Q I h => ?_⟩
  refine wpAny_Call_Name_kw (ld_glob I hg hm ?_ hdb)
  exact PySem.W.callWith_K0 I.kIn kp (run_fnS (us := []) F hr b (passAt tk σ) I .nil h)
/-- a choice of classes for a method's receiver -/
abbrev Alt := Addr × Addr × Sp
def AltOk (X : Cx) (k : Nat) (ps : List Str) (m : Str) (a : Alt) : Prop := Cls X.K a.1 ∧ Meth X.K a.1 m a.2.1 ∧ Good X.prog X.w X.K X.mg X.base k a.2.1 ps a.2.2
theorem altok_nil {X : Cx} {k : Nat} {ps : List Str} {m : Str} : ∀ al ∈ ([] : List Alt), AltOk X k ps m al := fun _ h => nomatch h
theorem altok_cons {X : Cx} {k : Nat} {ps : List Str} {m : Str} {C f : Addr} {sp : Sp} {r : List Alt} (h : Cls X.K C ∧ Meth X.K C m f ∧ Good X.prog X.w X.K X.mg X.base k f ps sp) (hr : ∀ al ∈ r, AltOk X k ps m al) : ∀ al ∈ (C, f, sp) :: r, AltOk X k ps m al := fun al hm => by
  rcases List.mem_cons.mp hm with e | e
  · rw [e]; exact h
  · exact hr al e
/-- o.m(..), o of one of some classes -/
def tMU (alts : List Alt) (m : Str) (W : WX) (ta : TE) (t : TA) : TE := fun σ H Q => ta σ H fun x H1 => ∃ al ∈ alts, ∃ a dx fs, x = .ref a ∧ H1 a = some (.ins al.1 dx fs) ∧ fs.lookup m = none ∧
  t σ H1 fun vs H2 => al.2.2 (x :: vs) H2 Q (WE W σ)
theorem pe_mU {alts : List Alt} {pl : Sem Bool} (he : PE X o ta) (hal : ∀ al ∈ alts, AltOk X k ps m al) (hr : Room k X.A) (tk : Takes X W) (ha : PA X (e :: es) t)
    (hst : starEach (e :: es) X.env = (false, eval e X.env) :: starEach es X.env := by rfl) (hpl : (backTo pos (starEach es X.env)).any (·.1) = false := by rfl)
    (ht : eval (.Call (.Attribute o m apos) (e :: es) [] pos) X.env = (do
      let ov ← eval o X.env
      standAt apos.atName
      let (f, first) ← holding [ov] (getMethod ov m pl)
      callWith pos f first (backTo pos (starEach (e :: es) X.env)) (backToKw pos (keywordEach [] X.env))) := by rfl) :
    PE X (.Call (.Attribute o m apos) (e :: es) [] pos) (tMU alts m W ta t) := by
  refine ⟨fun pins s σ H Q I h => ?_⟩
  refine PySem.W.methodCall_KW (pl := pl) (thn (he.run pins s σ H _ I h) fun u s1 ⟨x, H1, I1, rx, al, hm, a, dx, fs, ex, ea, l, q⟩ => ?_) ht
  obtain ⟨c, hm, fd, F, b, kp⟩ := hal al hm
  subst ex
  obtain rfl : u = Value.ref a := rx
  refine getmeth_ok I1 ea c hm l ?_
  refine PySem.W.callWith_K (first := [.ref a]) (h₀ := X.base) I.ok.mod.kin hm.kp (thn (ha.run pos pins s1 σ H1 _ I1 q) fun us s2 ⟨vs, H2, I2, r, q2⟩ => ⟨I2.kIn, ?_⟩) hst hpl
  exact run_fnS (us := .ref a :: us) (vs := .ref a :: vs) F hr b (passAt tk σ) I2 (.cons rfl r) q2
theorem pe_mU0 {alts : List Alt} {pl : Sem Bool} (he : PE X o ta) (hal : ∀ al ∈ alts, AltOk X k ps m al) (hr : Room k X.A) (tk : Takes X W)
    (ht : eval (.Call (.Attribute o m apos) [] [] pos) X.env = (do
      let ov ← eval o X.env
      standAt apos.atName
      let (f, first) ← holding [ov] (getMethod ov m pl)
      callWith pos f first (backTo pos (starEach [] X.env)) (backToKw pos (keywordEach [] X.env))) := by rfl) :
    PE X (.Call (.Attribute o m apos) [] [] pos) (tMU alts m W ta tNil) := by
  refine ⟨fun pins s σ H Q I h => ?_⟩
  refine PySem.W.methodCall_KW (pl := pl) (thn (he.run pins s σ H _ I h) fun u s1 ⟨x, H1, I1, rx, al, hm, a, dx, fs, ex, ea, l, q⟩ => ?_) ht
  obtain ⟨c, hm, fd, F, b, kp⟩ := hal al hm
  subst ex
  obtain rfl : u = Value.ref a := rx
  refine getmeth_ok I1 ea c hm l ?_
  exact PySem.W.callWith_K0 (first := [.ref a]) I1.kIn hm.kp (run_fnS (us := [.ref a]) (vs := [.ref a]) F hr b (passAt tk σ) I1 (.cons rfl .nil) q)
/-- C(..) -/
def tMkS (C : Addr) (sp : Sp) (W : WX) (t : TA) : TE := fun σ H Q => t σ H fun vs H1 => ∀ x dx, H1 x = none → H1 dx = none → dx ≠ x →
  sp (.ref x :: vs) (upd (upd H1 dx (.own x)) x (.ins C dx [])) (fun v H2 => v = .non ∧ Q (.ref x) H2) (WE W σ)
theorem inv_made_eq {pins : List (Addr × Obj)} {σ : L2.St} {H : Hp} {s : Shared} (I : Inv X pins σ H s) (C : Addr) : True := True.intro
theorem run_mkS {pins : List (Addr × Obj)} {σ : L2.St} {H : Hp} {s : Shared} {Q : VK} {us : List Value} {vs : List V} (M : Mk X.K C f) (G : Good X.prog X.w X.K X.mg X.base k f ps sp) (hr : Room (k + 1) X.A)
    (tk : Takes X W) (I : Inv X pins σ H s) (r : Vals vs us)
    (h : ∀ x dx, H x = none → H dx = none → dx ≠ x → sp (.ref x :: vs) (upd (upd H dx (.own x)) x (.ins C dx [])) (fun v H2 => v = .non ∧ Q (.ref x) H2) (WE W σ)) :
    wpAny (model X.prog X.w) X.A (call (.ref C) us) (EP X pins σ Q) X.xe s := by
  obtain ⟨fd, F, hb, kp⟩ := G
  have hq := h (s.heap.objs.size + 1) s.heap.objs.size (I.hok.fresh (Nat.le_succ _)) (I.hok.fresh (Nat.le_refl _)) (Nat.ne_of_lt (Nat.lt_succ_self _))
  have I2 := Inv.made (C := C) I
  have r2 : Vals (V.ref (s.heap.objs.size + 1) :: vs) (Value.ref (s.heap.objs.size + 1) :: us) := .cons rfl r
  have hl : (Value.ref (s.heap.objs.size + 1) :: us).length = ps.length := by
    have e := r2.length
    rw [F.len _ _ _ _ hq] at e
    exact e.symm
  have b := hb _ (Value.ref (s.heap.objs.size + 1) :: us) I2.kIn (by rw [List.append_nil]; exact hl)
  rw [List.append_nil] at b
  refine wpAny_call (make_map (f := f) I.kIn M.makes M.init (beq_iff_eq.mp M.fn) (codeAny_mono (F.run _ X.stack _ _ ⟨Value.ref (s.heap.objs.size + 1) :: us, []⟩ (Value.ref (s.heap.objs.size + 1) :: us) _ _ (WE W σ) (hr.make C us [])
    (I2.env0.make C us []) b r2 hq) fun r s' hq' => ?_))
  cases r with
  | error e => exact passAt tk σ pins _ _ e s' I2 hq'
  | ok fl =>
    cases fl with
    | ret u =>
      obtain ⟨v, H', I3, rv, ev, q3⟩ := I2.after hq'
      subst ev
      exact ⟨rv, ⟨V.ref (s.heap.objs.size + 1), H', I3, rfl, q3⟩⟩
    | next => exact False.elim hq'
    | brk => exact False.elim hq'
    | cont => exact False.elim hq'
theorem pe_mkU (M : Mk X.K C f) (G : Good X.prog X.w X.K X.mg X.base k f ps sp) (hr : Room (k + 1) X.A) (tk : Takes X W) (hg : Gl X x) (hm : X.mg x = some (.ref C))
    (ha : PA X (e :: es) t) (hdb : (x == ("__debug__" : Str)) = false := by decide) (he : starEach (e :: es) X.env = (false, eval e X.env) :: starEach es X.env := by rfl) (hpl : (backTo pos (starEach es X.env)).any (·.1) = false := by rfl) :
    PE X (.Call (.Name x p) (e :: es) [] pos) (tMkS C sp W t) := by
  refine ⟨fun pins s σ H Q I h => ?_⟩
  refine wpAny_Call_Name_kw (ld_glob I hg hm ?_ hdb)
  refine PySem.W.callWith_K (h₀ := X.base) I.ok.mod.kin M.kp (thn (ha.run pos pins s σ H _ I h) fun us s1 ⟨vs, H1, I1, r, q⟩ => ⟨I1.kIn, ?_⟩) he hpl
  exact run_mkS M G hr tk I1 r q
theorem pe_mkU0 (M : Mk X.K C f) (G : Good X.prog X.w X.K X.mg X.base k f ps sp) (hr : Room (k + 1) X.A) (tk : Takes X W) (hg : Gl X x) (hm : X.mg x = some (.ref C))
    (hdb : (x == ("__debug__" : Str)) = false := by decide) :
    PE X (.Call (.Name x p) [] [] pos) (tMkS C sp W tNil) := by
  refine ⟨fun pins s σ H Q I h => ?_⟩
  refine wpAny_Call_Name_kw (ld_glob I hg hm ?_ hdb)
  exact PySem.W.callWith_K0 I.kIn M.kp (run_mkS (us := []) M G hr tk I .nil h)
end

/-! ### list + list, whatever holds them -/
/-- a list to be read whose object is known to the letter: tracked, locked, or one of the module's -/
def SqX (K : PySem.W.Frag) (H : Hp) (a : Addr) (xs : List V) : Prop :=
  Rd H a (.lst xs) ∨ ∃ its : List Value, K.lookup a = some { cls := .type "list", data := .seq its.toArray } ∧ its.length ≤ sizeLine ∧ Vals xs its
theorem SqX.sql {K : PySem.W.Frag} {H : Hp} {a : Addr} {xs : List V} (h : SqX K H a xs) : SqL K H a xs := by
  rcases h with h | ⟨its, h, z, r⟩
  · exact .inl h
  · exact .inr ⟨_, its.toArray, _, h, rfl, rfl, rfl, by rw [List.size_toArray]; exact z, by simpa using r⟩
theorem SqX.of {K : PySem.W.Frag} {H : Hp} {a : Addr} {xs : List V} (h : H a = some (.lst xs)) : SqX K H a xs := .inl (.inl h)
theorem Same.sqx {K : PySem.W.Frag} {H H' : Hp} {a : Addr} {xs : List V} (s : Same H H') (h : SqX K H a xs) : SqX K H' a xs := by
  rcases h with (h | ⟨o, h⟩) | h
  · exact .inl (.inl (s _ _ h))
  · exact .inl (.inr ⟨o, s _ _ h⟩)
  · exact .inr h
def rCatS (K : PySem.W.Frag) : R2 := fun x y H Q => ∃ l b xs zs, x = .ref l ∧ y = .ref b ∧ SqX K H l xs ∧ SqX K H b zs ∧ xs.length + zs.length ≤ sizeLine ∧ ∀ p, H p = none → Q (.ref p) (upd H p (.lst (xs ++ zs)))
section
variable {X : Cx}
theorem sqx_at {pins : List (Addr × Obj)} {σ : L2.St} {H : Hp} {s : Shared} {a : Addr} {xs : List V} (I : Inv X pins σ H s) (h : SqX X.K H a xs) :
    ∃ (its : List Value) (n : Nat), Vals xs its ∧ s.heap.get? a = some { cls := .type "list", data := .seq its.toArray n } := by
  rcases h with h | ⟨its, h, z, r⟩
  · obtain ⟨_, its, n, r, e⟩ := h.ok I.hok
    exact ⟨its, n, r, e⟩
  · exact ⟨its, 0, r, I.kIn _ _ h⟩
theorem op_catS : OpR X (binaryOp .Add) (rCatS X.K) := by
  intro pins s σ H x y v u Q I rx ry h
  obtain ⟨l, b, xs, zs, rfl, rfl, hH, hB, hz, q⟩ := h
  cases rx
  cases ry
  obtain ⟨its, n, r, e⟩ := sqx_at I hH
  obtain ⟨its2, n2, r2, e2⟩ := sqx_at I hB
  have l1 := r.length
  have l2 := r2.length
  refine PySem.P.add_list e e2 ?_ (by rw [List.size_toArray, List.size_toArray]; omega)
  have ea : its.toArray ++ its2.toArray = (its ++ its2).toArray := by simp
  rw [ea]
  exact ⟨.ref _, _, I.lnew (t' := s.toks) (r.append r2) (by rw [List.length_append]; omega), rfl, q _ I.fresh⟩
end
end SX0

set_option Elab.async false
set_option linter.all false
set_option maxRecDepth 100000
set_option maxHeartbeats 4000000
namespace SX0
open PySem PySem.Spec PyProof.Rows L2
/-- a caught exception that is kept: its class, its own dict -/
def xob (a : Addr) (cls : Value) (d : Option Addr) : HO := .ext fun h => ∃ o vs, h.get? a = some o ∧ o.cls = cls ∧ o.dict = d ∧ o.data = .fields vs
theorem xob_ok {P : Program} {w : World} {H : Hp} {h : Heap} {a : Addr} {cls : Value} {d : Option Addr} {oe : Obj} {vs : Array Value} (e : h.get? a = some oe) (z : Zc cls d oe) (hd : oe.data = .fields vs) : ObjOk P w H h a (xob a cls d) :=
  ⟨⟨oe, vs, e, z.1, z.2, hd⟩, ⟨_, e⟩, fun h1 h2 q k => by
    obtain ⟨o, vs, e, q⟩ := q
    exact ⟨o, vs, k _ e, q⟩⟩
theorem xob_at {P : Program} {w : World} {H : Hp} {h : Heap} {a : Addr} {cls : Value} {d : Option Addr} (hok : HOk P w H h) (e : H a = some (xob a cls d)) : ∃ o vs, h.get? a = some o ∧ o.cls = cls ∧ o.dict = d ∧ o.data = .fields vs := by
  have x : ObjOk P w H h a (.ext fun h => ∃ o vs, h.get? a = some o ∧ o.cls = cls ∧ o.dict = d ∧ o.data = .fields vs) := hok a _ e
  exact x.1
section
variable {X : Cx} {pins : List (Addr × Obj)} {σ : L2.St} {H : Hp} {s : Shared}
theorem Inv.track {a : Addr} {o : HO} (I : Inv X pins σ H s) (hn : X.s_0.heap.get? a = none) (na : H a = none) (nL : a ≠ X.env.locals) (nC : ∀ x c, X.env.cells.lookup x = some c → c ≠ a)
    (np : ∀ p ∈ X.pn ++ pins, p.1 ≠ a) (ok : ObjOk X.prog X.w (upd H a o) s.heap a o) : Inv X pins σ (upd H a o) s := by
  refine ⟨I.ok, I.os, I.bare, ⟨I.base.keep, I.base.slot, fun b o' e n hx => ?_, I.base.there, fun b xs e => ?_, fun b o' u e => ?_, fun b ps e => ?_⟩, I.loc, I.cell, ?_, fun x c e => ?_, fun p hp => ?_, fun b u e => ?_, I.len⟩
  · rw [upd_ne (fun z => by rw [z, hn] at e; cases e)]
    exact I.base.free b o' e n hx
  · have q := I.base.tups b xs e
    rw [upd_ne (ne_of_none q na)]; exact q
  · have q := I.base.frzs b o' u e
    rw [upd_ne (ne_of_none q na)]; exact q
  · obtain ⟨m, q⟩ := I.base.tbls b ps e
    exact ⟨m, by rw [upd_ne (ne_of_none q na)]; exact q⟩
  · rw [upd_ne (Ne.symm nL)]; exact I.free
  · rw [upd_ne (nC x c e)]; exact I.freeC x c e
  · obtain ⟨e, n, r⟩ := I.pin p hp
    exact ⟨e, by rw [upd_ne (np p hp)]; exact n, r⟩
  · by_cases hb : b = a
    · subst hb
      rw [upd_same] at e; cases e; exact ok
    · rw [upd_ne hb] at e
      exact (I.hok b u e).stay (fun _ _ _ q => q) (fun c q => by rw [upd_ne (ne_of_none q na)]; exact q) fun c xs q => by rw [upd_ne (ne_of_none q na)]; exact q
theorem Inv.suite0 (I : Inv X pins σ H s) (a : Addr) : Inv (X.suite a (X.pn ++ pins)) [] σ H s :=
  ⟨I.ok.suite _ _, I.os, I.bare, I.base, I.loc, I.cell, I.free, I.freeC, fun p hp => by
    rw [List.append_nil] at hp
    exact I.pin p hp, I.hok, I.len⟩
theorem Inv.unsuite0 {a : Addr} {pn' : List (Addr × Obj)} (I : Inv (X.suite a (X.pn ++ pins)) pn' σ H s) (ok : X.Ok) : Inv X pins σ H s :=
  ⟨ok, I.os, I.bare, I.base, I.loc, I.cell, I.free, I.freeC, fun p hp => I.pin p (List.mem_append_left _ hp), I.hok, I.len⟩
end
/-- what the clause 'except x as n' wishes, where the caught exception is kept in the heap -/
def wAsT (K : PySem.W.Frag) (c : Value) (i : Nat) (ts : TS) (Wout : WX) (D : Ends) : WX := fun cls d σ H =>
  ∃ b, PySem.W.exmOne K cls c = some b ∧ (b = true → ∀ a, H a = none → ts { nx := fun σ' H' => D.nx (σ'.set i none) H', rt := D.rt, bk := fun σ' H' => D.bk (σ'.set i none) H', ct := fun σ' H' => D.ct (σ'.set i none) H' } (σ.set i (some (.ref a))) (upd H a (xob a cls d))) ∧
    (b = false → Wout cls d σ H)
section
variable {X : Cx} {x n : Str} {c : Value} {i : Nat} {body suite : List Stmt} {b₀ : Stmt} {np pos pos' : Pos} {tb : WX → TS} {ts : TS} {Wout : WX}
theorem ps_try_asT (hs : X.stack = X.env :: X.outer) (hf : X.env.frame = some X.env.locals) (hex : X.ex = []) (hN : X.N.Nodup) (hi : X.N[i]? = some n) (hln : X.env.kindOf n = some .local) (hc : Names X x c) (tk : Takes X Wout)
    (hb : ∀ (W : WX) (pn : List (Addr × Obj)) (xe : Value → Shared → Prop), Takes (X.tr pn xe) W → PassesOwn (model X.prog X.w) X.A X.env xe → PSs (X.tr pn xe) body (tb W))
    (hsu : ∀ (a : Addr) (pn : List (Addr × Obj)), PSs (X.suite a pn) (b₀ :: suite) ts) :
    PS X (.Try body [.ExceptHandler (some (.Name x np)) (some n) (b₀ :: suite) pos'] [] [] pos) (fun D σ H => tb (wAsT X.K c i ts Wout D) D σ H) := by
  refine ⟨fun pins s σ H D I h => ?_⟩
  have ok := I.ok
  have hfr : X.A.frames = some (X.env :: X.outer) := by rw [ok.frames, hs]
  have hloc : Loc X.env.scope n := .inl hln
  refine wpAny_Try_except ?_
  refine wpAny_mono ((hb (wAsT X.K c i ts Wout D) (X.pn ++ pins) (fun e s₁ => wpAny (model X.prog X.w) X.A (noteFrame e X.env) (fun _ s₂ => wpAny (model X.prog X.w) X.A (setFlight e none) (fun _ s₃ =>
    wpAny (model X.prog X.w) X.A (handleBy e X.env [.ExceptHandler (some (.Name x np)) (some n) (b₀ :: suite) pos']) (SP X pins D) X.xe s₃) X.xe s₂) X.xe s₁) (fun u s' xx => ?_) PassesOwn.looking).run [] s σ H D (I.toTry _) h) (fun f s1 hsp => ?_) (fun e s1 he => he)
  · -- the catch
    obtain ⟨a, B, sI, pins', σ', H', cls, d, rfl, J', nb, up, sky, na, os, ag, b, hb1, hyes, hno⟩ := xx
    have J : Inv X pins σ' H' sI := J'.ofTry ok
    have sky' : Sky B (X.env :: X.outer) a (Zc cls d) X.env.locals s'.heap := by rw [← hs]; exact sky
    show wpAny (model X.prog X.w) X.A (noteFrame (.ref a) X.env) _ _ _
    refine Sky.land Zc.steady hfr hf sky' fun h3 fl3 up3 => ?_
    have J3 : Inv X pins σ' H' { s' with heap := h3 } := J.landed nb fl3.1 (up.trans up3) os ag
    obtain ⟨oe3, vs3, he3, hz3, hd3⟩ := fl3.there
    have notFr : ∀ {h : Heap} {o : Obj} {vs : Array Value}, h.FunFrames B (X.env :: X.outer) → h.get? a = some o → o.data = .fields vs → a ∉ frs (X.env :: X.outer) := fun {h o vs} ff e dd hm => by
      obtain ⟨_, o', e', hnf⟩ := ff.mem hm
      rw [e] at e'; cases e'
      exact hnf _ dd
    have nfr := notFr fl3.2.2.1 he3 hd3
    have nL : a ≠ X.env.locals := fun z => nfr (List.mem_filterMap.mpr ⟨X.env, List.mem_cons_self, by rw [hf, z]⟩)
    have nF : a ∉ X.fs := fun hm => by
      obtain ⟨e, he, q⟩ := List.mem_filterMap.mp hm
      exact nfr (List.mem_filterMap.mpr ⟨e, List.mem_cons_of_mem _ he, q⟩)
    have hBa : B.get? a = none := fl3.2.1
    have hIa : sI.heap.get? a = none := by
      cases q : sI.heap.get? a with
      | none => rfl
      | some o =>
        have z := nb a o q (by rw [hs]; exact nfr)
        rw [hBa] at z; cases z
    have h0a : X.s_0.heap.get? a = none := by
      cases q : X.s_0.heap.get? a with
      | none => rfl
      | some o =>
        obtain ⟨o', z⟩ := J.base.there a o q (by rw [hex]; simp)
        rw [hIa] at z; cases z
    have nC : ∀ x c, X.env.cells.lookup x = some c → c ≠ a := fun x c e z => by
      obtain ⟨v, o, ho, hdt⟩ := J.cell x c e
      rw [z, hIa] at ho; cases ho
    have npin : ∀ p ∈ X.pn ++ pins, p.1 ≠ a := fun p hp z => by
      obtain ⟨e, _⟩ := J.pin p hp
      rw [z, hIa] at e; cases e
    have S3 := J3.suite he3 hd3 na nL nF
    refine wpAny_handleBy_cons (codeAny_handlers_test ?_) (by intro q; cases q)
    have LT : PySem.W.Looks (model X.prog X.w) h3 (typeOf (.ref a)) cls := fun A Q E s k q => wpAny_typeOf_ref (k _ _ he3) (by rw [hz3.1]; exact q)
    have LM := PySem.W.exm_one (M := model X.prog X.w) (J3.kIn) LT hb1
    have test : ∀ {Q : Value → Shared → Prop} {E : Value → Shared → Prop}, Q c { s' with heap := h3 } → wpAny (model X.prog X.w) (X.A.mark (some (.ref a))) (eval (.Name x np) X.env) Q E { s' with heap := h3 } := fun {Q E} q => by
      obtain ⟨hg, hdbg, hm | ⟨hm, hv, hnn⟩⟩ := hc
      · exact ld_glob (X := X.suite a ((a, oe3) :: (X.pn ++ pins))) S3 hg hm q hdbg
      · exact ld_blt (X := X.suite a ((a, oe3) :: (X.pn ++ pins))) S3 hg hm hv q hnn hdbg
    refine test (LM.here ?_)
    cases b with
    | true =>
      refine codeAny_handlers_suite_as ?_
      refine HandSPX.lands_againZ fl3 fun h4 fl4 up4 => ?_
      have J4 : Inv X pins σ' H' { s' with heap := h4 } := J.landed nb fl4.1 ((up.trans up3).trans up4) os ag
      obtain ⟨oe4, vs4, he4, hz4, hd4⟩ := fl4.there
      have J5 : Inv X pins σ' (upd H' a (xob a cls d)) { s' with heap := h4 } := Inv.track J4 h0a na nL nC npin (xob_ok he4 hz4 hd4)
      have S4 := Inv.suite0 J5 a
      refine store_ok (X := X.suite a (X.pn ++ pins)) (v := .ref a) S4 hN hi hloc rfl (fun s5 S5 => ?_) (.inr hln)
      refine wpAny_mono ((hsu a (X.pn ++ pins)).run [] s5 _ _ _ S5 (hyes rfl a na)) (fun f s6 hsp => ?_) (fun _ _ z => False.elim z)
      have end_ : ∀ {σ6 : L2.St} {H6 : Hp} {Q : Shared → Prop}, Inv (X.suite a (X.pn ++ pins)) [] σ6 H6 s6 → (∀ s7, Inv X pins (σ6.set i none) H6 s7 → Q s7) →
          wpAny (model X.prog X.w) X.A (do bindName X.env n .none; unbindBehindTheSuite X.env n pos') (fun _ s7 => Q s7) X.xe s6 := fun {σ6 H6 Q} S6 hq => gone_ok (Inv.unsuite0 S6 ok) hN hi hln hq
      cases f with
      | next =>
        obtain ⟨σ6, H6, S6, q6⟩ := hsp
        exact end_ S6 fun s7 J7 => ⟨_, _, J7, q6⟩
      | brk =>
        obtain ⟨σ6, H6, S6, q6⟩ := hsp
        exact end_ S6 fun s7 J7 => ⟨_, _, J7, q6⟩
      | cont =>
        obtain ⟨σ6, H6, S6, q6⟩ := hsp
        exact end_ S6 fun s7 J7 => ⟨_, _, J7, q6⟩
      | ret u =>
        obtain ⟨v6, σ6, H6, S6, r6, q6⟩ := hsp
        exact end_ S6 fun s7 J7 => ⟨_, _, _, J7, r6, q6⟩
    | false =>
      show wpAny _ X.A (handleBy (.ref a) X.env []) _ _ _
      refine wpAny_handleBy_nil ?_
      obtain ⟨k1, k2, k3, oe, vs, T, oT, ts', he, hz, hd, h1, hr⟩ := id fl3
      unfold PySem.passOn
      refine wpAny_bind (wpAny_field he hd h1 ?_)
      rw [if_neg (show ¬ ((Value.ref T == Value.none) = true) from by simp)]
      have fin : wpAny (model X.prog X.w) X.A (setFlight (.ref a) X.env.frame) (fun _ s4 => wpAny (model X.prog X.w) X.A (throw (.ref a) : Sem Flow) (SP X pins D) X.xe s4) X.xe { s' with heap := h3 } := by
        rw [hf]
        refine HandSPX.setFlight_upZ fl3 fun h4 hh4 up4 => wpAny_throw (tk _ _ ?_)
        exact ⟨a, B, sI, pins, σ', H', cls, d, rfl, J, nb, (up.trans up3).trans up4, .inr (.inr (by rw [hs]; exact hh4)), na, os, ag, hno rfl⟩
      first
        | exact wpAny_bind (wpAny_pure (wpAny_bind fin))
        | exact wpAny_bind fin
  · cases f with
    | next =>
      obtain ⟨σ', H', J', q⟩ := hsp
      exact wpAny_execs_nil ⟨σ', H', J'.ofTry ok, q⟩
    | brk =>
      obtain ⟨σ', H', J', q⟩ := hsp
      exact ⟨σ', H', J'.ofTry ok, q⟩
    | cont =>
      obtain ⟨σ', H', J', q⟩ := hsp
      exact ⟨σ', H', J'.ofTry ok, q⟩
    | ret u =>
      obtain ⟨v, σ', H', J', r, q⟩ := hsp
      exact ⟨v, σ', H', J'.ofTry ok, r, q⟩
end
/-! ### a kept exception is asked -/
/-- a value's type, kept exceptions too -/
inductive TyE (K : PySem.W.Frag) (H : Hp) : V → Value → Prop where
  | base {x : V} {t : Value} (h : TyX K H x t) : TyE K H x t
  | exc {a D : Addr} (C : ExcC K D) (e : H a = some (xob a (.ref D) none)) : TyE K H (.ref a) (.ref D)
section
variable {X : Cx} {pins : List (Addr × Obj)} {σ : L2.St} {H : Hp} {s : Shared}
theorem kit_ofE {x : V} {u t : Value} (I : Inv X pins σ H s) (rx : RelV x u) (ty : TyE X.K H x t) : ∃ P : Heap → Prop, PySem.W.KitX X.K u t P ∧ P s.heap ∧ u ≠ .builtin "__main__.__loader__#opaque" := by
  cases ty with
  | base h => exact kit_of I rx h
  | @exc a D C e =>
    cases (show u = Value.ref a from rx)
    obtain ⟨o, vs, e1, e2, e3, e4⟩ := xob_at I.hok e
    obtain ⟨oc, od, ot, os⟩ := o
    simp only at e2 e3 e4
    subst e2 e3 e4
    exact ⟨_, PySem.W.handS_kitx_exc C.hg C.hk C.hs C.hd C.ha C.hn C.ht C.hm, ⟨e1, rfl, rfl, trivial⟩, fun z => nomatch z⟩
end
def rIsiE (K : PySem.W.Frag) : List V → Hp → VK → Prop := fun xs H Q => ∃ (x c : V) (t u : Value) (b : Bool), xs = [x, c] ∧ ClsV c u ∧ TyE K H x t ∧ PySem.W.kitOne K t u = some b ∧ Q (.bl b) H
def rIsiTE (K : PySem.W.Frag) : List V → Hp → VK → Prop := fun xs H Q => ∃ (x : V) (tp : Addr) (cs : List V) (t : Value) (us : List Value) (b : Bool), xs = [x, .ref tp] ∧ H tp = some (.tup cs) ∧ Paired ClsV cs us ∧ TyE K H x t ∧ PySem.W.kitAny K t us = some b ∧ Q (.bl b) H
section
variable {X : Cx}
theorem call_isiE : CallR X (.builtin "isinstance") (rIsiE X.K) := by
  intro pins s σ H xs us Q I r h
  obtain ⟨x, c, t, u, b, rfl, k, ty, e, q⟩ := h
  obtain ⟨u1, u2, rfl, r1, r2⟩ := vals2 r
  have e2 := k.eq r2
  subst e2
  obtain ⟨P, Z, p, hx⟩ := kit_ofE I r1 ty
  exact PySem.W.kia_one Z I.kIn p e hx fun tk => ⟨.bl b, H, I.tok tk, rfl, q⟩
theorem call_isiTE : CallR X (.builtin "isinstance") (rIsiTE X.K) := by
  intro pins s σ H xs us Q I r h
  obtain ⟨x, tp, cs, t, ws, b, rfl, hT, k, ty, e, q⟩ := h
  obtain ⟨u1, u2, rfl, r1, r2⟩ := vals2 r
  cases (show u2 = Value.ref tp from r2)
  obtain ⟨P, Z, p, hx⟩ := kit_ofE I r1 ty
  obtain ⟨_, its, rv, o, h1, h2, n, h3⟩ := (show ObjOk X.prog X.w H s.heap tp (.tup cs) from I.hok tp _ hT)
  have e3 := ClsV.all k rv
  subst e3
  obtain ⟨oc, od, dt, sl⟩ := o
  simp only at h2 h3
  subst h2 h3
  exact PySem.W.kia_tup Z I.kIn p h1 e hx fun tk => ⟨.bl b, H, I.tok tk, rfl, q⟩
end
end SX0

set_option Elab.async false
set_option linter.all false
set_option maxRecDepth 100000
set_option maxHeartbeats 4000000
namespace SX0
open PySem PySem.Spec PyProof.Rows L2
/-! ### short names of readings -/
abbrev oAdd : R2 := rI0 fun i j => .int (i + j)
abbrev oSub : R2 := rI0 fun i j => .int (i - j)
abbrev oMul : R2 := rI CMul fun i j => .int (i * j)
abbrev oFdv : R2 := rI CDivW fun i j => .int (i / j)
abbrev oMod : R2 := rI (fun _ j => 0 < j) fun i j => .int (i % j)
abbrev oPow : R2 := rI CPow fun i j => .int (i ^ j.toNat)
abbrev oNeg : V → Hp → VK → Prop := rU fun i => .int (-i)
abbrev oLt : R2 := rI0 fun i j => .bl (decide (i < j))
abbrev oLe : R2 := rI0 fun i j => .bl (decide (i ≤ j))
abbrev oGt : R2 := rI0 fun i j => .bl (decide (j < i))
abbrev oGe : R2 := rI0 fun i j => .bl (decide (j ≤ i))
abbrev oIsN : R2 := fun x y H Q => y = .non ∧ Q (.bl (decide (x = .non))) H
abbrev oNotN : R2 := fun x y H Q => y = .non ∧ Q (.bl (!decide (x = .non))) H
abbrev oAddStr : R2 := fun x y H Q => ∃ i j, x = .str i ∧ y = .str j ∧ i.length + j.length ≤ sizeLine ∧ Q (.str (i ++ j)) H
abbrev oInSign : R2 := fun x y H Q => ∃ (c : Nat) (z : Str), x = .str ⟨#[c]⟩ ∧ y = .str z ∧ Q (.bl (decide (c ∈ z.cps.toList))) H
abbrev oNotInSign : R2 := fun x y H Q => ∃ (c : Nat) (z : Str), x = .str ⟨#[c]⟩ ∧ y = .str z ∧ Q (.bl (!decide (c ∈ z.cps.toList))) H
abbrev cLenD : List V → Hp → VK → Prop := fun xs H Q => ∃ a kvs, xs = [V.ref a] ∧ H a = some (.dK kvs) ∧ Q (.int kvs.length) H
abbrev cLenStr : List V → Hp → VK → Prop := fun xs H Q => ∃ z, xs = [.str z] ∧ z.length ≤ sizeLine ∧ Q (.int z.length) H
abbrev cLenSeq (K : PySem.W.Frag) : List V → Hp → VK → Prop := fun xs H Q => ∃ p ys, xs = [.ref p] ∧ (SqL K H p ys ∨ SqT K H p ys) ∧ Q (.int ys.length) H
abbrev cAbs : List V → Hp → VK → Prop := fun xs H Q => ∃ i, xs = [.int i] ∧ Q (.int (if i < 0 then -i else i)) H
abbrev cMax2 : List V → Hp → VK → Prop := fun xs H Q => ∃ i j, xs = [.int i, .int j] ∧ Q (.int (if j > i then j else i)) H
abbrev cMin2 : List V → Hp → VK → Prop := fun xs H Q => ∃ i j, xs = [.int i, .int j] ∧ Q (.int (if j < i then j else i)) H
abbrev cListOf (K : PySem.W.Frag) : List V → Hp → VK → Prop := fun xs H Q => ∃ p ys, xs = [.ref p] ∧ (SqL K H p ys ∨ SqT K H p ys) ∧ ∀ l, H l = none → Q (.ref l) (upd H l (.lst ys))
abbrev cTupleOf (K : PySem.W.Frag) : List V → Hp → VK → Prop := fun xs H Q => ∃ p ys, xs = [.ref p] ∧ ((SqL K H p ys ∧ ∀ l, H l = none → Q (.ref l) (upd H l (.tup ys))) ∨ (SqT K H p ys ∧ Q (.ref p) H))
abbrev cListDk : List V → Hp → VK → Prop := fun xs H Q => ∃ (a : Addr) (kvs : List (Key × V)), xs = [.ref a] ∧ Rd H a (.dK kvs) ∧ ∀ p, H p = none → Q (.ref p) (upd H p (.lst (kvs.map fun kv => kV kv.1)))
abbrev cDictD : List V → Hp → VK → Prop := fun xs H Q => ∃ (a : Addr) (kvs : List (Key × V)), xs = [.ref a] ∧ Rd H a (.dK kvs) ∧ ∀ p, H p = none → Q (.ref p) (upd H p (.dK kvs))
abbrev cDictP (K : PySem.W.Frag) : List V → Hp → VK → Prop := fun xs H Q => ∃ (a : Addr) (ps : List Addr) (kvs : List (Key × V)), xs = [.ref a] ∧ SqL K H a (ps.map V.ref) ∧ Paired (fun p kv => SqT K H p [kV kv.1, kv.2]) ps kvs ∧ ∀ p, H p = none → Q (.ref p) (upd H p (.dK (mergeK [] kvs)))
abbrev cInt1 : List V → Hp → VK → Prop := fun xs H Q => (∃ i, xs = [.int i] ∧ Q (.int i) H) ∨ ∃ k, xs = [.bl k] ∧ Q (.int (if k then 1 else 0)) H
abbrev cIntStr : List V → Hp → VK → Prop := fun xs H Q => ∃ a n, xs = [.str a] ∧ PySem.intText? a = some n ∧ a.length ≤ 640 ∧ Q (.int n) H
abbrev cStrInt : List V → Hp → VK → Prop := fun xs H Q => ∃ i, xs = [.int i] ∧ i.natAbs.log2 < 1920 ∧ Q (.str (toString i)) H
abbrev cSplit : V → List V → Hp → VK → Prop := fun x xs H Q => ∃ a b, x = .str a ∧ xs = [.str b] ∧ (b.length == 0) = false ∧ a.length + 2 ≤ sizeLine ∧ rNewStrs (Txt.split a b) H Q
abbrev cJoin (K : PySem.W.Frag) : V → List V → Hp → VK → Prop := fun x xs H Q => ∃ a p, ∃ ys : List Str, x = .str a ∧ xs = [.ref p] ∧ (SqL K H p (ys.map V.str) ∨ SqT K H p (ys.map V.str)) ∧
      (ys.map (·.length)).sum + ys.length * a.length ≤ 16777216 ∧ Q (.str (Txt.join a ys)) H
abbrev cUpper : V → List V → Hp → VK → Prop := fun x xs H Q => ∃ a, x = .str a ∧ xs = [] ∧ a.length ≤ 5592405 ∧ Q (.str (Txt.upper a)) H
def tTru (K : PySem.W.Frag) (ta : TE) : TT := fun σ H Q => ta σ H fun x H' => ∃ k, TruV K x H' k ∧ Q k H'
def tRz (C : Addr) (W : WX) : TS := fun _ σ H => W (.ref C) none σ H
def tTryT (K : PySem.W.Frag) (c : Value) (i : Nat) (tb : WX → TS) (ts : TS) (Wout : WX) : TS := fun D σ H => tb (wAsT K c i ts Wout D) D σ H
/-! ### the module's constants -/
section
variable {X : Cx}
theorem pe_globI {x : Str} {i : Int} {pos : Pos} (hg : Gl X x) (hm : ∃ t, X.mg x = some (.int i t)) (hd : (x == ("__debug__" : Str)) = false := by decide) : PE X (.Name x pos) (tC (.int i)) := by
  obtain ⟨t, e⟩ := hm
  exact pe_glob hg e ⟨_, rfl⟩ hd
theorem pe_globS {x z : Str} {pos : Pos} (hg : Gl X x) (hm : ∃ t, X.mg x = some (.str z t)) (hd : (x == ("__debug__" : Str)) = false := by decide) : PE X (.Name x pos) (tC (.str z)) := by
  obtain ⟨t, e⟩ := hm
  exact pe_glob hg e ⟨_, rfl⟩ hd
/-! ### fields of instances of some classes -/
def FdOk (K : PySem.W.Frag) (Cs : List Addr) (f : Str) : Prop := ∀ C ∈ Cs, Cls K C ∧ NoAttr K C f
theorem fdok_nil {K : PySem.W.Frag} {f : Str} : FdOk K [] f := fun _ h => nomatch h
theorem fdok_cons {K : PySem.W.Frag} {f : Str} {C : Addr} {Cs : List Addr} (h1 : Cls K C) (h2 : NoAttr K C f) (h : FdOk K Cs f) : FdOk K (C :: Cs) f := fun D hD => by
  rcases List.mem_cons.mp hD with e | e
  · rw [e]; exact ⟨h1, h2⟩
  · exact h D e
def tFd (Cs : List Addr) (f : Str) (ta : TE) : TE := fun σ H Q => ta σ H fun x H1 => ∃ a C dx fs v, x = .ref a ∧ H1 a = some (.ins C dx fs) ∧ C ∈ Cs ∧ fs.lookup f = some v ∧ Q v H1
def sFd (Cs : List Addr) (ta tv : TE) (f : Str) : TS := fun D σ H => tv σ H fun y H1 => ta σ H1 fun x H2 => ∃ a C dx fs, x = .ref a ∧ H2 a = some (.ins C dx fs) ∧ C ∈ Cs ∧ fs.length < 1000 ∧
  D.nx σ (upd H2 a (.ins C dx (putF f y fs)))
def sFdAug (Cs : List Addr) (ta tv : TE) (rd : V → V → Hp → VK → Prop) (f : Str) : TS := fun D σ H => ta σ H fun x H1 => ∃ a C dx fs v, x = .ref a ∧ H1 a = some (.ins C dx fs) ∧ C ∈ Cs ∧ fs.lookup f = some v ∧
  tv σ H1 fun y H2 => rd v y H2 fun z H3 => ∃ dx' fs', H3 a = some (.ins C dx' fs') ∧ fs'.length < 1000 ∧ D.nx σ (upd H3 a (.ins C dx' (putF f z fs')))
theorem pe_fd {Cs : List Addr} {f : Str} {e : Expr} {ta : TE} {pos : Pos} (ok : FdOk X.K Cs f) (he : PE X e ta) (hb : attributeBase e f X.env (eval e X.env) = eval e X.env) : PE X (.Attribute e f pos) (tFd Cs f ta) := by
  refine ⟨fun pins s σ H Q I h => ?_⟩
  refine attr_of hb (thn (he.run pins s σ H _ I h) fun u s1 ⟨x, H1, I1, rx, a, C, dx, fs, v, ex, ea, hC, l, q⟩ => ?_)
  subst ex
  obtain rfl : u = Value.ref a := rx
  exact getattr_ok I1 ea (ok C hC).1 (ok C hC).2 l fun u' s2 I2 ru => ⟨v, H1, I2, ru, q⟩
theorem ps_fd {Cs : List Addr} {f : Str} {o value : Expr} {ta tv : TE} {pos pos' : Pos} (ok : FdOk X.K Cs f) (ha : PE X o ta) (hv : PE X value tv) (hs : swapsWith value (some (.Attribute o f pos')) pos.line X.env = pure false) : PS X (.Assign [.Attribute o f pos'] value pos) (sFd Cs ta tv f) := by
  refine ⟨fun pins s σ H D I h => ?_⟩
  refine plainObj_wpAny_Assign_Attribute (thn (hv.run pins s σ H _ I h) fun u s1 ⟨y, H1, I1, ry, q⟩ => thn (ha.run pins s1 σ H1 _ I1 q) fun ov s2 ⟨x, H2, I2, rx, a, C, dx, fs, ex, ea, hC, l, q2⟩ => ?_) hs
  subst ex
  obtain rfl : ov = Value.ref a := rx
  exact setattr_ok I2 ea (ok C hC).1 (ok C hC).2 l ry fun s3 I3 => ⟨σ, _, I3, q2⟩
theorem ps_fdaug {Cs : List Addr} {f : Str} {o value : Expr} {ta tv : TE} {pos tpos : Pos} {op : Operator} {rd : V → V → Hp → VK → Prop} (ok : FdOk X.K Cs f) (ha : PE X o ta) (hv : PE X value tv) (hop : InOp X op rd) : PS X (.AugAssign (.Attribute o f tpos) op value pos) (sFdAug Cs ta tv rd f) := by
  refine ⟨fun pins s σ H D I h => ?_⟩
  refine wpAny_AugAssign_AttributeAny (thn (ha.run pins s σ H _ I h) fun ov s1 ⟨x, H1, I1, rx, a, C, dx, fs, v, ex, ea, hC, l, q⟩ => ?_)
  subst ex
  obtain rfl : ov = Value.ref a := rx
  refine getattr_ok I1 ea (ok C hC).1 (ok C hC).2 l fun u s2 I2 ru => thn (hv.run pins s2 σ H1 _ I2 q) fun w3 s3 ⟨y, H2, I3, ry, q3⟩ => thn (hop pins s3 σ H2 v y u w3 _ I3 ru ry q3) fun w4 s4 ⟨z, H3, I4, rz, dx', fs', ea', l', q4⟩ => ?_
  exact setattr_ok I4 ea' (ok C hC).1 (ok C hC).2 l' rz fun s5 I5 => ⟨σ, _, I5, q4⟩
end
/-! ### a walk over a dict, locked here or locked already -/
def tLock2 (t : TS) : TS := fun D σ H => tLock t D σ H ∨ ∃ d od u, H d = some (.frz od u) ∧ t ⟨fun σ' H' => H' d = some (.frz od u) ∧ D.nx σ' H', fun v H' => H' d = some (.frz od u) ∧ D.rt v H', fun σ' H' => H' d = some (.frz od u) ∧ D.bk σ' H', fun σ' H' => H' d = some (.frz od u) ∧ D.ct σ' H'⟩ σ H
def tLockE2 (t : TE) : TE := fun σ H Q => tLockE t σ H Q ∨ ∃ d od u, H d = some (.frz od u) ∧ t σ H fun v H' => H' d = some (.frz od u) ∧ Q v H'
section
variable {X : Cx}
theorem ps_lock2 {st : Stmt} {t : TS} (h : PS X st t) : PS X st (tLock2 t) := by
  refine ⟨fun pins s σ H D I hw => ?_⟩
  rcases hw with hw | ⟨d, od, u, hd, hw⟩
  · exact (ps_lock h).run pins s σ H D I hw
  · refine thn (h.run pins s σ _ _ I hw) fun f s1 q => ?_
    cases f with
    | next => obtain ⟨σ', H', I2, e, q⟩ := q; exact ⟨σ', _, I2, q⟩
    | brk => obtain ⟨σ', H', I2, e, q⟩ := q; exact ⟨σ', _, I2, q⟩
    | cont => obtain ⟨σ', H', I2, e, q⟩ := q; exact ⟨σ', _, I2, q⟩
    | ret v => obtain ⟨x, σ', H', I2, r, e, q⟩ := q; exact ⟨x, σ', _, I2, r, q⟩
theorem pe_lock2 {e : Expr} {t : TE} (h : PE X e t) : PE X e (tLockE2 t) := by
  refine ⟨fun pins s σ H Q I hw => ?_⟩
  rcases hw with hw | ⟨d, od, u, hd, hw⟩
  · exact (pe_lock h).run pins s σ H Q I hw
  · exact thn (h.run pins s σ _ _ I hw) fun v s1 ⟨x, H1, I2, r, e2, q⟩ => ⟨x, _, I2, r, q⟩
end
section
variable {X : Cx} {x n : Str} {c : Value} {i : Nat} {body suite : List Stmt} {b₀ : Stmt} {np pos pos' : Pos} {tb : WX → TS} {ts : TS} {Wout : WX}
theorem ps_tryT (hs : X.stack = X.env :: X.outer) (hf : X.env.frame = some X.env.locals) (hex : X.ex = []) (hN : X.N.Nodup) (hi : X.N[i]? = some n) (hln : X.env.kindOf n = some .local) (hm : X.mg x = some c) (tk : Takes X Wout)
    (hb : ∀ (W : WX) (pn : List (Addr × Obj)) (xe : Value → Shared → Prop), Takes (X.tr pn xe) W → PassesOwn (model X.prog X.w) X.A X.env xe → PSs (X.tr pn xe) body (tb W))
    (hsu : ∀ (a : Addr) (pn : List (Addr × Obj)), PSs (X.suite a pn) (b₀ :: suite) ts) (hg : Gl X x := by rfl) (hd : (x == ("__debug__" : Str)) = false := by decide) :
    PS X (.Try body [.ExceptHandler (some (.Name x np)) (some n) (b₀ :: suite) pos'] [] [] pos) (tTryT X.K c i tb ts Wout) :=
  ps_try_asT hs hf hex hN hi hln ⟨hg, hd, Or.inl hm⟩ tk hb hsu
end
section
variable {X : Cx} {W : WX}
/-- raise C('m'), C an own class without __init__ -/
theorem ps_rz {x m : Str} {C : Addr} {j : Nat} {p p2 pos pos2 : Pos} (hc : X.calm = true) (tk : Takes X W) (gC : X.mg x = some (.ref C))
    (q : PySem.W.excIn X.K C He.veBase "ValueError.__new__" = true ∧ PySem.W.keepIn X.K (.ref C) = true ∧ PySem.W.subIn X.K (.ref C) (.type "BaseException") = some true ∧ PySem.W.typeIn X.K (.ref C) = some (.type "type"))
    (hg : Gl X x := by rfl) (hdb : (x == ("__debug__" : Str)) = false := by decide) :
    PS X (.Raise (some (.Call (.Name x p) [.Constant (.str m) j p2] [] pos)) none pos2) (tRz C W) :=
  ps_raise hc tk (pmk_own PySem.F.excBase_ValueError q.1 gC q.2.1 (raises_own q.2.2.1 q.2.2.2) hg hdb)
end
/-! ### sorted(d), a dict of ints, any number of them -/
def cSortedDk : List V → Hp → VK → Prop := fun xs H Q => ∃ (a : Addr) (kvs : List (Key × V)) (ks : List Int), xs = [.ref a] ∧ Rd H a (.dK kvs) ∧ kvs.map (·.1) = ks.map Sum.inl ∧
    ∀ (ys : List Int) (p : Addr), ys.Perm ks → ys.Pairwise (· ≤ ·) → H p = none → Q (.ref p) (upd H p (.lst (ys.map V.int)))
section
variable {X : Cx}
theorem cr_sortedDk (hcalm : X.calm = true) : CallR X (.builtin "sorted") cSortedDk := by
  intro pins s σ H xs us Q I r q
  obtain ⟨a, kvs, ks, ex, hd, hks, q⟩ := q
  subst ex
  obtain ⟨u, eu, rx⟩ := vals1 r
  subst eu
  cases rx
  obtain ⟨z, lo, vs, rel, dd⟩ := dk_rd I.hok hd
  obtain ⟨ep, hat⟩ := dd.dictAt
  have hkeys : vs.map (·.1) = ks.map Sum.inl := rel.keys.symm.trans hks
  have hl : vs.length = ks.length := by
    have e := congrArg List.length hkeys
    rw [List.length_map, List.length_map] at e
    exact e
  have h16 : vs.length ≤ sizeLine := by rw [← rel.length]; exact z
  refine Calls.call_function_entry PyProof.Rows.kind_sorted PyProof.Rows.plain_sorted PyProof.Rows.entry_sorted (PyProof.Rows.args_sorted1 _) ?_
  unfold Builtin.«sorted»
  refine wpAny_bind (m := checkCount "sorted" 1 1 _) (wpAny_pure ?_)
  refine wpAny_bind (PySem.W.kdu_collect (A := X.A.in1) (PySem.W.kdl_dict (knd := mixKind X.prog X.w) (kvs := vs) (ep := ep) lo) (I.ok.hd hcalm) hat h16 fun h' tk acc hk hacc => ?_)
  have hal : acc.toList.length = ks.length := by rw [Array.length_toList, hacc.1, hl]
  have hS : IntsAre acc.toList ks := ints_each hal fun j v e => by
    obtain ⟨k, x, e1, e2⟩ := hacc.2 j v (by rw [← Array.getElem?_toList]; exact e)
    have e3 : (vs.map (·.1))[j]? = some k := by rw [List.getElem?_map, e1]; rfl
    rw [hkeys, List.getElem?_map] at e3
    cases e4 : ks[j]? with
    | none => rw [e4] at e3; cases e3
    | some y =>
      rw [e4] at e3
      have e5 : Sum.inl y = k := Option.some.inj e3
      subst e5
      rcases keyIs_shape (show keyIs (Sum.inl y) v = true from e2) with ⟨i, t, ek, ev⟩ | ⟨z, t, ek, ev⟩
      · cases ek
        exact ⟨y, t, rfl, ev⟩
      · cases ek
  have I1 : Inv X pins σ H { s with heap := h', toks := tk } := I.kept hk
  have hz : acc.toList.length ≤ sizeLine := by rw [hal, ← hl]; exact h16
  refine wpAny_bind (wpAny_newList ?_ hz)
  have hoL : (h'.push (seqObj "list" acc.toList.toArray 0)).get? h'.objs.size = some (seqObj "list" acc.toList.toArray 0) := Heap.get?_push_size _ rfl
  show wpAny _ _ _ _ _ { s with heap := h'.push (seqObj "list" acc.toList.toArray 0), toks := tk }
  refine wpAny_bind (wpAny_holding (wpAny_call_entry PyProof.Rows.slot_list_sort ⟨_, hoL, rfl⟩ PyProof.Rows.entry_list_sort
    (SrtO.list_sort_ord (s := { s with heap := h'.push (seqObj "list" acc.toList.toArray 0), toks := tk }) SrtO.swo_int hoL hz (fun h2 => SrtO.ints_sortable hS h2) fun out h1 h2 => ⟨_, rfl, ?_⟩) (PyProof.Rows.args_list_sort _)))
  obtain ⟨g1, g2, g3⟩ := SrtO.ints_out hS h1 h2
  obtain ⟨e', he'⟩ := PyProof.Rows.sortedHeap_at (vs := acc.toList) (out := out.toArray) hoL
  have hlen : ((out.map SrtO.iv).map V.int).length ≤ sizeLine := by
    rw [List.length_map, g2.length_eq]
    rw [hal] at hz
    exact hz
  refine wpAny_pure ⟨_, rfl, .ref h'.objs.size, upd H h'.objs.size (.lst ((out.map SrtO.iv).map V.int)), I1.laid (t' := tk) (fun b u e => ?_) (Nat.le_refl _)
    (show ObjOk X.prog X.w _ _ _ (.lst ((out.map SrtO.iv).map V.int)) from ⟨hlen, out, e', vals_of_ints g1, he'⟩), rfl, q _ _ g2 g3 (I1.hok.fresh (Nat.le_refl _))⟩
  have hb : b < h'.objs.size := Heap.lt_size e
  rw [PyProof.Rows.sortedHeap_old (Nat.ne_of_lt hb) (by rw [size_push']; exact Nat.lt_succ_of_lt hb)]
  exact Heap.get?_push_of_some _ e
end
end SX0

set_option Elab.async false
set_option linter.all false
set_option maxRecDepth 100000
set_option maxHeartbeats 4000000
namespace L2
open PySem PySem.Spec PyProof.Rows
section
variable {P : Program} {w : World} {A : Around} {E : Value → Shared → Prop} {s : Shared}
theorem call_set_lstI {l : Addr} {items : Array Value} (ns : List Int) {Q : Value → Shared → Prop} (hh : A.handled = none) (hl : s.heap.IsList l items) (hit : IntsAre items.toList ns) (hb : ns.length + 1 < scanBound)
    (h : ∀ (h' : Heap) (tk c : Nat), SetR w h' s.heap.objs.size (fun j => decide (j ∈ ns)) c → c ≤ ns.length → (∀ b o, s.heap.get? b = some o → h'.get? b = some o) → Q (.ref s.heap.objs.size) { s with heap := h', toks := tk }) :
    wpAny (model P w) A (call (.type "set") [.ref l]) Q E s := by
  have hisz : items.size = ns.length := by
    have q := IntsAre.length hit
    rw [Array.length_toList] at q
    exact q
  obtain ⟨c, tl, hmro⟩ := F.called_set.mro
  have hmade := F.called_set.made
  have hsub := F.called_set.sub
  refine wpAny_call (codeAny_of_tree ?_)
  show wpAny _ _ (callAny (.type "set") _) _ _ _
  refine wpAny_pure ⟨Code.quiet_builtin _ (by decide +kernel), codeAny_builtin F.entry_type_call ?_⟩
  rw [Around.under_plain (weight_type_call_type "set" [.ref l] []) rfl]
  have h1 := F.called_set.notType
  have h2 := F.called_set.canCreate
  have hct := F.typeCall_set_1 (.ref l)
  repeat (any_goals (first | assumption | wp_step))

  refine codeAny_mono (code_set_led1 (.ref l) (E := E) (Q₁ := fun obj s₁ => obj = .ref s.heap.objs.size ∧ s₁ = { s with heap := s.heap.push { cls := .type "set", dict := none, data := .set #[] 0 (.fresh 0 0 (!w.params.followText "set-order")) } }) ⟨rfl, rfl⟩) fun r s₁ hr => ?_
  cases r with
  | error e => exact hr
  | ok fl =>
    cases fl with
    | ret obj =>
      obtain ⟨rfl, rfl⟩ := hr
      have hS : (s.heap.push { cls := .type "set", dict := none, data := .set #[] 0 (.fresh 0 0 (!w.params.followText "set-order")) }).get? s.heap.objs.size = some { cls := .type "set", dict := none, data := .set #[] 0 (.fresh 0 0 (!w.params.followText "set-order")) } := Heap.get?_push_size _ rfl
      have hT : Shared.TypeIs { s with heap := s.heap.push { cls := .type "set", dict := none, data := .set #[] 0 (.fresh 0 0 (!w.params.followText "set-order")) } } (.ref s.heap.objs.size) "set" := ⟨_, hS, rfl⟩
      have hli := F.called_set.init.lookup
      have hbi := F.called_set.init.bind (.ref s.heap.objs.size)
      repeat (any_goals (first | assumption | wp_step))

      refine codeAny_mono (codeAny_call_builtin (R := wants (fun r s₂ => r = .none ∧ ∃ h' tk c, s₂ = { s with heap := h', toks := tk } ∧ SetR w h' s.heap.objs.size (fun j => decide (j ∈ ns)) c ∧ c ≤ ns.length ∧
          (∀ b o, s.heap.get? b = some o → h'.get? b = some o)) E) F.called_set.init.plain F.entry_set_init (check_set_init_1 hT ?_)) fun r₂ s₂ hr₂ => ?_
      · obtain ⟨ol, hol, hcl, nl, hdl⟩ := hl
        obtain ⟨ocls, odict, odata, oslots⟩ := ol
        simp only at hcl hdl
        subst hcl; subst hdl
        have hol' : (s.heap.push { cls := .type "set", dict := none, data := .set #[] 0 (.fresh 0 0 (!w.params.followText "set-order")) }).get? l = some { cls := .type "list", dict := odict, data := .seq items nl, slots := oslots } := Heap.get?_push_of_some _ hol
        have hsls := F.sub_list_set
        have hslf := F.sub_list_frozenset
        have hne : (Value.type "list" == Value.type "dict") = false := by decide
        have hl1 : (s.heap.push { cls := .type "set", dict := none, data := .set #[] 0 (.fresh 0 0 (!w.params.followText "set-order")) }).IsList l items := ⟨_, hol', rfl, nl, rfl⟩
        unfold Builtin.«set.__init__» noKeywords Builtin.Frozenset.updateFrom
        generalize hPI : pyIter = PI
        wp_walk
        subst hPI

        refine wpAny_pyIter_list hl1 ?_
        refine wpAny_bind (wpAny_runValue ?_)
        have hlS : l < s.heap.objs.size := Heap.lt_size hol
        have hh3 : A.in1.in1.in1.handled = none := by simp [hh]
        have hz1 : (s.heap.push { cls := .type "set", dict := none, data := .set #[] 0 (.fresh 0 0 (!w.params.followText "set-order")) }).objs.size = s.heap.objs.size + 1 := Heap.size_push ..
        have hneI : l ≠ (s.heap.push { cls := .type "set", dict := none, data := .set #[] 0 (.fresh 0 0 (!w.params.followText "set-order")) }).objs.size := by
          rw [Heap.size_push]; exact Nat.ne_of_lt (Nat.lt_succ_of_lt hlS)
        have hSf : s.heap.objs.size ∉ [(s.heap.push { cls := .type "set", dict := none, data := .set #[] 0 (.fresh 0 0 (!w.params.followText "set-order")) }).objs.size, l] := by
          rw [Heap.size_push]; simp only [List.mem_cons, List.mem_singleton, List.not_mem_nil, or_false, not_or]
          exact ⟨Nat.ne_of_lt (Nat.lt_succ_self _), Nat.ne_of_gt hlS⟩
        have hval : ∀ (i : Nat) (v : Value), items[i]? = some v → ∃ k t, ns[i]? = some k ∧ v = .int k t := fun i v hv => by
          have hi : i < ns.length := by rw [← hisz]; exact (Array.getElem?_eq_some_iff.mp hv).1
          obtain ⟨t, e⟩ := PyProof.Rows.IntsAre.int_at hit i v (by rw [Array.getElem?_toList]; exact hv)
          refine ⟨ns[i], t, List.getElem?_eq_getElem hi, ?_⟩
          rw [e, List.getD_eq_getElem?_getD, List.getElem?_eq_getElem hi] <;> rfl
        refine set_update_ints ((Walks.list hh3 _ l hneI items).toS) s.heap.objs.size
          hSf ns hisz hb hval (items.size - 0) 0 _ (by omega) (Nat.zero_le _)
          ⟨⟨_, Heap.get?_push_size _ rfl, rfl, rfl⟩, (hl1.push _)⟩ ?hS0 ?hR
        case hS0 =>
          have hget : ((s.heap.push { cls := .type "set", dict := none, data := .set #[] 0 (.fresh 0 0 (!w.params.followText "set-order")) }).push { cls := .type "list_iterator", data := .fields #[.ref l, .int 0 0] }).get? s.heap.objs.size
              = some { cls := .type "set", dict := none, data := .set #[] 0 (.fresh 0 0 (!w.params.followText "set-order")) } := Heap.get?_push_of_some _ hS
          exact ⟨0, Nat.le_refl 0, setR_new_at hget⟩
        case hR =>
          intro s' c' hm hc' hS'
          obtain ⟨h', g2, d', tk', os'⟩ := s'
          have eg : g2 = s.gens := hm.gens
          have ed : d' = s.drawn := hm.drawn
          have eo : os' = s.os := hm.os
          subst eg; subst ed; subst eo
          show wpAny _ _ _ _ _ _
          refine wpAny_pure ?_
          show wpAny _ _ (ret Value.none) _ _ _
          rw [hisz] at hc'
          refine wpAny_pure ⟨rfl, h', tk', c', rfl, hS', hc', fun b o e => ?_⟩
          have hb0 : b < s.heap.objs.size := Heap.lt_size e
          have hb1 : b ≠ s.heap.objs.size := Nat.ne_of_lt hb0
          have hb2 : b ≠ (s.heap.push { cls := .type "set", dict := none, data := .set #[] 0 (.fresh 0 0 (!w.params.followText "set-order")) }).objs.size := by
            rw [Heap.size_push]; exact Nat.ne_of_lt (Nat.lt_succ_of_lt hb0)
          exact hm.heap b o (by simp only [List.mem_cons, List.mem_singleton, List.not_mem_nil, or_false, not_or]; exact ⟨hb1, hb2⟩) (Heap.get?_push_of_some _ (Heap.get?_push_of_some _ e))

      · cases r₂ with
        | error e => exact hr₂
        | ok fl₂ =>
          cases fl₂ with
          | ret r =>
            obtain ⟨rfl, h', tk, c', rfl, hS', hc', hk'⟩ := hr₂
            repeat (any_goals (first | assumption | wp_step))
            exact h _ _ _ hS' hc' hk'
          | _ => exact hr₂.elim
    | _ => exact hr.elim

end
end L2
namespace SX0
open PySem PySem.Spec PyProof.Rows L2
/-- sorted(set(xs)), ints, fewer than 60 of them -/
def tSortedSet (K : PySem.W.Frag) (ta : TE) : TE := fun σ H Q => ta σ H fun x H1 => ∃ (a : Addr) (ns : List Int), x = .ref a ∧ SqL K H1 a (ns.map V.int) ∧ ns.length < 60 ∧
  ∀ (ys : List Int) (q p : Addr) (o : HO), ys.Pairwise (· < ·) → (∀ k, k ∈ ys ↔ k ∈ ns) → H1 q = none → (∀ z, o ≠ .tup z) → q ≠ p → H1 p = none → Q (.ref p) (upd (upd H1 q o) p (.lst (ys.map V.int)))
section
variable {X : Cx}
def cSetL (K : PySem.W.Frag) (w : World) : List V → Hp → VK → Prop := fun vs H Q => ∃ (a : Addr) (ns : List Int), vs = [.ref a] ∧ SqL K H a (ns.map V.int) ∧ ns.length < 60 ∧
  ∀ (p : Addr) (n : Nat), H p = none → n ≤ ns.length → Q (.ref p) (upd H p (SetO w p (fun j => decide (j ∈ ns)) n))
theorem call_setL (hc : X.calm = true) : CallR X (.type "set") (cSetL X.K X.w) := by
  intro pins s σ H vs us Q I r h
  obtain ⟨a, ns, rfl, hs, hlen, q⟩ := h
  obtain ⟨its, rv, hl, hz⟩ := I.list hs
  rw [Vals.ref1 r]
  refine call_set_lstI ns (I.ok.hd hc) hl.isList (by simpa using rv.ints) (by unfold scanBound; omega) fun h' tk c hS hc hk => ?_
  exact ⟨.ref s.heap.objs.size, _, I.laid (t' := tk) hk (Nat.le_refl _) (setO_new hS), rfl, q _ c (I.hok.fresh (Nat.le_refl _)) hc⟩
/-- a reading that may be weakened at its end -/
def tMon (ta : TE) : TE := fun σ H Q => ∃ Q0 : VK, ta σ H Q0 ∧ ∀ v H', Q0 v H' → Q v H'
theorem PE.mon {a : Expr} {ta : TE} (ha : PE X a ta) : PE X a (tMon ta) := ⟨fun pins s σ H Q I ⟨Q0, h, hq⟩ => thn (ha.run pins s σ H Q0 I h) fun u s1 ⟨v, H', I', r, q⟩ => ⟨v, H', I', r, hq _ _ q⟩⟩
theorem PE.imp {a : Expr} {ta tb : TE} (ha : PE X a ta) (h : ∀ σ H Q, tb σ H Q → ta σ H Q) : PE X a tb := ⟨fun pins s σ H Q I q => ha.run pins s σ H Q I (h _ _ _ q)⟩
theorem setO_not {w : World} {a : Addr} {S : Int → Bool} {n : Nat} {z : List V} : SetO w a S n ≠ .tup z := fun e => by
  have e' : HO.ext _ = HO.tup z := e
  cases e'
theorem pe_sortedSet {a : Expr} {ta : TE} {p1 p2 pos1 pos2 : Pos} (hc : X.calm = true) (hg1 : Gl X "sorted") (hm1 : X.mg "sorted" = none) (hg2 : Gl X "set") (hm2 : X.mg "set" = none) (ha : PE X a ta)
    (hpl1 : starEach [a] X.env = [(false, eval a X.env)] := by rfl) :
    PE X (.Call (.Name "sorted" p1) [.Call (.Name "set" p2) [a] [] pos2] [] pos1) (tSortedSet X.K ta) := by
  refine PE.imp (ta := tCB (rSortedSet X.w) (tCons (tCB (cSetL X.K X.w) (tCons (tMon ta) tNil)) tNil)) (pe_callB (cr_sortedSet hc) hg1 hm1 (by decide +kernel) (pa_cons (pe_callTy (call_setL hc) hg2 hm2 (by decide +kernel) (pa_cons (PE.mon ha) pa_nil (hs := hpl1)) (he := hpl1)) pa_nil)) fun σ H Q h => ?_
  refine ⟨_, h, fun x H1 hx => ?_⟩
  obtain ⟨l, ns, rfl, hs, hlen, k⟩ := hx
  refine ⟨l, ns, rfl, hs, hlen, fun p n hp hn => ?_⟩
  refine ⟨p, _, n, rfl, upd_same, by omega, fun ys p2 h1 h2 h3 h4 => ?_⟩
  have ne : p ≠ p2 := fun z => by rw [← z, upd_same] at h4; cases h4
  rw [upd_ne ne.symm] at h4
  exact k ys p p2 _ h1 (fun j => (h2 j).trans (by simp)) hp (fun z => setO_not) ne h4
end
end SX0

set_option Elab.async false
set_option linter.all false
set_option maxRecDepth 100000
namespace PySem.SeqAt
open AutoSeq1 (wpAny_loadPart')
open MeetsSeq MeetsSeq2 MeetsSeq3 SeqRoads2
variable {prog : Program} {w : World}
/-- != of two tuples of equal items -/
theorem tupNe_run (l b : Addr) (us vs : Array Value) (n m : Nat) (dl db : Option Addr) (sl sb : Array (Option Value)) (hz : us.size = vs.size) :
    MeetsIn prog w (Builtin.«tuple.__ne__» ⟨[.ref l, .ref b], []⟩)
      (fun A R s => (s.heap.get? l = some { cls := .type "tuple", dict := dl, data := .seq us n, slots := sl } ∧ s.heap.get? b = some { cls := .type "tuple", dict := db, data := .seq vs m, slots := sb }) ∧
        (∀ j (h1 : j < us.size) (h2 : j < vs.size), EqIn prog w A.in1 s us[j] vs[j] true) ∧ R (.ok (.ret (.bool false))) s) :=
  .of_wp fun A R s hh => by
    obtain ⟨hp, g, d, tk, os⟩ := s
    obtain ⟨⟨hl, hb⟩, he, hR⟩ := hh
    dsimp only at hl hb
    have ft := AutoSeq1.sub_tuple_tuple
    wp_walk using wpAny_loadPart' hl, wpAny_loadPart' hb, wpAny_forIn_list _ (fun rest c s' => c.1 = none ∧ s' = ⟨hp, g, d, tk, os⟩ ∧ ∃ i, rest = (us.toList.zip vs.toList).drop i) _
    case turn =>
      rintro ⟨p, q⟩ rest c s' ⟨hc, rfl, i, hi⟩
      have e0 : ((us.toList.zip vs.toList).drop i)[0]? = some (p, q) := by rw [← hi]; rfl
      rw [List.getElem?_drop, Nat.add_zero] at e0
      obtain ⟨e1, e2⟩ := List.getElem?_zip_eq_some.mp e0
      rw [Array.getElem?_toList] at e1 e2
      obtain ⟨k1, e1⟩ := Array.getElem?_eq_some_iff.mp e1
      obtain ⟨k2, e2⟩ := Array.getElem?_eq_some_iff.mp e2
      subst e1 e2
      have hr : rest = (us.toList.zip vs.toList).drop (i + 1) := by
        have := congrArg List.tail hi
        simpa using this
      refine wpAny_bind (he i k1 k2 _ _ ?_)
      wp_walk
      exact ⟨rfl, rfl, i + 1, hr⟩
    case fin =>
      rintro ⟨c1, c2⟩ s' ⟨hc, rfl, i, hi⟩
      simp only at hc
      subst hc
      wp_walk
      exact ⟨_, rfl, by simpa [Builtin.Tuple.tupleCompareSizes, hz] using hR⟩
    case h => exact ⟨rfl, rfl, 0, rfl⟩
theorem rcNe_tups {A : Around} {s : Shared} {E : Value → Shared → Prop} {l b : Addr} {us vs : Array Value} {Q : Value → Shared → Prop} (hl : s.heap.IsTuple l us) (hb : s.heap.IsTuple b vs) (hz : us.size = vs.size) (hu : A.units < cLine)
    (he : ∀ j (h1 : j < us.size) (h2 : j < vs.size), EqIn prog w A.in1 s us[j] vs[j] true) (h : Q (.bool false) s) : wpAny (model prog w) A (richCompare .NotEq (.ref l) (.ref b)) Q E s := by
  obtain ⟨⟨c1, d1, x1, s1⟩, o1, k1, n, y1⟩ := id hl
  obtain ⟨⟨c2, d2, x2, s2⟩, o2, k2, m, y2⟩ := id hb
  simp only at k1 y1 k2 y2
  subst k1 y1 k2 y2
  exact wpAny_richCompare_same_room (T := "tuple") (op := .NotEq) ⟨_, o1, rfl⟩ ⟨_, o2, rfl⟩ F.slot_tuple_ne (call_meetsIn F.slot_tuple_ne ⟨_, o1, rfl⟩ F.entry_tuple_ne (F.args_tuple_ne_2 _ _) (tupNe_run l b us vs n m d1 d2 s1 s2 hz)
    ⟨⟨o1, o2⟩, he, show Value.bool false ≠ Value.notImplemented ∧ Q (.bool false) s from ⟨(fun x => nomatch x), h⟩⟩) hu
end PySem.SeqAt
namespace SX0
open PySem PySem.Spec PyProof.Rows L2
section
variable {X : Cx}
/-- a == b and a != b of two tuples whose items are equal, lists and dicts among them -/
def TupSame (K : PySem.W.Frag) (H : Hp) (x y : V) : Prop := ∃ n, n ≤ 60 ∧ ∃ a b xs ys, x = .ref a ∧ y = .ref b ∧ SqT K H a xs ∧ SqT K H b ys ∧ Paired (EqV K H n) xs ys
def rEqU (K : PySem.W.Frag) : R2 := fun x y H Q => rEqD K x y H Q ∨ (TupSame K H x y ∧ Q (.bl true) H)
def rNeU (K : PySem.W.Frag) : R2 := fun x y H Q => rNeD K x y H Q ∨ (TupSame K H x y ∧ Q (.bl false) H)
theorem tup_run {pins : List (Addr × Obj)} {σ : L2.St} {H : Hp} {s : Shared} (I : Inv X pins σ H s) {x y : V} {v u : Value} (h : TupSame X.K H x y) (rx : RelV x v) (ry : RelV y u) :
    ∃ (l b : Addr) (us vs : List Value) (n : Nat), n ≤ 60 ∧ v = .ref l ∧ u = .ref b ∧ s.heap.IsTuple l us.toArray ∧ s.heap.IsTuple b vs.toArray ∧ us.length = vs.length ∧
      ∀ A : Around, A.units + n < cLine → ∀ j (h1 : j < us.toArray.size) (h2 : j < vs.toArray.size), SeqAt.EqIn X.prog X.w A s us.toArray[j] vs.toArray[j] true := by
  obtain ⟨n, hn, a, b, xs, ys, rfl, rfl, ha, hb, hp⟩ := h
  cases (show v = Value.ref a from rx)
  cases (show u = Value.ref b from ry)
  obtain ⟨us, r1, p1, _⟩ := I.tuple ha
  obtain ⟨ws, r2, p2, _⟩ := I.tuple hb
  refine ⟨a, b, us, ws, n, hn, rfl, rfl, p1, p2, by rw [← r1.length, ← r2.length]; exact Paired.length hp, fun A hu j h1 h2 => ?_⟩
  have k := items_run (eqV_run I n A hu) hp r1 r2 j (by simpa using h1) (by simpa using h2)
  simp only [List.getElem_toArray]
  exact fun E Q q => k E Q q
theorem op_eqU (hu : X.A.units + 64 < cLine) : OpR X (compareOp .Eq) (rEqU X.K) := by
  intro pins s σ H x y v u Q I rx ry h
  rcases h with h | ⟨h, q⟩
  · exact op_eqD hu pins s σ H x y v u Q I rx ry h
  · obtain ⟨l, b, us, vs, n, hn, rfl, rfl, p1, p2, hz, he⟩ := tup_run I h rx ry
    refine SeqAt.rcIn_tuples (e := fun _ => true) p1 p2 (by omega) (he X.A.in1 (by show X.A.units + 1 + n < cLine; omega)) ?_
    rw [show ((List.range (min us.toArray.size vs.toArray.size)).all (fun _ => true) && us.toArray.size == vs.toArray.size) = true from by simp [hz]]
    exact ⟨.bl true, H, I, rfl, q⟩
theorem op_neU (hu : X.A.units + 64 < cLine) : OpR X (compareOp .NotEq) (rNeU X.K) := by
  intro pins s σ H x y v u Q I rx ry h
  rcases h with h | ⟨h, q⟩
  · exact op_neD hu pins s σ H x y v u Q I rx ry h
  · obtain ⟨l, b, us, vs, n, hn, rfl, rfl, p1, p2, hz, he⟩ := tup_run I h rx ry
    exact SeqAt.rcNe_tups p1 p2 (by simpa using hz) (by omega) (he X.A.in1 (by show X.A.units + 1 + n < cLine; omega)) ⟨.bl false, H, I, rfl, q⟩
end
/-! ### checks of an exception class that is asked -/
def excCB (K : PySem.W.Frag) (D : Addr) : Bool :=
  He.eqO (PySem.W.findIn K (.ref D) "__getattribute__") (some (some (.builtin "BaseException.__getattribute__"))) && (He.eqO (PySem.W.findIn K (.ref D) "__getattr__") (some none) && (decide (PySem.W.subIn K (.ref D) (.type "BaseException") = some true) &&
  (PySem.W.hasDictIn K D && (He.eqO (PySem.W.findIn K (.ref D) "__class__") (some (some (.builtin "object.__class__"))) && (He.eqO (PySem.W.specialIn K (.builtin "object.__class__") "__get__") (some (some (.builtin "getset_descriptor.__get__"))) &&
  (decide (PySem.W.takesIn K (.builtin "object.__class__") = some true) && decide (PySem.W.mroIn K D (.type "object") = some true)))))))
theorem excCB_ok {K : PySem.W.Frag} {D : Addr} (h : excCB K D = true) : ExcC K D := by
  obtain ⟨c1, h⟩ := He.ba h
  obtain ⟨c2, h⟩ := He.ba h
  obtain ⟨c3, h⟩ := He.ba h
  obtain ⟨c4, h⟩ := He.ba h
  obtain ⟨c5, h⟩ := He.ba h
  obtain ⟨c6, h⟩ := He.ba h
  obtain ⟨c7, c8⟩ := He.ba h
  exact ⟨He.eqO_ok c1, He.eqO_ok c2, of_decide_eq_true c3, c4, He.eqO_ok c5, He.eqO_ok c6, of_decide_eq_true c7, of_decide_eq_true c8⟩
def kitB (K : PySem.W.Frag) (t c : Value) (b : Bool) : Bool := decide (PySem.W.kitOne K t c = some b)
theorem kitB_ok {K : PySem.W.Frag} {t c : Value} {b : Bool} (h : kitB K t c b = true) : PySem.W.kitOne K t c = some b := of_decide_eq_true h
end SX0

set_option Elab.async false
set_option linter.all false
set_option maxRecDepth 100000
namespace SX0
open PySem PySem.Spec PyProof.Rows L2
/-! ### heaps that grow -/
theorem Same.new {H : Hp} {p : Addr} {o : HO} (h : H p = none) : Same H (upd H p o) := fun b u e => by
  rw [upd_ne (ne_of_none e h)]; exact e
theorem Same.put {H H' : Hp} {p : Addr} {o : HO} (s : Same H H') (h : H p = none) : Same H (upd H' p o) := fun b u e => by
  rw [upd_ne (ne_of_none e h)]; exact s b u e
theorem Same.rd {H H' : Hp} {a : Addr} {u : HO} (s : Same H H') (h : Rd H a u) : Rd H' a u := by
  rcases h with h | ⟨o, h⟩
  · exact .inl (s _ _ h)
  · exact .inr ⟨o, s _ _ h⟩
theorem Same.sqt {K : PySem.W.Frag} {H H' : Hp} {a : Addr} {xs : List V} (s : Same H H') (h : SqT K H a xs) : SqT K H' a xs := by
  rcases h with h | h
  · exact .inl (Same.rd s h)
  · exact .inr h
theorem Same.sql {K : PySem.W.Frag} {H H' : Hp} {a : Addr} {xs : List V} (s : Same H H') (h : SqL K H a xs) : SqL K H' a xs := by
  rcases h with h | h
  · exact .inl (Same.rd s h)
  · exact .inr h
theorem Same.dget {H H' : Hp} {a : Addr} {y : V} {r : Option V} (s : Same H H') (h : DGet H a y r) : DGet H' a y r := by
  rcases h with ⟨kvs, k, h, e⟩ | ⟨kvs, k, b, h, e1, e2, e3⟩
  · exact .inl ⟨kvs, k, Same.rd s h, e⟩
  · exact .inr ⟨kvs, k, b, Same.rd s h, e1, s _ _ e2, e3⟩
/-! ### readings, one step each -/
section
variable {K : PySem.W.Frag} {σ : L2.St} {H : Hp} {Q : VK} {D : Ends} {ta tb tc te to ti td ty tv : TE} {t u : TS} {c d : TT} {i j : Nat} {v w : V} {QB : Bool → Hp → Prop} {QL : List V → Hp → Prop} {tas : TA}
theorem x_seq (h : t { D with nx := u D } σ H) : tSeq t u D σ H := h
theorem x_next (h : D.nx σ H) : tNext D σ H := h
theorem x_asgN (h : te σ H fun x H1 => D.nx (σ.set i (some x)) H1) : tAsg te (gName i) D σ H := h
theorem x_asgS {ts : TSet} (h : te σ H fun x H1 => to σ H1 fun o H2 => ti σ H2 fun i H3 => ts o i x H3 fun H4 => D.nx σ H4) : tAsg te (gSub to ti ts) D σ H := h
theorem x_ret (h : te σ H D.rt) : tRet te D σ H := h
theorem x_retN (h : D.rt .non H) : tRetN D σ H := h
theorem x_drop (h : te σ H fun _ H1 => D.nx σ H1) : tDrop te D σ H := h
theorem x_ifS (h : c σ H fun b H1 => if b = true then t D σ H1 else u D σ H1) : tIfS c t u D σ H := h
theorem x_rz {C : Addr} {W : WX} (h : W (.ref C) none σ H) : tRz C W D σ H := h
theorem x_var (e : σ[i]? = some (some v)) (h : Q v H) : tVar i σ H Q := ⟨v, e, h⟩
theorem x_c (h : Q v H) : tC v σ H Q := h
theorem x_op {r : R2} (h : ta σ H fun x H1 => tb σ H1 fun y H2 => r x y H2 Q) : tOp r ta tb σ H Q := h
theorem x_un {r : V → Hp → VK → Prop} (h : ta σ H fun x H1 => r x H1 Q) : tUn r ta σ H Q := h
theorem x_rI0 {g : Int → Int → V} {a b : Int} (h : Q (g a b) H) : rI0 g (.int a) (.int b) H Q := ⟨a, b, rfl, rfl, h⟩
theorem x_rI {C : Int → Int → Prop} {g : Int → Int → V} {a b : Int} (hc : C a b) (h : Q (g a b) H) : rI C g (.int a) (.int b) H Q := ⟨a, b, rfl, rfl, hc, h⟩
theorem x_neg {g : Int → V} {a : Int} (h : Q (g a) H) : rU g (.int a) H Q := ⟨a, rfl, h⟩
theorem x_rEq (e : scal v w = true) (h : Q (.bl (decide (v = w))) H) : rEq v w H Q := ⟨e, h⟩
theorem x_rNe (e : scal v w = true) (h : Q (.bl (!decide (v = w))) H) : rNe v w H Q := ⟨e, h⟩
theorem x_isN (h : Q (.bl (decide (v = .non))) H) : oIsN v .non H Q := ⟨rfl, h⟩
theorem x_notN (h : Q (.bl (!decide (v = .non))) H) : oNotN v .non H Q := ⟨rfl, h⟩
theorem x_test (h : te σ H fun x H' => ∃ k, x = .bl k ∧ QB k H') : tTest te σ H QB := h
theorem x_tB (h : te σ H fun x H' => ∃ k, x = .bl k ∧ QB k H') : tB te σ H QB := h
theorem x_bl {b : Bool} {P : Bool → Prop} (h : P b) : ∃ k, V.bl b = .bl k ∧ P k := ⟨b, rfl, h⟩
theorem x_and (h : c σ H fun b H1 => if b = true then d σ H1 QB else QB false H1) : tAnd c d σ H QB := h
theorem x_or (h : c σ H fun b H1 => if b = true then QB true H1 else d σ H1 QB) : tOr c d σ H QB := h
theorem x_not (h : c σ H fun b H1 => QB (!b) H1) : tNot c σ H QB := h
theorem x_andV (h : ta σ H fun x H1 => ∃ b, x = .bl b ∧ if b = true then tb σ H1 Q else Q (.bl false) H1) : tAndV ta tb σ H Q := h
theorem x_orV (h : ta σ H fun x H1 => ∃ b, x = .bl b ∧ if b = true then Q (.bl true) H1 else tb σ H1 Q) : tOrV ta tb σ H Q := h
theorem x_notV (h : ta σ H fun x H1 => ∃ b, x = .bl b ∧ Q (.bl (!b)) H1) : tNotV ta σ H Q := h
theorem x_ifE (h : c σ H fun b H1 => if b = true then ta σ H1 Q else tb σ H1 Q) : tIf c ta tb σ H Q := h
theorem x_chain {r r' : R2} (h : ta σ H fun x H1 => tb σ H1 fun y H2 => r x y H2 fun z H3 => ∃ k, z = .bl k ∧ (if k = true then tc σ H3 fun w' H4 => r' y w' H4 Q else Q (.bl false) H3)) : tChain r r' ta tb tc σ H Q := h
theorem x_nil (h : QL [] H) : tNil σ H QL := h
theorem x_cons (h : ta σ H fun x H1 => tas σ H1 fun xs H2 => QL (x :: xs) H2) : tCons ta tas σ H QL := h
theorem x_cb {r : List V → Hp → VK → Prop} (h : tas σ H fun vs H1 => r vs H1 Q) : tCB r tas σ H Q := h
theorem x_callS {sp : Sp} {E : L2.St → XK} (h : tas σ H fun vs H1 => sp vs H1 Q (E σ)) : tCallS sp E tas σ H Q := h
theorem x_lst (h : tas σ H fun xs H1 => xs.length ≤ sizeLine ∧ ∀ p, H1 p = none → Q (.ref p) (upd H1 p (.lst xs))) : tLst tas σ H Q := h
theorem x_tup (h : tas σ H fun xs H1 => xs.length ≤ sizeLine ∧ ∀ p, H1 p = none → Q (.ref p) (upd H1 p (.tup xs))) : tTup tas σ H Q := h
theorem x_dnewK (h : ∀ p, H p = none → Q (.ref p) (upd H p (.dK []))) : tDNewK σ H Q := h
theorem x_dnewT (h : ∀ p, H p = none → Q (.ref p) (upd H p (.dT []))) : tDNewT σ H Q := h
def gDGet (x y : V) (H : Hp) (Q : VK) : Prop := ∃ a v, x = .ref a ∧ DGet H a y (some v) ∧ Q v H
def gDIn (x y : V) (H : Hp) (Q : VK) : Prop := ∃ a o, x = .ref a ∧ DGet H a y o ∧ Q (.bl o.isSome) H
def gDNotIn (x y : V) (H : Hp) (Q : VK) : Prop := ∃ a o, x = .ref a ∧ DGet H a y o ∧ Q (.bl (!o.isSome)) H
def gDPut (x y v : V) (H : Hp) (P : Hp → Prop) : Prop := ∃ a H4, x = .ref a ∧ DPut H a y v H4 ∧ P H4
theorem x_dget (h : td σ H fun x H1 => ty σ H1 fun y H2 => gDGet x y H2 Q) : tDGet td ty σ H Q := h
theorem x_din (h : ty σ H fun y H1 => td σ H1 fun x H2 => gDIn x y H2 Q) : tDIn ty td σ H Q := h
theorem x_dnotin (h : ty σ H fun y H1 => td σ H1 fun x H2 => gDNotIn x y H2 Q) : tDNotIn ty td σ H Q := h
theorem x_dput (h : tv σ H fun v H1 => td σ H1 fun x H2 => ty σ H2 fun y H3 => gDPut x y v H3 (D.nx σ)) : sDPut td ty tv D σ H := h
theorem x_dgetK {a : Addr} {kvs : List (Key × V)} {y : Int} (e : Rd H a (.dK kvs)) (ev : valV kvs (Sum.inl y : Key) = some v) (h : Q v H) : gDGet (.ref a) (.int y) H Q := ⟨a, v, rfl, .inl ⟨kvs, Sum.inl y, e, rfl, ev.symm⟩, h⟩
theorem x_dinK {a : Addr} {kvs : List (Key × V)} {y : Int} (e : Rd H a (.dK kvs)) (h : Q (.bl (valV kvs (Sum.inl y : Key)).isSome) H) : gDIn (.ref a) (.int y) H Q := ⟨a, _, rfl, .inl ⟨kvs, Sum.inl y, e, rfl, rfl⟩, h⟩
theorem x_dnotinK {a : Addr} {kvs : List (Key × V)} {y : Int} (e : Rd H a (.dK kvs)) (h : Q (.bl (!(valV kvs (Sum.inl y : Key)).isSome)) H) : gDNotIn (.ref a) (.int y) H Q := ⟨a, _, rfl, .inl ⟨kvs, Sum.inl y, e, rfl, rfl⟩, h⟩
theorem x_dputK {a : Addr} {kvs : List (Key × V)} {y : Int} {P : Hp → Prop} (e : H a = some (.dK kvs)) (hl : kvs.length < sizeLine) (h : P (upd H a (.dK (putK kvs (Sum.inl y) v)))) : gDPut (.ref a) (.int y) v H P := ⟨a, _, rfl, .inl ⟨kvs, Sum.inl y, e, rfl, hl, rfl⟩, h⟩
theorem x_ixL {p : Addr} {xs : List V} {n : Int} (e : SqL K H p xs) (ev : atI xs n = some v) (h : Q v H) : rIxL K (.ref p) (.int n) H Q := ⟨p, xs, n, v, rfl, rfl, e, ev, h⟩
theorem x_ixT {p : Addr} {xs : List V} {n : Int} (e : SqT K H p xs) (ev : atI xs n = some v) (h : Q v H) : rIxT K (.ref p) (.int n) H Q := ⟨p, xs, n, v, rfl, rfl, e, ev, h⟩
theorem x_lenL {p : Addr} {xs : List V} (e : SqL K H p xs) (h : Q (.int xs.length) H) : cLenSeq K [.ref p] H Q := ⟨p, xs, rfl, .inl e, h⟩
theorem x_lenT {p : Addr} {xs : List V} (e : SqT K H p xs) (h : Q (.int xs.length) H) : cLenSeq K [.ref p] H Q := ⟨p, xs, rfl, .inr e, h⟩
theorem x_bm {T : String} {r : V → List V → Hp → VK → Prop} (h : to σ H fun x H1 => tyV K T x H1 ∧ tas σ H1 fun xs H2 => r x xs H2 Q) : tBM K T r to tas σ H Q := h
theorem x_bm0 {T : String} {r : V → List V → Hp → VK → Prop} (h : to σ H fun x H1 => tyV K T x H1 ∧ r x [] H1 Q) : tBM0 K T r to σ H Q := h
theorem x_tyL {p : Addr} {xs : List V} (e : H p = some (.lst xs)) : tyV K "list" (.ref p) H := Or.inl ⟨rfl, _, SqL.of e⟩
theorem x_append {p : Addr} {xs : List V} (e : H p = some (.lst xs)) (hl : xs.length < sizeLine) (h : Q .non (upd H p (.lst (xs ++ [v])))) : rAppend (.ref p) [v] H Q := ⟨p, xs, v, rfl, rfl, e, hl, h⟩
theorem x_extend {p b : Addr} {xs zs : List V} (e : H p = some (.lst xs)) (e2 : H b = some (.lst zs)) (hl : xs.length + zs.length ≤ sizeLine) (h : Q .non (upd H p (.lst (xs ++ zs)))) : rExtend (.ref p) [.ref b] H Q := ⟨p, b, xs, zs, rfl, rfl, e, e2, hl, h⟩
theorem x_cat {p b : Addr} {xs zs : List V} (e : SqX K H p xs) (e2 : SqX K H b zs) (hl : xs.length + zs.length ≤ sizeLine) (h : ∀ q, H q = none → Q (.ref q) (upd H q (.lst (xs ++ zs)))) : rCatS K (.ref p) (.ref b) H Q := ⟨p, b, xs, zs, rfl, rfl, e, e2, hl, h⟩
theorem x_tru (h : ta σ H fun x H' => ∃ k, TruV K x H' k ∧ QB k H') : tTru K ta σ H QB := h
theorem x_truL {p : Addr} {xs : List V} {P : Bool → Prop} (e : SqL K H p xs) (h : P (!xs.isEmpty)) : ∃ k, TruV K (.ref p) H k ∧ P k := ⟨_, .inl ⟨xs, e, rfl⟩, h⟩
theorem x_yes (h : QB true H) : tYes σ H QB := h
theorem x_int1 {n : Int} (h : Q (.int n) H) : cInt1 [.int n] H Q := .inl ⟨n, rfl, h⟩
theorem x_intB {b : Bool} (h : Q (.int (if b then 1 else 0)) H) : cInt1 [.bl b] H Q := .inr ⟨b, rfl, h⟩
theorem x_sl {r : V → Option Int → Option Int → Hp → VK → Prop} {tl th : TO} (h : te σ H fun x H1 => tl σ H1 fun l H2 => th σ H2 fun u H3 => r x l u H3 Q) : tSl r te tl th σ H Q := h
theorem x_lcdummy : True := True.intro
theorem x_slL {p : Addr} {xs : List V} {lo hi : Option Int} (e : SqL K H p xs) (h : ∀ q, H q = none → Q (.ref q) (upd H q (.lst (cutV xs lo hi)))) : rSlL K (.ref p) lo hi H Q := ⟨p, xs, rfl, e, h⟩
theorem x_part {QO : Option Int → Hp → Prop} (h : te σ H fun x H1 => ∃ i, x = .int i ∧ QO (some i) H1) : tPart te σ H QO := h
theorem x_partI {n : Int} {P : Int → Prop} (h : P n) : ∃ i, V.int n = .int i ∧ P i := ⟨n, rfl, h⟩
theorem x_nopart {QO : Option Int → Hp → Prop} (h : QO none H) : tNoPart σ H QO := h
theorem x_asgT {n : Nat} {g : TGs} (h : te σ H fun x H1 => ∃ a xs, x = .ref a ∧ SqT K H1 a xs ∧ xs.length = n ∧ g xs σ H1 D.nx) : tAsg te (gTup K n g) D σ H := h
theorem x_unpack {n : Nat} {p : Addr} {xs : List V} {P : List V → Prop} (e : SqT K H p xs) (hn : xs.length = n) (h : P xs) : ∃ a ys, V.ref p = .ref a ∧ SqT K H a ys ∧ ys.length = n ∧ P ys := ⟨p, xs, rfl, e, hn, h⟩
theorem x_gnil {QS : L2.St → Hp → Prop} (h : QS σ H) : gNil [] σ H QS := ⟨rfl, h⟩
theorem x_gcons {QS : L2.St → Hp → Prop} {g : TGs} {vs : List V} (h : g vs (σ.set i (some v)) H QS) : gCons (gName i) g (v :: vs) σ H QS := ⟨v, vs, rfl, h⟩
theorem x_setL {p : Addr} {xs : List V} {n : Int} {j : Nat} {P : Hp → Prop} (e : H p = some (.lst xs)) (hj : ixN xs.length n = some j) (h : P (upd H p (.lst (xs.set j v)))) : rSetL (.ref p) (.int n) v H P := ⟨p, xs, n, j, rfl, rfl, e, hj, h⟩
def LoopG (J : It) (g : TG) (tb : TS) (D : Ends) (σ : L2.St) (H : Hp) : Prop := ∃ W : Nat → Nat → L2.St → Hp → Prop, (∃ m, W 0 m σ H) ∧ ∀ i m σ H, W i m σ H →
  (J.stop i H ∧ D.nx σ H) ∨ (J.go i H ∧ ∃ N : L2.St → Hp → Prop, (∀ σ' H', N σ' H' → ∃ m', m' < m ∧ W (i + 1) m' σ' H') ∧ ∀ x H', J.yld i H x H' → g x σ H' fun σ2 H2 => tb { D with nx := N, ct := N, bk := D.nx } σ2 H2)
theorem x_for {wi : TI} {g : TG} {tb : TS} (h : wi σ H fun J H1 => LoopG J g tb D σ H1) : tFor wi g tb D σ H := h
def LcG (J : It) (g : TG) (tt : TT) (te : TE) (vs : List Nat) (σ : L2.St) (H : Hp) (Q : VK) : Prop := ∀ D, H D = none → ∃ W : Nat → Nat → Hp → Prop, (∃ m, W 0 m (upd H D (.lst []))) ∧ ∀ i m H, W i m H →
  (J.stop i H ∧ Q (.ref D) H) ∨ (J.go i H ∧ ∃ Nx : Hp → Prop, (∀ H', Nx H' → ∃ m', m' < m ∧ W (i + 1) m' H') ∧ ∀ x H', J.yld i H x H' → g x (wipe σ vs) H' fun σ2 H2 => wipe σ2 vs = wipe σ vs ∧ tt σ2 H2 fun b H3 =>
    if b = true then te σ2 H3 fun y H4 => ∃ acc, H4 D = some (.lst acc) ∧ acc.length < sizeLine ∧ Nx (upd H4 D (.lst (acc ++ [y]))) else Nx H3)
theorem x_lc {wi : TI} {g : TG} {tt : TT} {vs : List Nat} (h : wi σ H fun J H1 => LcG J g tt te vs σ H1 Q) : tLc wi g tt te vs σ H Q := h
variable {R : It → Hp → Prop}
def gList (K : PySem.W.Frag) (x : V) (H : Hp) (R : It → Hp → Prop) : Prop := ∃ a, x = .ref a ∧ (∃ xs, SqL K H a xs) ∧ R (Itl K a) H
theorem x_iList {tl : TE} (h : tl σ H fun x H1 => gList K x H1 R) : iList K tl σ H R := h
theorem x_gList {p : Addr} {xs : List V} (e : SqL K H p xs) (h : R (Itl K p) H) : gList K (.ref p) H R := ⟨p, rfl, ⟨xs, e⟩, h⟩
def gEnum (K : PySem.W.Frag) (vs : List V) (H : Hp) (R : It → Hp → Prop) : Prop := ∃ a xs, vs = [.ref a] ∧ SqL K H a xs ∧ R (Ite K a) H
theorem x_iEnum (h : tas σ H fun vs H1 => gEnum K vs H1 R) : iEnum K tas σ H R := h
theorem x_gEnum {p : Addr} {xs : List V} (e : SqL K H p xs) (h : R (Ite K p) H) : gEnum K [.ref p] H R := ⟨p, xs, rfl, e, h⟩
def gRng1 (vs : List V) (H : Hp) (R : It → Hp → Prop) : Prop := ∃ j : Int, vs = [.int j] ∧ -(2 ^ 62) ≤ j ∧ j < 2 ^ 62 ∧ R (Itr 0 j.toNat) H
theorem x_iRng1 (h : tas σ H fun vs H1 => gRng1 vs H1 R) : iRng1 tas σ H R := h
theorem x_gRng1 {j : Int} (h1 : -(2 ^ 62) ≤ j) (h2 : j < 2 ^ 62) (h : R (Itr 0 j.toNat) H) : gRng1 [.int j] H R := ⟨j, rfl, h1, h2, h⟩
def gRng2 (vs : List V) (H : Hp) (R : It → Hp → Prop) : Prop := ∃ i j : Int, vs = [.int i, .int j] ∧ (-(2 ^ 62) ≤ i ∧ i < 2 ^ 62 ∧ -(2 ^ 62) ≤ j ∧ j < 2 ^ 62) ∧ R (Itr i (j - i).toNat) H
theorem x_iRng2 (h : tas σ H fun vs H1 => gRng2 vs H1 R) : iRng2 tas σ H R := h
theorem x_gRng2 {i j : Int} (hb : -(2 ^ 62) ≤ i ∧ i < 2 ^ 62 ∧ -(2 ^ 62) ≤ j ∧ j < 2 ^ 62) (h : R (Itr i (j - i).toNat) H) : gRng2 [.int i, .int j] H R := ⟨i, j, rfl, hb, h⟩
def gKeys (x : V) (H : Hp) (R : It → Hp → Prop) : Prop := ∃ d o, x = .ref d ∧ ((∃ kvs, H d = some (.frz o (.dK kvs)) ∧ R (Itk d o kvs) H) ∨ ∃ kvs, H d = some (.frz o (.dT kvs)) ∧ R (Itkt d o kvs) H)
theorem x_iKeys (h : td σ H fun x H1 => gKeys x H1 R) : iKeys td σ H R := h
theorem x_gKeys {d : Addr} {o : Obj} {kvs : List (Key × V)} (e : H d = some (.frz o (.dK kvs))) (h : R (Itk d o kvs) H) : gKeys (.ref d) H R := ⟨d, o, rfl, .inl ⟨kvs, e, h⟩⟩
theorem x_iStr {z : Str} (h : R (Its z) H) : ∃ x, V.str z = .str x ∧ R (Its x) H := ⟨z, rfl, h⟩
/-! ### locks -/
theorem x_lock {t : TS} {d : Addr} {kvs : List (Key × V)} (hd : H d = some (.dK kvs)) (h : ∀ od, t ⟨fun σ' H' => H' d = some (.frz od (.dK kvs)) ∧ D.nx σ' (upd H' d (.dK kvs)), fun v H' => H' d = some (.frz od (.dK kvs)) ∧ D.rt v (upd H' d (.dK kvs)),
    fun σ' H' => H' d = some (.frz od (.dK kvs)) ∧ D.bk σ' (upd H' d (.dK kvs)), fun σ' H' => H' d = some (.frz od (.dK kvs)) ∧ D.ct σ' (upd H' d (.dK kvs))⟩ σ (upd H d (.frz od (.dK kvs)))) : tLock t D σ H := ⟨d, _, hd, True.intro, h⟩
theorem x_lockE {d : Addr} {kvs : List (Key × V)} (hd : H d = some (.dK kvs)) (h : ∀ od, te σ (upd H d (.frz od (.dK kvs))) fun v H' => H' d = some (.frz od (.dK kvs)) ∧ Q v (upd H' d (.dK kvs))) : tLockE te σ H Q := ⟨d, _, hd, True.intro, h⟩
theorem lock_rd {d a : Addr} {od : Obj} {kvs : List (Key × V)} {u : HO} (hd : H d = some (.dK kvs)) (hu : ∀ o z, u ≠ .frz o z) (h : Rd H a u) : Rd (upd H d (.frz od (.dK kvs))) a u := by
  by_cases e : a = d
  · subst e
    rcases h with h | ⟨o, h⟩
    · rw [hd] at h; cases h
      exact .inr ⟨od, upd_same⟩
    · rw [hd] at h; cases h
  · rcases h with h | ⟨o, h⟩
    · exact .inl (by rw [upd_ne e]; exact h)
    · exact .inr ⟨o, by rw [upd_ne e]; exact h⟩
theorem lock_sql {d a : Addr} {od : Obj} {kvs : List (Key × V)} {xs : List V} (hd : H d = some (.dK kvs)) (h : SqL K H a xs) : SqL K (upd H d (.frz od (.dK kvs))) a xs := by
  rcases h with h | h
  · exact .inl (lock_rd hd (fun _ _ => by intro z; cases z) h)
  · exact .inr h
theorem lock_sqt {d a : Addr} {od : Obj} {kvs : List (Key × V)} {xs : List V} (hd : H d = some (.dK kvs)) (h : SqT K H a xs) : SqT K (upd H d (.frz od (.dK kvs))) a xs := by
  rcases h with h | h
  · exact .inl (lock_rd hd (fun _ _ => by intro z; cases z) h)
  · exact .inr h
theorem unlock_same {d : Addr} {od : Obj} {kvs : List (Key × V)} {H2 : Hp} (hd : H d = some (.dK kvs)) (s : Same (upd H d (.frz od (.dK kvs))) H2) : Same H (upd H2 d (.dK kvs)) := fun b o e => by
  by_cases h : b = d
  · subst h
    rw [hd] at e; cases e
    exact upd_same
  · rw [upd_ne h]
    exact s b o (by rw [upd_ne h]; exact e)
theorem lock_at {d : Addr} {od : Obj} {kvs : List (Key × V)} {H2 : Hp} (s : Same (upd H d (.frz od (.dK kvs))) H2) : H2 d = some (.frz od (.dK kvs)) := s _ _ upd_same
/-- a new thing of the locked heap is new for the other one -/
theorem lock_new {d p : Addr} {od : Obj} {kvs : List (Key × V)} (hd : H d = some (.dK kvs)) (h : upd H d (.frz od (.dK kvs)) p = none) : H p = none := by
  have n : p ≠ d := fun z => by rw [z, upd_same] at h; cases h
  rw [upd_ne n] at h; exact h
/-- what could be read can be read -/
def Le (H H' : Hp) : Prop := ∀ a u, (∀ o z, u ≠ .frz o z) → Rd H a u → Rd H' a u
theorem Le.refl (H : Hp) : Le H H := fun _ _ _ h => h
theorem Le.trans {H1 H2 H3 : Hp} (a : Le H1 H2) (b : Le H2 H3) : Le H1 H3 := fun c u hu h => b c u hu (a c u hu h)
theorem Same.le {H H' : Hp} (s : Same H H') : Le H H' := fun _ _ _ h => Same.rd s h
theorem Le.sql {H H' : Hp} {a : Addr} {xs : List V} (s : Le H H') (h : SqL K H a xs) : SqL K H' a xs := by
  rcases h with h | h
  · exact .inl (s _ _ (fun _ _ z => by cases z) h)
  · exact .inr h
theorem Le.sqt {H H' : Hp} {a : Addr} {xs : List V} (s : Le H H') (h : SqT K H a xs) : SqT K H' a xs := by
  rcases h with h | h
  · exact .inl (s _ _ (fun _ _ z => by cases z) h)
  · exact .inr h
theorem Le.dk {H H' : Hp} {a : Addr} {kvs : List (Key × V)} (s : Le H H') (h : Rd H a (.dK kvs)) : Rd H' a (.dK kvs) := s _ _ (fun _ _ z => by cases z) h
theorem Le.put {H H' : Hp} {D : Addr} {o : HO} (s : Le H H') (h : H D = none) : Le H (upd H' D o) := fun a u hu e => by
  have ne : a ≠ D := by
    rcases e with e | ⟨_, e⟩
    · exact ne_of_none e h
    · exact ne_of_none e h
  rcases s a u hu e with q | ⟨x, q⟩
  · exact .inl (by rw [upd_ne ne]; exact q)
  · exact .inr ⟨x, by rw [upd_ne ne]; exact q⟩
theorem upd_swap {H : Hp} {a b : Addr} {o u : HO} (h : a ≠ b) : upd (upd H a o) b u = upd (upd H b u) a o := by
  funext c
  by_cases e : c = a
  · subst e; rw [upd_ne h, upd_same, upd_same]
  · rw [upd_ne e]
    by_cases e2 : c = b
    · subst e2; rw [upd_same, upd_same]
    · rw [upd_ne e2, upd_ne e2, upd_ne e]
theorem upd_own {H : Hp} {a : Addr} {o : HO} (h : H a = some o) : upd H a o = H := by
  funext c
  by_cases e : c = a
  · subst e; rw [upd_same, h]
  · rw [upd_ne e]
/-- the same, some dicts frozen -/
def Lf (H H' : Hp) : Prop := ∀ a o, H a = some o → H' a = some o ∨ ∃ od kvs, o = .dK kvs ∧ H' a = some (.frz od (.dK kvs))
theorem Lf.refl (H : Hp) : Lf H H := fun _ _ e => .inl e
theorem Same.lf {H H' : Hp} (s : Same H H') : Lf H H' := fun a o e => .inl (s a o e)
theorem Lf.trans {H1 H2 H3 : Hp} (a : Lf H1 H2) (b : Lf H2 H3) : Lf H1 H3 := fun c o e => by
  rcases a c o e with q | ⟨od, kvs, rfl, q⟩
  · exact b c o q
  · rcases b c _ q with r | ⟨_, _, r, _⟩
    · exact .inr ⟨od, kvs, rfl, r⟩
    · cases r
theorem Lf.le {H H' : Hp} (s : Lf H H') : Le H H' := fun a u hu h => by
  rcases h with h | ⟨o, h⟩
  · rcases s a _ h with q | ⟨od, kvs, rfl, q⟩
    · exact .inl q
    · exact .inr ⟨od, q⟩
  · rcases s a _ h with q | ⟨od, kvs, e, q⟩
    · exact .inr ⟨o, q⟩
    · cases e
theorem Lf.lst {H H' : Hp} {a : Addr} {xs : List V} (s : Lf H H') (h : H a = some (.lst xs)) : H' a = some (.lst xs) := by
  rcases s a _ h with q | ⟨od, kvs, e, q⟩
  · exact q
  · cases e
theorem Lf.tup {H H' : Hp} {a : Addr} {xs : List V} (s : Lf H H') (h : H a = some (.tup xs)) : H' a = some (.tup xs) := by
  rcases s a _ h with q | ⟨od, kvs, e, q⟩
  · exact q
  · cases e
theorem Lf.put {H H' : Hp} {D : Addr} {o : HO} (s : Lf H H') (h : H D = none) : Lf H (upd H' D o) := fun a u e => by
  rw [upd_ne (ne_of_none e h)]
  exact s a u e
theorem Lf.lock {H : Hp} {d : Addr} {od : Obj} {kvs : List (Key × V)} (hd : H d = some (.dK kvs)) : Lf H (upd H d (.frz od (.dK kvs))) := fun a o e => by
  by_cases h : a = d
  · subst h
    rw [hd] at e; cases e
    exact .inr ⟨od, kvs, rfl, upd_same⟩
  · exact .inl (by rw [upd_ne h]; exact e)
theorem Lf.free {H H' : Hp} {a : Addr} (s : Lf H H') (h : H' a = none) : H a = none := by
  cases e : H a with
  | none => rfl
  | some o =>
    rcases s a o e with q | ⟨_, _, _, q⟩ <;> rw [h] at q <;> cases q
/-- within the walk over the dict at d -/
structure Lk (H : Hp) (d : Addr) (kvs : List (Key × V)) (od : Obj) (H1 : Hp) (U : Hp → Hp) : Prop where
  at_ : H1 d = some (.frz od (.dK kvs))
  le : Le H H1
  lf : Lf H H1
  new : ∀ p, H1 p = none → H p = none
  back : ∀ H2, Same H1 H2 → Same H (U H2)
  else_ : ∀ H2 p, p ≠ d → U H2 p = H2 p
  comm : ∀ H2 q o, q ≠ d → U (upd H2 q o) = upd (U H2) q o
theorem Lk.lock {d : Addr} {kvs : List (Key × V)} {od : Obj} (hd : H d = some (.dK kvs)) : Lk H d kvs od (upd H d (.frz od (.dK kvs))) fun H2 => upd H2 d (.dK kvs) :=
  ⟨upd_same, fun a u hu h => lock_rd hd hu h, Lf.lock hd, fun p h => lock_new hd h, fun H2 s => unlock_same hd s, fun H2 p h => upd_ne h, fun H2 q o h => upd_swap h⟩
theorem Lk.none {d : Addr} {kvs : List (Key × V)} {od : Obj} (hd : H d = some (.frz od (.dK kvs))) : Lk H d kvs od H fun H2 => H2 := ⟨hd, Le.refl _, Lf.refl _, fun _ h => h, fun _ s => s, fun _ _ _ => rfl, fun _ _ _ _ => rfl⟩
theorem x_lock2 {t : TS} {d : Addr} {kvs : List (Key × V)} (hd : Rd H d (.dK kvs)) (h : ∀ od H1 U, Lk H d kvs od H1 U → t ⟨fun σ' H' => H' d = some (.frz od (.dK kvs)) ∧ D.nx σ' (U H'), fun v H' => H' d = some (.frz od (.dK kvs)) ∧ D.rt v (U H'),
    fun σ' H' => H' d = some (.frz od (.dK kvs)) ∧ D.bk σ' (U H'), fun σ' H' => H' d = some (.frz od (.dK kvs)) ∧ D.ct σ' (U H')⟩ σ H1) : tLock2 t D σ H := by
  rcases hd with hd | ⟨od, hd⟩
  · exact .inl (x_lock hd fun od => h od _ _ (Lk.lock hd))
  · exact .inr ⟨d, od, _, hd, h od _ _ (Lk.none hd)⟩
theorem x_lockE2 {d : Addr} {kvs : List (Key × V)} (hd : Rd H d (.dK kvs)) (h : ∀ od H1 U, Lk H d kvs od H1 U → te σ H1 fun v H' => H' d = some (.frz od (.dK kvs)) ∧ Q v (U H')) : tLockE2 te σ H Q := by
  rcases hd with hd | ⟨od, hd⟩
  · exact .inl (x_lockE hd fun od => h od _ _ (Lk.lock hd))
  · exact .inr ⟨d, od, _, hd, h od _ _ (Lk.none hd)⟩
/-! ### loops -/
theorem L_list {p : Addr} {xs : List V} {g : TG} {tb : TS} (Pv : Nat → L2.St → Hp → Prop) (h0 : Pv 0 σ H) (hl : ∀ i σ H, i ≤ xs.length → Pv i σ H → SqL K H p xs)
    (hs : ∀ i x σ H, xs[i]? = some x → Pv i σ H → g x σ H fun σ2 H2 => tb { D with nx := Pv (i + 1), ct := Pv (i + 1), bk := D.nx } σ2 H2) (hd : ∀ σ H, Pv xs.length σ H → D.nx σ H) : LoopG (Itl K p) g tb D σ H := for_list Pv h0 hl hs hd
theorem L_range {lo : Int} {n : Nat} {g : TG} {tb : TS} (Pv : Nat → L2.St → Hp → Prop) (h0 : Pv 0 σ H)
    (hs : ∀ i σ H, i < n → Pv i σ H → g (.int (lo + i)) σ H fun σ2 H2 => tb { D with nx := Pv (i + 1), ct := Pv (i + 1), bk := D.nx } σ2 H2) (hd : ∀ σ H, Pv n σ H → D.nx σ H) : LoopG (Itr lo n) g tb D σ H := for_range Pv h0 hs hd
theorem L_enum {p : Addr} {xs : List V} {a b : Nat} {tb : TS} (Pv : Nat → L2.St → Hp → Prop) (h0 : Pv 0 σ H) (hl : ∀ i σ H, i ≤ xs.length → Pv i σ H → SqL K H p xs)
    (hs : ∀ i x T σ H, xs[i]? = some x → Pv i σ H → H T = none → tb { D with nx := Pv (i + 1), ct := Pv (i + 1), bk := D.nx } ((σ.set a (some (.int (i : Nat)))).set b (some x)) (upd H T (.tup [.int (i : Nat), x]))) (hd : ∀ σ H, Pv xs.length σ H → D.nx σ H) :
    LoopG (Ite K p) (gTup K 2 (gCons (gName a) (gCons (gName b) gNil))) tb D σ H := by
  refine for_it (walk_enum (K := K) (a := p) (xs := xs)) Pv h0 hl (fun i v σ H H' hi p' y => ?_) hd
  obtain ⟨T, x, y, rfl, hT, rfl, e1, e2⟩ := y
  cases e1
  exact ⟨T, _, rfl, SqT.of upd_same, rfl, _, _, rfl, _, _, rfl, rfl, hs i y T σ H e2 p' hT⟩
theorem L_keys {d : Addr} {o : Obj} {kvs : List (Key × V)} {g : TG} {tb : TS} (Pv : Nat → L2.St → Hp → Prop) (h0 : Pv 0 σ H) (hl : ∀ i σ H, i ≤ kvs.length → Pv i σ H → H d = some (.frz o (.dK kvs)))
    (hs : ∀ i k v σ H, kvs[i]? = some (k, v) → Pv i σ H → g (kV k) σ H fun σ2 H2 => tb { D with nx := Pv (i + 1), ct := Pv (i + 1), bk := D.nx } σ2 H2) (hd : ∀ σ H, Pv kvs.length σ H → D.nx σ H) : LoopG (Itk d o kvs) g tb D σ H := by
  refine for_it (walk_keys (d := d) (o := o) (kvs := kvs)) Pv h0 hl (fun i v σ H H' hi p' y => ?_) hd
  obtain ⟨rfl, k, v, e, rfl⟩ := y
  exact hs i k v σ H' e p'
/-- a while loop: the invariant by what is left -/
theorem L_while {tb : TS} (Pv : Nat → L2.St → Hp → Prop) (m : Nat) (h0 : Pv m σ H)
    (hs : ∀ m σ H, Pv m σ H → c σ H fun b H1 => if b = true then ∃ N : L2.St → Hp → Prop, (∀ σ' H', N σ' H' → ∃ m', m' < m ∧ Pv m' σ' H') ∧ tb { D with nx := N, ct := N, bk := D.nx } σ H1 else D.nx σ H1) : tWhile c tb D σ H := ⟨Pv, ⟨m, h0⟩, hs⟩
theorem x_whileGo {Pv : Nat → L2.St → Hp → Prop} {m : Nat} {P : (L2.St → Hp → Prop) → Prop} (h : P (fun σ' H' => ∃ m', m' < m ∧ Pv m' σ' H')) : ∃ N : L2.St → Hp → Prop, (∀ σ' H', N σ' H' → ∃ m', m' < m ∧ Pv m' σ' H') ∧ P N := ⟨_, fun _ _ h => h, h⟩
/-- a comprehension over a list whose element and test are functions of the item -/
theorem L_lcP {p : Addr} {xs : List V} {g : TG} {tt : TT} {vs : List Nat} (F : V → Option V) (hp : SqL K H p xs) (hlen : xs.length ≤ 16000000)
    (hs : ∀ (i : Nat) (x : V) (H2 : Hp), xs[i]? = some x → Same H H2 → ∀ R : Option V → Hp → Prop, (∀ H3, Same H2 H3 → R (F x) H3) → g x (wipe σ vs) H2 fun σ2 H3 => wipe σ2 vs = wipe σ vs ∧ tt σ2 H3 fun b H4 =>
      if b = true then te σ2 H4 fun y H5 => R (some y) H5 else R none H4)
    (hq : ∀ D H2, H D = none → Same H H2 → H2 D = some (.lst (xs.filterMap F)) → Q (.ref D) H2) : LcG (Itl K p) g tt te vs σ H Q := by
  intro D hD
  refine lc_list (K := K) (a := p) (xs := xs) (fun i H2 => Same H H2 ∧ H2 D = some (.lst ((xs.take i).filterMap F))) ⟨Same.new hD, upd_same⟩ (fun i H2 _ h => Same.sql h.1 hp) (fun i x H2 hi h => ?_) (fun H2 h => ?_)
  · have tk : xs.take (i + 1) = xs.take i ++ [x] := by rw [List.take_add_one, hi]; rfl
    refine hs i x H2 hi h.1 (fun o H' => match o with
      | some y => ∃ acc, H' D = some (.lst acc) ∧ acc.length < sizeLine ∧ (Same H (upd H' D (.lst (acc ++ [y]))) ∧ (upd H' D (.lst (acc ++ [y]))) D = some (.lst ((xs.take (i + 1)).filterMap F)))
      | none => Same H H' ∧ H' D = some (.lst ((xs.take (i + 1)).filterMap F))) fun H3 s3 => ?_
    have hl : ((xs.take i).filterMap F).length < sizeLine := by
      have a1 : ((xs.take i).filterMap F).length ≤ (xs.take i).length := List.length_filterMap_le _ _
      have a2 : (xs.take i).length ≤ xs.length := by rw [List.length_take]; omega
      rw [sizeLine_eq]; omega
    rw [tk, List.filterMap_append]
    cases hF : F x with
    | some y =>
      refine ⟨_, s3 _ _ h.2, hl, Same.put (Same.trans h.1 s3) hD, ?_⟩
      rw [upd_same]; simp [hF]
    | none =>
      refine ⟨Same.trans h.1 s3, ?_⟩
      rw [s3 _ _ h.2]; simp [hF]
  · obtain ⟨s, e⟩ := h
    rw [List.take_length] at e
    exact hq D H2 hD s e
/-- a comprehension over any walk: the list so far and what is known with it (D: the new list) -/
theorem L_lcW {J : It} {n : Nat} {G : Hp → Prop} {Y : Nat → Hp → V → Hp → Prop} (wk : Walk J n G Y) {g : TG} {tt : TT} {vs : List Nat} (Pv : Addr → Nat → List V → Hp → Prop)
    (h0 : ∀ D, H D = none → Pv D 0 [] (upd H D (.lst []))) (hG : ∀ D i acc H', Pv D i acc H' → G H')
    (hs : ∀ D (i : Nat) (x : V) acc H2 H3, H D = none → i < n → Pv D i acc H2 → H2 D = some (.lst acc) → Y i H2 x H3 → ∀ R : Option V → Hp → Prop,
      (∀ y H6, H6 D = some (.lst acc) → acc.length < sizeLine → Pv D (i + 1) (acc ++ [y]) (upd H6 D (.lst (acc ++ [y]))) → R (some y) H6) → (∀ H5, Pv D (i + 1) acc H5 → H5 D = some (.lst acc) → R none H5) →
      g x (wipe σ vs) H3 fun σ2 H4 => wipe σ2 vs = wipe σ vs ∧ tt σ2 H4 fun b H5 => if b = true then te σ2 H5 fun y H6 => R (some y) H6 else R none H5)
    (hd : ∀ D acc H', H D = none → Pv D n acc H' → H' D = some (.lst acc) → Q (.ref D) H') : LcG J g tt te vs σ H Q := by
  intro D hD
  refine lc_it wk (fun i H' => ∃ acc, Pv D i acc H' ∧ H' D = some (.lst acc)) ⟨[], h0 D hD, upd_same⟩ (fun i H' _ ⟨acc, h, _⟩ => hG D i acc H' h) (fun i x H2 H3 hi ⟨acc, h, e⟩ y => ?_) (fun H' ⟨acc, h, e⟩ => hd D acc H' hD h e)
  exact hs D i x acc H2 H3 hD hi h e y (fun o H' => match o with
    | some y => ∃ acc, H' D = some (.lst acc) ∧ acc.length < sizeLine ∧ ∃ acc', Pv D (i + 1) acc' (upd H' D (.lst (acc ++ [y]))) ∧ (upd H' D (.lst (acc ++ [y]))) D = some (.lst acc')
    | none => ∃ acc, Pv D (i + 1) acc H' ∧ H' D = some (.lst acc)) (fun y H6 a1 a2 a3 => ⟨acc, a1, a2, _, a3, upd_same⟩) fun H5 a1 a2 => ⟨acc, a1, a2⟩
/-- the comprehension's own slot i -/
theorem x_own {x : V} {P : L2.St → Hp → Prop} (hi : i < σ.length) (h : (σ.set i (some x))[i]? = some (some x) → P (σ.set i (some x)) H) : gName i x (wipe σ [i]) H fun σ2 H4 => wipe σ2 [i] = wipe σ [i] ∧ P σ2 H4 := by
  have e1 : (wipe σ [i]).set i (some x) = σ.set i (some x) := by simp [wipe]
  show wipe ((wipe σ [i]).set i (some x)) [i] = wipe σ [i] ∧ P ((wipe σ [i]).set i (some x)) H
  rw [e1]
  exact ⟨by simp [wipe], h (by simp [hi])⟩
end
theorem x_ite {P : Prop} [Decidable P] {A B : Prop} (h1 : P → A) (h2 : ¬ P → B) : if decide P = true then A else B := by
  by_cases h : P
  · rw [decide_eq_true h, if_pos rfl]; exact h1 h
  · rw [decide_eq_false h, if_neg Bool.false_ne_true]; exact h2 h
theorem x_iteN {P : Prop} [Decidable P] {A B : Prop} (h1 : ¬ P → A) (h2 : P → B) : if (!decide P) = true then A else B := by
  by_cases h : P
  · rw [decide_eq_true h]; exact h2 h
  · rw [decide_eq_false h]; exact h1 h
theorem x_iteB {b : Bool} {A B : Prop} (h1 : b = true → A) (h2 : b = false → B) : if b = true then A else B := by
  cases b with
  | true => exact h1 rfl
  | false => exact h2 rfl
theorem x_iteT {A B : Prop} (h : A) : if true = true then A else B := h
theorem x_iteF {A B : Prop} (h : B) : if false = true then A else B := h
section
variable {K : PySem.W.Frag} {H : Hp} {Q : VK}
theorem x_mod {a b : Int} (hb : 0 < b) (h : Q (.int (a % b)) H) : oMod (.int a) (.int b) H Q := x_rI hb h
theorem x_fdv {a b : Int} (hb : CDivW a b) (h : Q (.int (a / b)) H) : oFdv (.int a) (.int b) H Q := x_rI hb h
theorem x_mulR {a b : Int} (hb : -(2 ^ 64) < b ∧ b < 2 ^ 64) (h : Q (.int (a * b)) H) : oMul (.int a) (.int b) H Q := x_rI (.inr hb) h
theorem x_mulL {a b : Int} (hb : -(2 ^ 64) < a ∧ a < 2 ^ 64) (h : Q (.int (a * b)) H) : oMul (.int a) (.int b) H Q := x_rI (.inl hb) h
theorem x_pow {a b : Int} (hb : CPow a b) (h : Q (.int (a ^ b.toNat)) H) : oPow (.int a) (.int b) H Q := x_rI hb h
theorem cdiv {i j : Int} (h : 0 < j ∧ j < 2 ^ 62) : CDivW i j := wide_div (b := 62) h.1 (by omega) (by decide) (by decide)
end
end SX0

open PySem PySem.Spec PyProof.Rows L2 SX0
local macro_rules | `(tactic| walk_at "v1") => `(tactic| first
  | with_reducible refine x_seq ?_
  | with_reducible refine x_asgN ?_
  | ((with_reducible refine' x_var ?ee ?_); (case ee => exact rfl))
  | with_reducible refine x_c ?_
  | with_reducible refine x_op ?_
  | with_reducible refine x_rI0 ?_
  | with_reducible refine x_ret ?_
  | with_reducible refine x_ifS ?_
  | with_reducible refine x_test ?_
  | with_reducible refine x_tB ?_
  | with_reducible refine x_bl ?_
  | with_reducible refine x_next ?_
  | with_reducible refine x_drop ?_
  | with_reducible refine x_cons ?_
  | with_reducible refine x_nil ?_
  | with_reducible refine x_cb ?_
  | with_reducible refine x_callS ?_
  | ((with_reducible refine' x_rEq ?ee ?_); (case ee => exact rfl))
  | ((with_reducible refine' x_rNe ?ee ?_); (case ee => exact rfl))
  | with_reducible refine x_isN ?_
  | with_reducible refine x_notN ?_
  | with_reducible refine x_and ?_
  | with_reducible refine x_or ?_
  | with_reducible refine x_not ?_
  | with_reducible refine x_andV ?_
  | with_reducible refine x_orV ?_
  | with_reducible refine x_notV ?_
  | with_reducible refine x_ifE ?_
  | with_reducible refine x_chain ?_
  | with_reducible refine x_lst ?_
  | with_reducible refine x_tup ?_
  | with_reducible refine x_dnewK ?_
  | with_reducible refine x_dnewT ?_
  | with_reducible refine x_dget ?_
  | with_reducible refine x_din ?_
  | with_reducible refine x_dnotin ?_
  | with_reducible refine x_dput ?_
  | with_reducible refine x_bm ?_
  | with_reducible refine x_bm0 ?_
  | with_reducible refine x_tru ?_
  | with_reducible refine x_yes ?_
  | with_reducible refine x_int1 ?_
  | with_reducible refine x_intB ?_
  | with_reducible refine x_sl ?_
  | with_reducible refine x_part ?_
  | with_reducible refine x_partI ?_
  | with_reducible refine x_nopart ?_
  | with_reducible refine x_asgT ?_
  | with_reducible refine x_asgS ?_
  | with_reducible refine x_gcons ?_
  | with_reducible refine x_gnil ?_
  | with_reducible refine x_retN ?_
  | with_reducible refine x_rz ?_
  | with_reducible refine x_un ?_
  | with_reducible refine x_neg ?_
  | with_reducible refine x_for ?_
  | with_reducible refine x_iList ?_
  | with_reducible refine x_iEnum ?_
  | with_reducible refine x_iRng1 ?_
  | with_reducible refine x_iRng2 ?_
  | with_reducible refine x_iKeys ?_
  | with_reducible refine x_lc ?_
  | with_reducible refine x_iteT ?_
  | with_reducible refine x_iteF ?_)
local macro_rules | `(tactic| walk_at "vv") => `(tactic| repeat walk_at "v1")
local macro_rules | `(tactic| walk_at "vz") => `(tactic| repeat first
  | walk_at "v1"
  | with_reducible refine x_mod (by decide) ?_
  | with_reducible refine x_fdv (cdiv (by decide)) ?_
  | with_reducible refine x_mulR (by decide) ?_
  | with_reducible refine x_mulL (by decide) ?_)

set_option Elab.async false
set_option linter.all false
set_option maxRecDepth 100000
set_option maxHeartbeats 4000000
namespace SX0
open PySem PySem.Spec PyProof.Rows L2
theorem law_callX {P : Program} {w : World} {K : PySem.W.Frag} {mg mb : Str → Option Value} {CX : CXT} {k : Nat} {fa a : Addr} {fd : FuncData} {x : Str} {sp : Sp} {s₁ : Shared} {vs : List Value} {ns : List Int}
    (KX : K.In s₁.heap) (hns : s₁.heap.Ns mainGlobals mg) (hb : s₁.heap.Ns builtinsNs mb) (hbb : ∀ x : Str, x ≠ "__name__" → mb x = bootBuiltins x) (hlim : s₁.heap.NoLimit) (hg : s₁.gens = #[])
    (ha : s₁.heap.get? a = some { cls := .type "list", data := .seq vs.toArray }) (hi : IntsAre vs ns) (hl : ns.length ≤ sizeLine) (hr : Room k callerA)
    (F : ∀ base : Heap, K.In base → base.Ns mainGlobals mg → FnOk P w K mg base CX k fa fd [x] sp) (hbind : ∀ (s : Shared) (u : Value), BindsTo s fd ⟨[u], []⟩ [(x, u)])
    (hsp : ∀ H : Hp, Only H → SqX K H a (ns.map V.int) → sp [.ref a] H (fun v _ => v = .bl true) fun _ _ _ => False)
    (hCX : ∀ H e s', CX [] H s₁ (fun _ _ _ => False) e s' → False) :
    codeAny (model P w) callerA (.call (.ref fa) ⟨[.ref a], []⟩) (fun r s' => r = .ok (.ret (.bool true)) ∧ OldK s₁.heap s'.heap ∧ s'.os = s₁.os ∧ AllBare s'.gens) s₁ := by
  refine law_call KX hns hb hbb hlim hg ha hi hl hr F hbind (fun H hO hS => hsp H hO ?_) hCX
  have rv := vals_ints hi
  rcases hS with h | ⟨o, its, n, hk, hc, hd, hdat, hz, r⟩
  · exact .inl h
  · have e := KX a o hk
    rw [ha] at e
    cases e
    have e2 : Data.seq vs.toArray 0 = Data.seq its n := hdat
    cases e2
    exact .inr ⟨vs, hk, by rw [hi.length]; exact hl, rv⟩
theorem walk_ofX {l : PySem.W.OpenLaw} {n k : Nat} {q : Program} {loose : List Str} {XP : (Str → Option Value) → Heap → Prop} {YP : World → Heap → Prop} {d : DefRec} {x : Str}
    (hn : l.most = some n) (hn2 : n ≤ sizeLine) (hdf : d.params.defaults = []) (hr : Room k callerA)
    (F : ∀ (w : World) (mg : Str → Option Value) (fa : Addr) (h : Heap), YP w h → h.Ns mainGlobals mg → mg d.name = some (.ref fa) →
      ∃ (K : PySem.W.Frag) (fd : FuncData) (sp : Sp), K.In h ∧ (∀ (s : Shared) (u : Value), BindsTo s fd ⟨[u], []⟩ [(x, u)]) ∧
        (∀ (H : Hp) (a : Addr) (ns : List Int), ns.length ≤ n → (∀ k ∈ ns, Builtin.Int.intBits k ≤ 1048576) → Only H → SqX K H a (ns.map V.int) → sp [.ref a] H (fun v _ => v = .bl true) fun _ _ _ => False) ∧
        ∀ base : Heap, K.In base → base.Ns mainGlobals mg → FnOk l.prog w K mg base (L2.CX l.prog w) k fa fd [x] sp) :
    PySem.W.WalkO q loose XP YP l.row.toRowW d [] (fun f vs => PySem.call f vs) := by
  refine Att.attach_callB hn hdf fun w s₀ s₁ mg mb fa o pm cd doc a vs ns G Y ho hd hcd hmg hobj hints hlen hbits hg => ?_
  obtain ⟨K, fd, sp, KX, hb, hsp, hF⟩ := F w mg fa _ Y G.T.g hmg
  refine law_callX KX G.T.g G.T.b G.T.builtins G.T.nolimit hg hobj hints (Nat.le_trans hlen hn2) hr hF hb (fun H hO hS => hsp H a ns hlen hbits hO hS) fun H e s' h => ?_
  obtain ⟨_, _, _, _, _, _, _, _, _, _, _, _, z⟩ := h
  exact z
end SX0

set_option Elab.async false
set_option linter.all false
set_option maxRecDepth 100000
namespace R_k70
open PySem PySem.Spec PyProof.Rows L2 SX0
def t__law_picked (K : PySem.W.Frag) (E : XK) : TS :=
 (tSeq (tIfS (tOr (tTest (tOp (rEqU K) (tVar 0) (tLst tNil))) (tTest (tOp rEq (tOp oMod (tVar 1) (tC (.int 4))) (tC (.int 0))))) (tRet (tC .non)) tNext)
 (tRet (tOp (rIxL K) (tVar 0) (tOp oMod (tOp oFdv (tVar 1) (tC (.int 4))) (tCB (cLenSeq K) (tCons (tVar 0) tNil))))))
abbrev N__law_picked : List Str := ["things", "number"]
def sp__law_picked (K : PySem.W.Frag) : Sp := fun vs H Q E => vs.length = 2 ∧ t__law_picked K E { nx := fun _ H' => Q .non H', rt := Q } (start N__law_picked vs) H
theorem i__law_picked {K : PySem.W.Frag} {a0 a1 : V} {H : Hp} {Q : VK} {E : XK} (h : t__law_picked K E { nx := fun _ H' => Q .non H', rt := Q } [some a0, some a1] H) : sp__law_picked K [a0, a1] H Q E := ⟨rfl, h⟩
def t__law_view (K : PySem.W.Frag) (E : XK) : TS :=
 (tSeq (tAsg (tOp (rIxL K) (tOp (rCatS K) (tVar 0) (tLst (tCons (tC (.int 5)) tNil))) (tC (.int 0))) (gName 1))
 (tSeq (tAsg (tOp oMod (tVar 1) (tC (.int 13))) (gName 2))
 (tSeq (tAsg (tLc (iRng1 (tCons (tVar 2) tNil)) (gName 6) tYes (tOp oMul (tOp oAdd (tOp oMul (tC (.int 3)) (tVar 6)) (tOp oMod (tOp oFdv (tVar 1) (tC (.int 13))) (tC (.int 3)))) (tOp (rIxL K) (tLst (tCons (tC (.int 1)) (tCons (tC (.int 1)) (tCons (tOp oPow (tC (.int 10)) (tC (.int 50))) tNil)))) (tOp oMod (tOp oFdv (tVar 1) (tC (.int 39))) (tC (.int 3))))) [6]) (gName 3))
 (tSeq (tAsg (tSl (rSlL K) (tVar 0) (tPart (tC (.int 1))) tNoPart) (gName 4))
 (tSeq (tAsg tDNewK (gName 5))
 (tSeq (tFor (iRng1 (tCons (tVar 2) tNil)) (gName 6) (tSeq (tAsg (tOp (rIxL K) (tOp (rCatS K) (tVar 4) (tOp rRep (tLst (tCons (tC (.int 0)) tNil)) (tC (.int 20)))) (tVar 6)) (gName 7))
 (tSeq (tAsg (tLst tNil) (gName 11))
 (tSeq (tFor (iRng1 (tCons (tOp oMod (tVar 7) (tC (.int 7))) tNil)) (gName 9) (tSeq (tAsg (tOp oMod (tOp oMul (tVar 7) (tC (.int 48271))) (tC (.int 2147483647))) (gName 7))
 (tDrop (tBM K "list" rAppend (tVar 11) (tCons (tCallS (sp__law_picked K) (WE (WD E)) (tCons (tVar 3) (tCons (tOp oFdv (tVar 7) (tC (.int 11))) tNil))) tNil)))))
 (sDPut (tVar 5) (tOp (rIxL K) (tVar 3) (tVar 6)) (tVar 11))))))
 (tSeq (tAsg (tOp (rIxL K) (tOp (rCatS K) (tVar 4) (tOp rRep (tLst (tCons (tC (.int 0)) tNil)) (tC (.int 20)))) (tC (.int 13))) (gName 7))
 (tSeq (tAsg (tLst tNil) (gName 8))
 (tSeq (tFor (iRng1 (tCons (tOp oMod (tOp oFdv (tVar 7) (tC (.int 4))) (tC (.int 9))) tNil)) (gName 9) (tSeq (tAsg (tOp oMod (tOp oMul (tVar 7) (tC (.int 48271))) (tC (.int 2147483647))) (gName 7))
 (tDrop (tBM K "list" rAppend (tVar 8) (tCons (tCallS (sp__law_picked K) (WE (WD E)) (tCons (tVar 3) (tCons (tOp oFdv (tVar 7) (tC (.int 11))) tNil))) tNil)))))
 (tSeq (tAsg (tOp (rIxL K) (tOp (rCatS K) (tVar 4) (tOp rRep (tLst (tCons (tC (.int 0)) tNil)) (tC (.int 20)))) (tC (.int 14))) (gName 7))
 (tSeq (tAsg (tLst tNil) (gName 10))
 (tSeq (tFor (iRng1 (tCons (tOp oMul (tOp oMod (tVar 7) (tC (.int 4))) (tCB cInt1 (tCons (tOp oGt (tVar 2) (tC (.int 0))) tNil))) tNil)) (gName 9) (tSeq (tAsg (tOp oMod (tOp oMul (tVar 7) (tC (.int 48271))) (tC (.int 2147483647))) (gName 7))
 (tDrop (tBM K "list" rAppend (tVar 10) (tCons (tOp (rIxL K) (tVar 3) (tOp oMod (tOp oFdv (tVar 7) (tC (.int 11))) (tVar 2))) tNil)))))
 (tRet (tTup (tCons (tVar 8) (tCons (tVar 5) (tCons (tVar 10) tNil)))))))))))))))))
abbrev N__law_view : List Str := ["codes", "head", "many", "things", "rest", "fields", "j", "code", "roots", "k", "back", "row"]
def sp__law_view (K : PySem.W.Frag) : Sp := fun vs H Q E => vs.length = 1 ∧ t__law_view K E { nx := fun _ H' => Q .non H', rt := Q } (start N__law_view vs) H
theorem i__law_view {K : PySem.W.Frag} {a0 : V} {H : Hp} {Q : VK} {E : XK} (h : t__law_view K E { nx := fun _ H' => Q .non H', rt := Q } [some a0, none, none, none, none, none, none, none, none, none, none, none] H) : sp__law_view K [a0] H Q E := ⟨rfl, h⟩
def t__law_codes (K : PySem.W.Frag) (E : XK) : TS :=
 (tSeq (tAsg (tLst tNil) (gName 2))
 (tSeq (tAsg (tOp rEq (tOp oMod (tCB (rSum K) (tCons (tVar 0) tNil)) (tC (.int 2))) (tC (.int 1))) (gName 3))
 (tSeq (tFor (iRng1 (tCons (tCB (cLenSeq K) (tCons (tVar 0) tNil)) tNil)) (gName 4) (tSeq (tAsg (tOp (rIxL K) (tVar 0) (tVar 4)) (gName 5))
 (tSeq (tIfS (tB (tVar 3)) (tSeq (tAsg (tOp oMod (tOp oMul (tOp oAdd (tOp oAdd (tOp oMod (tVar 5) (tC (.int 2147483647))) (tOp oMul (tC (.int 977)) (tVar 4))) (tC (.int 11))) (tC (.int 48271))) (tC (.int 2147483647))) (gName 7))
 (tSeq (tAsg (tOp oMod (tOp oMul (tVar 7) (tVar 7)) (tC (.int 2147483647))) (gName 7))
 (tAsg (tOp oAdd (tOp oMul (tOp oMul (tVar 7) (tVar 7)) (tC (.int 69621))) (tVar 7)) (gName 5)))) tNext)
 (tFor (iRng1 (tCons (tC (.int 4)) tNil)) (gName 6) (tSeq (tDrop (tBM K "list" rAppend (tVar 2) (tCons (tOp oMod (tVar 5) (tC (.int 1048576))) tNil)))
 (tAsg (tOp oFdv (tVar 5) (tC (.int 1048576))) (gName 5)))))))
 (tRet (tSl (rSlL K) (tVar 2) tNoPart (tPart (tVar 1)))))))
abbrev N__law_codes : List Str := ["script", "many", "codes", "mixed", "k", "rest", "j", "step"]
def sp__law_codes (K : PySem.W.Frag) : Sp := fun vs H Q E => vs.length = 2 ∧ t__law_codes K E { nx := fun _ H' => Q .non H', rt := Q } (start N__law_codes vs) H
theorem i__law_codes {K : PySem.W.Frag} {a0 a1 : V} {H : Hp} {Q : VK} {E : XK} (h : t__law_codes K E { nx := fun _ H' => Q .non H', rt := Q } [some a0, some a1, none, none, none, none, none, none] H) : sp__law_codes K [a0, a1] H Q E := ⟨rfl, h⟩
def t_look_at_told (K : PySem.W.Frag) (E : XK) : TS :=
 (tFor (iList K (tVar 1)) (gName 2) (tIfS (tAnd (tTest (tOp oNotN (tVar 2) (tC .non))) (tB (tDNotIn (tVar 2) (tVar 0)))) (tRz (He.ga K "BadView") (WD E)) tNext))
abbrev N_look_at_told : List Str := ["fields", "told", "thing"]
def sp_look_at_told (K : PySem.W.Frag) : Sp := fun vs H Q E => vs.length = 2 ∧ t_look_at_told K E { nx := fun _ H' => Q .non H', rt := Q } (start N_look_at_told vs) H
theorem i_look_at_told {K : PySem.W.Frag} {a0 a1 : V} {H : Hp} {Q : VK} {E : XK} (h : t_look_at_told K E { nx := fun _ H' => Q .non H', rt := Q } [some a0, some a1, none] H) : sp_look_at_told K [a0, a1] H Q E := ⟨rfl, h⟩
def t_look_at_view (K : PySem.W.Frag) (E : XK) : TS :=
 (tSeq (tAsg (tVar 0) (gTup K 2 (gCons (gName 1) (gCons (gName 2) gNil))))
 (tSeq (tDrop (tCallS (sp_look_at_told K) (WE (WD E)) (tCons (tVar 2) (tCons (tVar 1) tNil))))
 (tLock2 (tFor (iKeys (tVar 2)) (gName 3) (tDrop (tCallS (sp_look_at_told K) (WE (WD E)) (tCons (tVar 2) (tCons (tDGet (tVar 2) (tVar 3)) tNil))))))))
abbrev N_look_at_view : List Str := ["view", "roots", "fields", "thing"]
def sp_look_at_view (K : PySem.W.Frag) : Sp := fun vs H Q E => vs.length = 1 ∧ t_look_at_view K E { nx := fun _ H' => Q .non H', rt := Q } (start N_look_at_view vs) H
theorem i_look_at_view {K : PySem.W.Frag} {a0 : V} {H : Hp} {Q : VK} {E : XK} (h : t_look_at_view K E { nx := fun _ H' => Q .non H', rt := Q } [some a0, none, none, none] H) : sp_look_at_view K [a0] H Q E := ⟨rfl, h⟩
def t_last_steps (K : PySem.W.Frag) (E : XK) : TS :=
 (tSeq (tAsg (tVar 0) (gTup K 2 (gCons (gName 1) (gCons (gName 2) gNil))))
 (tSeq (tAsg tDNewK (gName 3))
 (tSeq (tFor (iEnum K (tCons (tVar 1) tNil)) (gTup K 2 (gCons (gName 4) (gCons (gName 5) gNil))) (tIfS (tAnd (tTest (tOp oNotN (tVar 5) (tC .non))) (tB (tDNotIn (tVar 5) (tVar 3)))) (sDPut (tVar 3) (tVar 5) (tTup (tCons (tC .non) (tCons (tVar 4) tNil)))) tNext))
 (tSeq (tAsg (tCB cListDk (tCons (tVar 3) tNil)) (gName 6))
 (tSeq (tWhile (tTru K (tVar 6)) (tSeq (tAsg (tLst tNil) (gName 7))
 (tSeq (tFor (iList K (tVar 6)) (gName 5) (tFor (iEnum K (tCons (tDGet (tVar 2) (tVar 5)) tNil)) (gTup K 2 (gCons (gName 4) (gCons (gName 8) gNil))) (tIfS (tAnd (tTest (tOp oNotN (tVar 8) (tC .non))) (tB (tDNotIn (tVar 8) (tVar 3)))) (tSeq (sDPut (tVar 3) (tVar 8) (tTup (tCons (tVar 5) (tCons (tVar 4) tNil))))
 (tDrop (tBM K "list" rAppend (tVar 7) (tCons (tVar 8) tNil)))) tNext)))
 (tAsg (tVar 7) (gName 6)))))
 (tRet (tVar 3)))))))
abbrev N_last_steps : List Str := ["view", "roots", "fields", "steps", "place", "thing", "edge", "behind", "other"]
def sp_last_steps (K : PySem.W.Frag) : Sp := fun vs H Q E => vs.length = 1 ∧ t_last_steps K E { nx := fun _ H' => Q .non H', rt := Q } (start N_last_steps vs) H
theorem i_last_steps {K : PySem.W.Frag} {a0 : V} {H : Hp} {Q : VK} {E : XK} (h : t_last_steps K E { nx := fun _ H' => Q .non H', rt := Q } [some a0, none, none, none, none, none, none, none, none] H) : sp_last_steps K [a0] H Q E := ⟨rfl, h⟩
def t_reach_paper (K : PySem.W.Frag) (E : XK) : TS :=
 (tSeq (tDrop (tCallS (sp_look_at_view K) (WE (WD E)) (tCons (tVar 0) tNil)))
 (tSeq (tAsg (tCallS (sp_last_steps K) (WE (WD E)) (tCons (tVar 0) tNil)) (gName 1))
 (tRet (tLockE2 (tLc (iKeys (tVar 1)) (gName 2) tYes (tTup (tCons (tVar 2) (tCons (tOp (rIxT K) (tDGet (tVar 1) (tVar 2)) (tC (.int 0))) (tCons (tOp (rIxT K) (tDGet (tVar 1) (tVar 2)) (tC (.int 1))) tNil)))) [2])))))
abbrev N_reach_paper : List Str := ["view", "steps", "thing"]
def sp_reach_paper (K : PySem.W.Frag) : Sp := fun vs H Q E => vs.length = 1 ∧ t_reach_paper K E { nx := fun _ H' => Q .non H', rt := Q } (start N_reach_paper vs) H
theorem i_reach_paper {K : PySem.W.Frag} {a0 : V} {H : Hp} {Q : VK} {E : XK} (h : t_reach_paper K E { nx := fun _ H' => Q .non H', rt := Q } [some a0, none, none] H) : sp_reach_paper K [a0] H Q E := ⟨rfl, h⟩
def t_wider (K : PySem.W.Frag) (E : XK) : TS :=
 (tSeq (tAsg (tCB (cDictP K) (tCons (tLc (iList K (tVar 1)) (gName 3) tYes (tTup (tCons (tVar 3) (tCons (tC (.bl true)) tNil))) [3]) tNil)) (gName 2))
 (tRet (tTup (tCons (tOp (rCatS K) (tCB (cListOf K) (tCons (tOp (rIxT K) (tVar 0) (tC (.int 0))) tNil)) (tCB cSortedDk (tCons (tVar 2) tNil))) (tCons (tOp (rIxT K) (tVar 0) (tC (.int 1))) tNil)))))
abbrev N_wider : List Str := ["view", "read", "back", "t"]
def sp_wider (K : PySem.W.Frag) : Sp := fun vs H Q E => vs.length = 2 ∧ t_wider K E { nx := fun _ H' => Q .non H', rt := Q } (start N_wider vs) H
theorem i_wider {K : PySem.W.Frag} {a0 a1 : V} {H : Hp} {Q : VK} {E : XK} (h : t_wider K E { nx := fun _ H' => Q .non H', rt := Q } [some a0, some a1, none, none] H) : sp_wider K [a0, a1] H Q E := ⟨rfl, h⟩
def t_others_of (K : PySem.W.Frag) (E : XK) : TS :=
 (tSeq (tAsg (tCB (cDictP K) (tCons (tLc (iList K (tVar 1)) (gName 4) tYes (tTup (tCons (tOp (rIxT K) (tVar 4) (tC (.int 0))) (tCons (tC (.bl true)) tNil))) [4]) tNil)) (gName 2))
 (tRet (tLc (iList K (tCB cSortedDk (tCons (tOp (rIxT K) (tVar 0) (tC (.int 1))) tNil))) (gName 3) (tB (tDNotIn (tVar 3) (tVar 2))) (tVar 3) [3])))
abbrev N_others_of : List Str := ["view", "triples", "told", "t", "triple"]
def sp_others_of (K : PySem.W.Frag) : Sp := fun vs H Q E => vs.length = 2 ∧ t_others_of K E { nx := fun _ H' => Q .non H', rt := Q } (start N_others_of vs) H
theorem i_others_of {K : PySem.W.Frag} {a0 a1 : V} {H : Hp} {Q : VK} {E : XK} (h : t_others_of K E { nx := fun _ H' => Q .non H', rt := Q } [some a0, some a1, none, none, none] H) : sp_others_of K [a0, a1] H Q E := ⟨rfl, h⟩
def t_round_paper (K : PySem.W.Frag) (E : XK) : TS :=
 (tSeq (tAsg (tCallS (sp_reach_paper K) (WE (WD E)) (tCons (tCallS (sp_wider K) (WE (WD E)) (tCons (tVar 0) (tCons (tVar 1) tNil))) tNil)) (gName 2))
 (tRet (tTup (tCons (tVar 2) (tCons (tCallS (sp_others_of K) (WE (WD E)) (tCons (tVar 0) (tCons (tVar 2) tNil))) tNil)))))
abbrev N_round_paper : List Str := ["view", "read", "triples"]
def sp_round_paper (K : PySem.W.Frag) : Sp := fun vs H Q E => vs.length = 2 ∧ t_round_paper K E { nx := fun _ H' => Q .non H', rt := Q } (start N_round_paper vs) H
theorem i_round_paper {K : PySem.W.Frag} {a0 a1 : V} {H : Hp} {Q : VK} {E : XK} (h : t_round_paper K E { nx := fun _ H' => Q .non H', rt := Q } [some a0, some a1, none] H) : sp_round_paper K [a0, a1] H Q E := ⟨rfl, h⟩
def t__law_reached (K : PySem.W.Frag) (E : XK) : TS :=
 (tSeq (tAsg (tLc (iList K (tVar 0)) (gName 4) (tTest (tOp oNotN (tVar 4) (tC .non))) (tVar 4) [4]) (gName 2))
 (tSeq (tAsg tDNewK (gName 3))
 (tSeq (tWhile (tTest (tOp oGt (tCB (cLenSeq K) (tCons (tVar 2) tNil)) (tC (.int 0)))) (tSeq (tAsg (tBM0 K "list" rPop (tVar 2)) (gName 4))
 (tIfS (tB (tDNotIn (tVar 4) (tVar 3))) (tSeq (sDPut (tVar 3) (tVar 4) (tC (.bl true)))
 (tDrop (tBM K "list" rExtend (tVar 2) (tCons (tLc (iList K (tDGet (tVar 1) (tVar 4))) (gName 5) (tTest (tOp oNotN (tVar 5) (tC .non))) (tVar 5) [5]) tNil)))) tNext)))
 (tRet (tCB cSortedDk (tCons (tVar 3) tNil))))))
abbrev N__law_reached : List Str := ["roots", "fields", "line", "met", "t", "other"]
def sp__law_reached (K : PySem.W.Frag) : Sp := fun vs H Q E => vs.length = 2 ∧ t__law_reached K E { nx := fun _ H' => Q .non H', rt := Q } (start N__law_reached vs) H
theorem i__law_reached {K : PySem.W.Frag} {a0 a1 : V} {H : Hp} {Q : VK} {E : XK} (h : t__law_reached K E { nx := fun _ H' => Q .non H', rt := Q } [some a0, some a1, none, none, none, none] H) : sp__law_reached K [a0, a1] H Q E := ⟨rfl, h⟩
def t__law_steps_right (K : PySem.W.Frag) (E : XK) : TS :=
 (tSeq (tAsg tDNewK (gName 3))
 (tSeq (tFor (iList K (tVar 2)) (gName 4) (tSeq (tIfS (tOr (tNot (tB (tCB (rIsiE K) (tCons (tVar 4) (tCons (tC (.ty "tuple")) tNil))))) (tOr (tTest (tOp rNe (tCB (cLenSeq K) (tCons (tVar 4) tNil)) (tC (.int 3)))) (tB (tDIn (tOp (rIxT K) (tVar 4) (tC (.int 0))) (tVar 3))))) (tRet (tC (.bl false))) tNext)
 (tSeq (tAsg (tVar 0) (gName 5))
 (tSeq (tIfS (tTest (tOp oNotN (tOp (rIxT K) (tVar 4) (tC (.int 1))) (tC .non))) (tSeq (tIfS (tB (tDNotIn (tOp (rIxT K) (tVar 4) (tC (.int 1))) (tVar 3))) (tRet (tC (.bl false))) tNext)
 (tAsg (tDGet (tVar 1) (tOp (rIxT K) (tVar 4) (tC (.int 1)))) (gName 5))) tNext)
 (tSeq (tIfS (tOr (tNot (tB (tCB (rIsiE K) (tCons (tOp (rIxT K) (tVar 4) (tC (.int 2))) (tCons (tC (.ty "int")) tNil))))) (tOr (tB (tCB (rIsiE K) (tCons (tOp (rIxT K) (tVar 4) (tC (.int 2))) (tCons (tC (.ty "bool")) tNil)))) (tNot (tTest (tChain oLe oLt (tC (.int 0)) (tOp (rIxT K) (tVar 4) (tC (.int 2))) (tCB (cLenSeq K) (tCons (tVar 5) tNil))))))) (tRet (tC (.bl false))) tNext)
 (tSeq (tIfS (tOr (tTest (tOp oIsN (tOp (rIxT K) (tVar 4) (tC (.int 0))) (tC .non))) (tTest (tOp rNe (tOp (rIxL K) (tVar 5) (tOp (rIxT K) (tVar 4) (tC (.int 2)))) (tOp (rIxT K) (tVar 4) (tC (.int 0)))))) (tRet (tC (.bl false))) tNext)
 (sDPut (tVar 3) (tOp (rIxT K) (tVar 4) (tC (.int 0))) (tC (.bl true)))))))))
 (tRet (tC (.bl true)))))
abbrev N__law_steps_right : List Str := ["roots", "fields", "triples", "ahead", "triple", "told"]
def sp__law_steps_right (K : PySem.W.Frag) : Sp := fun vs H Q E => vs.length = 3 ∧ t__law_steps_right K E { nx := fun _ H' => Q .non H', rt := Q } (start N__law_steps_right vs) H
theorem i__law_steps_right {K : PySem.W.Frag} {a0 a1 a2 : V} {H : Hp} {Q : VK} {E : XK} (h : t__law_steps_right K E { nx := fun _ H' => Q .non H', rt := Q } [some a0, some a1, some a2, none, none, none] H) : sp__law_steps_right K [a0, a1, a2] H Q E := ⟨rfl, h⟩
def t_step_stands (K : PySem.W.Frag) (E : XK) : TS :=
 (tSeq (tAsg (tVar 2) (gTup K 3 (gCons (gName 3) (gCons (gName 4) (gCons (gName 5) gNil)))))
 (tSeq (tAsg (tOp (rIxT K) (tVar 0) (tC (.int 0))) (gName 6))
 (tSeq (tIfS (tTest (tOp oNotN (tVar 4) (tC .non))) (tSeq (tIfS (tB (tDNotIn (tVar 4) (tVar 1))) (tRet (tC (.bl false))) tNext)
 (tAsg (tDGet (tOp (rIxT K) (tVar 0) (tC (.int 1))) (tVar 4)) (gName 6))) tNext)
 (tRet (tAndV (tOp oNotN (tVar 5) (tC .non)) (tAndV (tChain oLe oLt (tC (.int 0)) (tVar 5) (tCB (cLenSeq K) (tCons (tVar 6) tNil))) (tOp rEq (tOp (rIxL K) (tVar 6) (tVar 5)) (tVar 3))))))))
abbrev N_step_stands : List Str := ["view", "ahead", "triple", "thing", "since", "place", "told"]
def sp_step_stands (K : PySem.W.Frag) : Sp := fun vs H Q E => vs.length = 3 ∧ t_step_stands K E { nx := fun _ H' => Q .non H', rt := Q } (start N_step_stands vs) H
theorem i_step_stands {K : PySem.W.Frag} {a0 a1 a2 : V} {H : Hp} {Q : VK} {E : XK} (h : t_step_stands K E { nx := fun _ H' => Q .non H', rt := Q } [some a0, some a1, some a2, none, none, none, none] H) : sp_step_stands K [a0, a1, a2] H Q E := ⟨rfl, h⟩
def t_root_things (K : PySem.W.Frag) (E : XK) : TS :=
 (tRet (tLc (iList K (tOp (rIxT K) (tVar 0) (tC (.int 0)))) (gName 1) (tTest (tOp oNotN (tVar 1) (tC .non))) (tVar 1) [1]))
abbrev N_root_things : List Str := ["view", "thing"]
def sp_root_things (K : PySem.W.Frag) : Sp := fun vs H Q E => vs.length = 1 ∧ t_root_things K E { nx := fun _ H' => Q .non H', rt := Q } (start N_root_things vs) H
theorem i_root_things {K : PySem.W.Frag} {a0 : V} {H : Hp} {Q : VK} {E : XK} (h : t_root_things K E { nx := fun _ H' => Q .non H', rt := Q } [some a0, none] H) : sp_root_things K [a0] H Q E := ⟨rfl, h⟩
def t_closed_over (K : PySem.W.Frag) (E : XK) : TS :=
 (tSeq (tAsg (tCallS (sp_root_things K) (WE (WD E)) (tCons (tVar 0) tNil)) (gName 2))
 (tSeq (tLock2 (tFor (iKeys (tVar 1)) (gName 3) (tDrop (tBM K "list" rExtend (tVar 2) (tCons (tLc (iList K (tDGet (tOp (rIxT K) (tVar 0) (tC (.int 1))) (tVar 3))) (gName 4) (tTest (tOp oNotN (tVar 4) (tC .non))) (tVar 4) [4]) tNil)))))
 (tRet (tCB (rAll K) (tCons (tLc (iList K (tVar 2)) (gName 4) tYes (tDIn (tVar 4) (tVar 1)) [4]) tNil)))))
abbrev N_closed_over : List Str := ["view", "things", "told", "thing", "other"]
def sp_closed_over (K : PySem.W.Frag) : Sp := fun vs H Q E => vs.length = 2 ∧ t_closed_over K E { nx := fun _ H' => Q .non H', rt := Q } (start N_closed_over vs) H
theorem i_closed_over {K : PySem.W.Frag} {a0 a1 : V} {H : Hp} {Q : VK} {E : XK} (h : t_closed_over K E { nx := fun _ H' => Q .non H', rt := Q } [some a0, some a1, none, none, none] H) : sp_closed_over K [a0, a1] H Q E := ⟨rfl, h⟩
def t_paper_judged (K : PySem.W.Frag) (E : XK) : TS :=
 (tSeq (tDrop (tCallS (sp_look_at_view K) (WE (WD E)) (tCons (tVar 0) tNil)))
 (tSeq (tAsg tDNewK (gName 2))
 (tSeq (tFor (iList K (tVar 1)) (gName 3) (tSeq (tIfS (tOr (tTest (tOp oIsN (tOp (rIxT K) (tVar 3) (tC (.int 0))) (tC .non))) (tOr (tB (tDIn (tOp (rIxT K) (tVar 3) (tC (.int 0))) (tVar 2))) (tNot (tB (tCallS (sp_step_stands K) (WE (WD E)) (tCons (tVar 0) (tCons (tVar 2) (tCons (tVar 3) tNil)))))))) (tRet (tC (.bl false))) tNext)
 (sDPut (tVar 2) (tOp (rIxT K) (tVar 3) (tC (.int 0))) (tC (.bl true)))))
 (tRet (tCallS (sp_closed_over K) (WE (WD E)) (tCons (tVar 0) (tCons (tVar 2) tNil)))))))
abbrev N_paper_judged : List Str := ["view", "triples", "ahead", "triple"]
def sp_paper_judged (K : PySem.W.Frag) : Sp := fun vs H Q E => vs.length = 2 ∧ t_paper_judged K E { nx := fun _ H' => Q .non H', rt := Q } (start N_paper_judged vs) H
theorem i_paper_judged {K : PySem.W.Frag} {a0 a1 : V} {H : Hp} {Q : VK} {E : XK} (h : t_paper_judged K E { nx := fun _ H' => Q .non H', rt := Q } [some a0, some a1, none, none] H) : sp_paper_judged K [a0, a1] H Q E := ⟨rfl, h⟩
def t_round_judged (K : PySem.W.Frag) (E : XK) : TS :=
 (tSeq (tAsg (tVar 2) (gTup K 2 (gCons (gName 3) (gCons (gName 4) gNil))))
 (tRet (tAndV (tCallS (sp_paper_judged K) (WE (WD E)) (tCons (tCallS (sp_wider K) (WE (WD E)) (tCons (tVar 0) (tCons (tVar 1) tNil))) (tCons (tVar 3) tNil))) (tOp (rEqU K) (tCB (cListOf K) (tCons (tVar 4) tNil)) (tCallS (sp_others_of K) (WE (WD E)) (tCons (tVar 0) (tCons (tVar 3) tNil)))))))
abbrev N_round_judged : List Str := ["view", "read", "paper", "triples", "gone"]
def sp_round_judged (K : PySem.W.Frag) : Sp := fun vs H Q E => vs.length = 3 ∧ t_round_judged K E { nx := fun _ H' => Q .non H', rt := Q } (start N_round_judged vs) H
theorem i_round_judged {K : PySem.W.Frag} {a0 a1 a2 : V} {H : Hp} {Q : VK} {E : XK} (h : t_round_judged K E { nx := fun _ H' => Q .non H', rt := Q } [some a0, some a1, some a2, none, none] H) : sp_round_judged K [a0, a1, a2] H Q E := ⟨rfl, h⟩
def t__law_refused (K : PySem.W.Frag) (E : XK) : TS :=
 (tSeq (tAsg (tLst tNil) (gName 3))
 (tSeq (tFor (iRng1 (tCons (tC (.int 2)) tNil)) (gName 4) (tSeq (tAsg (tC .non) (gName 5))
 (tSeq (tTryT K (.ref (He.ga K "HeapError")) 6 (fun W => (tIfS (tTest (tOp rEq (tVar 4) (tC (.int 0)))) (tDrop (tCallS (sp_round_paper K) (WE W) (tCons (tVar 0) (tCons (tVar 1) tNil)))) (tDrop (tCallS (sp_round_judged K) (WE W) (tCons (tVar 0) (tCons (tVar 1) (tCons (tVar 2) tNil))))))) (tAsg (tVar 6) (gName 5)) (WD E))
 (tDrop (tBM K "list" rAppend (tVar 3) (tCons (tAndV (tCB (rIsiE K) (tCons (tVar 5) (tCons (tC (.ref (He.ga K "BadView"))) tNil))) (tCB (rIsiE K) (tCons (tVar 5) (tCons (tC (.ty "ValueError")) tNil)))) tNil))))))
 (tRet (tOp (rEqU K) (tVar 3) (tLst (tCons (tC (.bl true)) (tCons (tC (.bl true)) tNil)))))))
abbrev N__law_refused : List Str := ["view", "back", "paper", "found", "way", "caught", "e"]
def sp__law_refused (K : PySem.W.Frag) : Sp := fun vs H Q E => vs.length = 3 ∧ t__law_refused K E { nx := fun _ H' => Q .non H', rt := Q } (start N__law_refused vs) H
theorem i__law_refused {K : PySem.W.Frag} {a0 a1 a2 : V} {H : Hp} {Q : VK} {E : XK} (h : t__law_refused K E { nx := fun _ H' => Q .non H', rt := Q } [some a0, some a1, some a2, none, none, none, none] H) : sp__law_refused K [a0, a1, a2] H Q E := ⟨rfl, h⟩
def t_law (K : PySem.W.Frag) (E : XK) : TS :=
 (tSeq (tAsg (tCallS (sp__law_view K) (WE (WD E)) (tCons (tCallS (sp__law_codes K) (WE (WD E)) (tCons (tVar 0) (tCons (tC (.int 40)) tNil))) tNil)) (gTup K 3 (gCons (gName 1) (gCons (gName 2) (gCons (gName 3) gNil)))))
 (tSeq (tAsg (tTup (tCons (tCB (cListOf K) (tCons (tVar 1) tNil)) (tCons (tCB (cDictP K) (tCons (tLockE2 (tLc (iKeys (tVar 2)) (gName 14) tYes (tTup (tCons (tVar 14) (tCons (tCB (cListOf K) (tCons (tDGet (tVar 2) (tVar 14)) tNil)) tNil))) [14])) tNil)) tNil))) (gName 4))
 (tSeq (tAsg (tCB (cListOf K) (tCons (tVar 3) tNil)) (gName 5))
 (tSeq (tAsg (tCallS (sp_round_paper K) (WE (WD E)) (tCons (tVar 4) (tCons (tVar 5) tNil))) (gName 6))
 (tSeq (tIfS (tOr (tNot (tB (tCB (rIsiE K) (tCons (tVar 6) (tCons (tC (.ty "tuple")) tNil))))) (tTest (tOp rNe (tCB (cLenSeq K) (tCons (tVar 6) tNil)) (tC (.int 2))))) (tRet (tC (.bl false))) tNext)
 (tSeq (tAsg (tVar 6) (gTup K 2 (gCons (gName 7) (gCons (gName 8) gNil))))
 (tSeq (tAsg (tOp (rCatS K) (tVar 1) (tSortedSet K (tVar 3))) (gName 9))
 (tSeq (tAsg (tCallS (sp__law_reached K) (WE (WD E)) (tCons (tVar 9) (tCons (tVar 2) tNil))) (gName 10))
 (tSeq (tIfS (tOr (tNot (tB (tCB (rIsiE K) (tCons (tVar 7) (tCons (tC (.ty "list")) tNil))))) (tNot (tB (tCallS (sp__law_steps_right K) (WE (WD E)) (tCons (tVar 9) (tCons (tVar 2) (tCons (tVar 7) tNil))))))) (tRet (tC (.bl false))) tNext)
 (tSeq (tIfS (tOr (tTest (tOp (rNeU K) (tCB (rSortedI K) (tCons (tLc (iList K (tVar 7)) (gName 18) tYes (tOp (rIxT K) (tVar 18) (tC (.int 0))) [18]) tNil)) (tVar 10))) (tNot (tB (tCB (rIsiE K) (tCons (tVar 8) (tCons (tC (.ty "list")) tNil)))))) (tRet (tC (.bl false))) tNext)
 (tSeq (tIfS (tOr (tTest (tOp (rNeU K) (tVar 8) (tLc (iList K (tCB cSortedDk (tCons (tVar 2) tNil))) (gName 14) (tTest (tOp (rIn K true) (tVar 14) (tVar 10))) (tVar 14) [14]))) (tTest (tOp rNotB (tCallS (sp_round_judged K) (WE (WD E)) (tCons (tVar 4) (tCons (tVar 5) (tCons (tVar 6) tNil)))) (tC (.bl true))))) (tRet (tC (.bl false))) tNext)
 (tSeq (tAsg (tTup (tCons (tCB (cListOf K) (tCons (tVar 7) tNil)) (tCons (tCB (cListOf K) (tCons (tVar 8) tNil)) tNil))) (gName 11))
 (tSeq (tDrop (tBM K "list" rAppend (tVar 7) (tCons (tTup (tCons (tC (.int 0)) (tCons (tC .non) (tCons (tC (.int 0)) tNil)))) tNil)))
 (tSeq (tDrop (tBM K "list" rAppend (tVar 8) (tCons (tC (.int 0)) tNil)))
 (tSeq (tIfS (tOr (tTest (tOp (rNeU K) (tCallS (sp_round_paper K) (WE (WD E)) (tCons (tVar 4) (tCons (tVar 5) tNil))) (tVar 11))) (tOr (tTest (tOp (rNeU K) (tVar 4) (tTup (tCons (tVar 1) (tCons (tVar 2) tNil))))) (tTest (tOp (rNeU K) (tVar 5) (tVar 3))))) (tRet (tC (.bl false))) tNext)
 (tSeq (tAsg (tOp oAdd (tOp oMul (tOp oMod (tCB (rSum K) (tCons (tVar 0) tNil)) (tOp oPow (tC (.int 10)) (tC (.int 40)))) (tC (.int 3))) (tOp oPow (tC (.int 10)) (tC (.int 55)))) (gName 12))
 (tSeq (tAsg (tLst (tCons (tTup (tCons (tOp (rCatS K) (tVar 1) (tLst (tCons (tVar 12) tNil))) (tCons (tVar 2) tNil))) tNil)) (gName 13))
 (tSeq (tFor (iList K (tSl (rSlL K) (tCB cSortedDk (tCons (tVar 2) tNil)) tNoPart (tPart (tC (.int 1))))) (gName 14) (tSeq (tAsg (tCB (cDictP K) (tCons (tLockE2 (tLc (iKeys (tVar 2)) (gName 17) tYes (tTup (tCons (tVar 17) (tCons (tCB (cListOf K) (tCons (tDGet (tVar 2) (tVar 17)) tNil)) tNil))) [17])) tNil)) (gName 16))
 (tSeq (sDPut (tVar 16) (tVar 14) (tOp (rCatS K) (tLst (tCons (tVar 12) tNil)) (tSl (rSlL K) (tDGet (tVar 16) (tVar 14)) (tPart (tC (.int 1))) tNoPart)))
 (tDrop (tBM K "list" rAppend (tVar 13) (tCons (tTup (tCons (tCB (cListOf K) (tCons (tVar 1) tNil)) (tCons (tVar 16) tNil))) tNil))))))
 (tSeq (tFor (iList K (tVar 13)) (gName 15) (tIfS (tNot (tB (tCallS (sp__law_refused K) (WE (WD E)) (tCons (tVar 15) (tCons (tCB (cListOf K) (tCons (tVar 3) tNil)) (tCons (tVar 11) tNil)))))) (tRet (tC (.bl false))) tNext))
 (tRet (tAndV (tCallS (sp__law_refused K) (WE (WD E)) (tCons (tVar 4) (tCons (tOp (rCatS K) (tVar 3) (tLst (tCons (tVar 12) tNil))) (tCons (tVar 11) tNil)))) (tCallS (sp__law_refused K) (WE (WD E)) (tCons (tVar 4) (tCons (tOp (rCatS K) (tLst (tCons (tVar 12) tNil)) (tVar 3)) (tCons (tVar 11) tNil)))))))))))))))))))))))))
abbrev N_law : List Str := ["script", "roots", "fields", "back", "view", "handed", "told", "triples", "gone", "wide", "due", "kept", "strange", "bad", "t", "one", "wrong", "other", "triple"]
def sp_law (K : PySem.W.Frag) : Sp := fun vs H Q E => vs.length = 1 ∧ t_law K E { nx := fun _ H' => Q .non H', rt := Q } (start N_law vs) H
theorem i_law {K : PySem.W.Frag} {a0 : V} {H : Hp} {Q : VK} {E : XK} (h : t_law K E { nx := fun _ H' => Q .non H', rt := Q } [some a0, none, none, none, none, none, none, none, none, none, none, none, none, none, none, none, none, none, none] H) : sp_law K [a0] H Q E := ⟨rfl, h⟩
/-- what the pure part leans on -/
structure PF (K : PySem.W.Frag) : Prop where
  exm_HeapError_HeapError : PySem.W.exmOne K (.ref (He.ga K "HeapError")) (.ref (He.ga K "HeapError")) = some true
  exm_BadView_HeapError : PySem.W.exmOne K (.ref (He.ga K "BadView")) (.ref (He.ga K "HeapError")) = some true
  excC_BadView : ExcC K (He.ga K "BadView")
  kit_BadView_BadView : PySem.W.kitOne K (.ref (He.ga K "BadView")) (.ref (He.ga K "BadView")) = some true
  kit_BadView_ValueError : PySem.W.kitOne K (.ref (He.ga K "BadView")) (.type "ValueError") = some true
end R_k70

set_option Elab.async false
set_option linter.all false
set_option maxRecDepth 100000
set_option maxHeartbeats 0
namespace D_k70
open PySem PySem.Spec PyProof.Rows L2 SX0 R_k70
def top (i : Nat) : Stmt := PySem.Challenge.pw_stillheap_k70_round_papers.main.body.getD i (.Pass ⟨0, 0, 0, 0⟩)
abbrev s__law_picked : Stmt := top 21
theorem sc__law_picked : FnScope N__law_picked ["things", "number"] (defScope s__law_picked) := ⟨rfl, rfl, rfl, by decide +kernel, rfl, by decide +kernel, by decide +kernel⟩
abbrev s__law_view : Stmt := top 22
theorem sc__law_view : FnScope N__law_view ["codes"] (defScope s__law_view) := ⟨rfl, rfl, rfl, by decide +kernel, rfl, by decide +kernel, by decide +kernel⟩
abbrev s__law_codes : Stmt := top 20
theorem sc__law_codes : FnScope N__law_codes ["script", "many"] (defScope s__law_codes) := ⟨rfl, rfl, rfl, by decide +kernel, rfl, by decide +kernel, by decide +kernel⟩
abbrev s_look_at_told : Stmt := top 5
theorem sc_look_at_told : FnScope N_look_at_told ["fields", "told"] (defScope s_look_at_told) := ⟨rfl, rfl, rfl, by decide +kernel, rfl, by decide +kernel, by decide +kernel⟩
abbrev s_look_at_view : Stmt := top 6
theorem sc_look_at_view : FnScope N_look_at_view ["view"] (defScope s_look_at_view) := ⟨rfl, rfl, rfl, by decide +kernel, rfl, by decide +kernel, by decide +kernel⟩
abbrev s_last_steps : Stmt := top 8
theorem sc_last_steps : FnScope N_last_steps ["view"] (defScope s_last_steps) := ⟨rfl, rfl, rfl, by decide +kernel, rfl, by decide +kernel, by decide +kernel⟩
abbrev s_reach_paper : Stmt := top 10
theorem sc_reach_paper : FnScope N_reach_paper ["view"] (defScope s_reach_paper) := ⟨rfl, rfl, rfl, by decide +kernel, rfl, by decide +kernel, by decide +kernel⟩
abbrev s_wider : Stmt := top 15
theorem sc_wider : FnScope N_wider ["view", "read"] (defScope s_wider) := ⟨rfl, rfl, rfl, by decide +kernel, rfl, by decide +kernel, by decide +kernel⟩
abbrev s_others_of : Stmt := top 16
theorem sc_others_of : FnScope N_others_of ["view", "triples"] (defScope s_others_of) := ⟨rfl, rfl, rfl, by decide +kernel, rfl, by decide +kernel, by decide +kernel⟩
abbrev s_round_paper : Stmt := top 17
theorem sc_round_paper : FnScope N_round_paper ["view", "read"] (defScope s_round_paper) := ⟨rfl, rfl, rfl, by decide +kernel, rfl, by decide +kernel, by decide +kernel⟩
abbrev s__law_reached : Stmt := top 23
theorem sc__law_reached : FnScope N__law_reached ["roots", "fields"] (defScope s__law_reached) := ⟨rfl, rfl, rfl, by decide +kernel, rfl, by decide +kernel, by decide +kernel⟩
abbrev s__law_steps_right : Stmt := top 24
theorem sc__law_steps_right : FnScope N__law_steps_right ["roots", "fields", "triples"] (defScope s__law_steps_right) := ⟨rfl, rfl, rfl, by decide +kernel, rfl, by decide +kernel, by decide +kernel⟩
abbrev s_step_stands : Stmt := top 12
theorem sc_step_stands : FnScope N_step_stands ["view", "ahead", "triple"] (defScope s_step_stands) := ⟨rfl, rfl, rfl, by decide +kernel, rfl, by decide +kernel, by decide +kernel⟩
abbrev s_root_things : Stmt := top 7
theorem sc_root_things : FnScope N_root_things ["view"] (defScope s_root_things) := ⟨rfl, rfl, rfl, by decide +kernel, rfl, by decide +kernel, by decide +kernel⟩
abbrev s_closed_over : Stmt := top 11
theorem sc_closed_over : FnScope N_closed_over ["view", "things"] (defScope s_closed_over) := ⟨rfl, rfl, rfl, by decide +kernel, rfl, by decide +kernel, by decide +kernel⟩
abbrev s_paper_judged : Stmt := top 13
theorem sc_paper_judged : FnScope N_paper_judged ["view", "triples"] (defScope s_paper_judged) := ⟨rfl, rfl, rfl, by decide +kernel, rfl, by decide +kernel, by decide +kernel⟩
abbrev s_round_judged : Stmt := top 18
theorem sc_round_judged : FnScope N_round_judged ["view", "read", "paper"] (defScope s_round_judged) := ⟨rfl, rfl, rfl, by decide +kernel, rfl, by decide +kernel, by decide +kernel⟩
abbrev s__law_refused : Stmt := top 25
theorem sc__law_refused : FnScope N__law_refused ["view", "back", "paper"] (defScope s__law_refused) := ⟨rfl, rfl, rfl, by decide +kernel, rfl, by decide +kernel, by decide +kernel⟩
abbrev s_law : Stmt := top 26
theorem sc_law : FnScope N_law ["script"] (defScope s_law) := ⟨rfl, rfl, rfl, by decide +kernel, rfl, by decide +kernel, by decide +kernel⟩
def d__law_picked : He.DefD := ⟨("_law_picked", none), "_law_picked", "_law_picked", defArgs s__law_picked, defBody s__law_picked, defScope s__law_picked, [], []⟩
def d__law_codes : He.DefD := ⟨("_law_codes", none), "_law_codes", "_law_codes", defArgs s__law_codes, defBody s__law_codes, defScope s__law_codes, [], []⟩
def d__law_view : He.DefD := ⟨("_law_view", none), "_law_view", "_law_view", defArgs s__law_view, defBody s__law_view, defScope s__law_view, [], []⟩
def d_look_at_told : He.DefD := ⟨("look_at_told", none), "look_at_told", "look_at_told", defArgs s_look_at_told, defBody s_look_at_told, defScope s_look_at_told, [], []⟩
def d_look_at_view : He.DefD := ⟨("look_at_view", none), "look_at_view", "look_at_view", defArgs s_look_at_view, defBody s_look_at_view, defScope s_look_at_view, [], []⟩
def d_last_steps : He.DefD := ⟨("last_steps", none), "last_steps", "last_steps", defArgs s_last_steps, defBody s_last_steps, defScope s_last_steps, [], []⟩
def d_wider : He.DefD := ⟨("wider", none), "wider", "wider", defArgs s_wider, defBody s_wider, defScope s_wider, [], []⟩
def d_reach_paper : He.DefD := ⟨("reach_paper", none), "reach_paper", "reach_paper", defArgs s_reach_paper, defBody s_reach_paper, defScope s_reach_paper, [], []⟩
def d_others_of : He.DefD := ⟨("others_of", none), "others_of", "others_of", defArgs s_others_of, defBody s_others_of, defScope s_others_of, [], []⟩
def d_round_paper : He.DefD := ⟨("round_paper", none), "round_paper", "round_paper", defArgs s_round_paper, defBody s_round_paper, defScope s_round_paper, [], []⟩
def d__law_reached : He.DefD := ⟨("_law_reached", none), "_law_reached", "_law_reached", defArgs s__law_reached, defBody s__law_reached, defScope s__law_reached, [], []⟩
def d__law_steps_right : He.DefD := ⟨("_law_steps_right", none), "_law_steps_right", "_law_steps_right", defArgs s__law_steps_right, defBody s__law_steps_right, defScope s__law_steps_right, [], []⟩
def d_step_stands : He.DefD := ⟨("step_stands", none), "step_stands", "step_stands", defArgs s_step_stands, defBody s_step_stands, defScope s_step_stands, [], []⟩
def d_root_things : He.DefD := ⟨("root_things", none), "root_things", "root_things", defArgs s_root_things, defBody s_root_things, defScope s_root_things, [], []⟩
def d_closed_over : He.DefD := ⟨("closed_over", none), "closed_over", "closed_over", defArgs s_closed_over, defBody s_closed_over, defScope s_closed_over, [], []⟩
def d_paper_judged : He.DefD := ⟨("paper_judged", none), "paper_judged", "paper_judged", defArgs s_paper_judged, defBody s_paper_judged, defScope s_paper_judged, [], []⟩
def d_round_judged : He.DefD := ⟨("round_judged", none), "round_judged", "round_judged", defArgs s_round_judged, defBody s_round_judged, defScope s_round_judged, [], []⟩
def d__law_refused : He.DefD := ⟨("_law_refused", none), "_law_refused", "_law_refused", defArgs s__law_refused, defBody s__law_refused, defScope s__law_refused, [], []⟩
def d_law : He.DefD := ⟨("law", none), "law", "law", defArgs s_law, defBody s_law, defScope s_law, [], []⟩
def fn : List He.DefD := [d__law_picked, d__law_codes, d__law_view, d_look_at_told, d_look_at_view, d_last_steps, d_wider, d_reach_paper, d_others_of, d_round_paper, d__law_reached, d__law_steps_right, d_step_stands, d_root_things, d_closed_over, d_paper_judged, d_round_judged, d__law_refused, d_law]
def fa : List He.Fa := [.free "range", .free "len", .glo "_law_picked", .free "int", .free "sum", .glo "_law_codes", .glo "_law_view", .free "list", .free "dict", .glo "BadView", .exc "BadView", .glo "look_at_told", .glo "look_at_view", .free "enumerate", .glo "last_steps", .free "sorted", .glo "wider", .glo "reach_paper", .glo "others_of", .glo "round_paper", .free "tuple", .free "isinstance", .free "set", .glo "_law_reached", .free "bool", .glo "_law_steps_right", .glo "step_stands", .glo "root_things", .free "all", .glo "closed_over", .glo "paper_judged", .glo "round_judged", .exm "HeapError" "HeapError" true, .exm "BadView" "HeapError" true, .glo "HeapError", .free "ValueError", .glo "_law_refused", .glo "law"]
def exl (K : PySem.W.Frag) : List Bool := [excCB K (He.ga K "BadView"), kitB K (.ref (He.ga K "BadView")) (.ref (He.ga K "BadView")) true, kitB K (.ref (He.ga K "BadView")) (.type "ValueError") true]
def ex (K : PySem.W.Frag) : Bool := (exl K).all id
structure Tx (P : Program) (w : World) (K : PySem.W.Frag) (mg : Str → Option Value) (base : Heap) : Prop where
  X : K.In base
  G : base.Ns mainGlobals mg
  c : ∃ h, He.SaysX fa fn [] [] ex w h K
theorem Tx.t {P : Program} {w : World} {K : PySem.W.Frag} {mg : Str → Option Value} {base : Heap} (T : Tx P w K mg base) : He.SaysT fa fn [] w K := T.c.elim fun _ c => c.t
theorem Tx.exf {P : Program} {w : World} {K : PySem.W.Frag} {mg : Str → Option Value} {base : Heap} (T : Tx P w K mg base) (i : Nat) {b : Bool} (h : (exl K)[i]? = some b) : b = true := by
  obtain ⟨_, c⟩ := T.c
  exact List.all_eq_true.mp c.more b (List.mem_of_getElem? h)
section
variable {P : Program} {w : World} {K : PySem.W.Frag} {mg : Str → Option Value} {base : Heap}
theorem ok__law_picked (T : Tx P w K mg base) {f : Addr} {fd : FuncData} (F : FunD K "_law_picked" "_law_picked" (defArgs s__law_picked) (defBody s__law_picked) (defScope s__law_picked) [] [] f fd) : GoodF P w K mg base 1 f fd ["things", "number"] (sp__law_picked K) := by
  refine ⟨F.ok sc__law_picked (fun vs H Q E h => h.1) (fun cdv A outer s H vs Q E hr h => ⟨t__law_picked K E, ?_, h.2⟩), FunD.bindsN F fun _ _ _ _ _ _ us hl => match us, hl with | [_, _], _ => rfl, F.kp⟩
  have hu := hu_of hr
  unfold t__law_picked
  exact (pss_cons (ps_if (PW.pt (pw_or (pt_cmpR (op_eqU hr.units) (pv 0) (pe_lst pa_nil) (nomark _)) (pw_or1 (pt_cmpR op_eq (pe_op op_mod (pv 1) pe_int) pe_int (nomark _))))) (pss_one (ps_ret pe_non)) pss_nil)
 (pss_one (ps_ret (pe_ix ix_list (pv 0) (pe_op op_mod (pe_op op_fdivW (pv 1) pe_int) (pe_callB call_len_seq (by rfl) (He.free_ok T.X T.G (T.t.d.fact 1 (f := .free "len") rfl)) (by decide +kernel) (pa_cons (pv 0) pa_nil))) (fun _ _ => rfl)))))
theorem gd__law_picked (T : Tx P w K mg base) : Good P w K mg base 1 (He.fAd K (d__law_picked).at_) ["things", "number"] (sp__law_picked K) := by
  obtain ⟨fd, F⟩ := T.t.d.def_ 0 (d := d__law_picked) rfl
  exact ⟨fd, ok__law_picked T F⟩
theorem ok__law_view (T : Tx P w K mg base) {f : Addr} {fd : FuncData} (F : FunD K "_law_view" "_law_view" (defArgs s__law_view) (defBody s__law_view) (defScope s__law_view) [] [] f fd) : GoodF P w K mg base 2 f fd ["codes"] (sp__law_view K) := by
  refine ⟨F.ok sc__law_view (fun vs H Q E h => h.1) (fun cdv A outer s H vs Q E hr h => ⟨t__law_view K E, ?_, h.2⟩), FunD.bindsN F fun _ _ _ _ _ _ us hl => match us, hl with | [_], _ => rfl, F.kp⟩
  have hu := hu_of hr
  unfold t__law_view
  exact (pss_cons (ps_set (i := 1) sc__law_view.nd rfl (Or.inr rfl) (pe_ix ix_list (pe_op op_catS (pv 0) (pe_lst (pa_cons pe_int pa_nil))) pe_int (fun _ _ => rfl)))
 (pss_cons (ps_set (i := 2) sc__law_view.nd rfl (Or.inl rfl) (pe_op op_mod (pv 1) pe_int))
 (pss_cons (ps_setLc (i := 3) (own := [("j", 6)]) (g := (gName 6)) (tt := tYes) (by rfl) sc__law_view.nd rfl rfl (sw_true rfl rfl rfl (by decide +kernel)) (pi_range1 (by rfl) (He.free_ok T.X T.G (T.t.d.fact 0 (f := .free "range") rfl)) (pa_cons (pv 2) pa_nil)) (blkOk_by (own := [("j", 6)]) (N := N__law_view) (sc := defScope s__law_view) (by decide +kernel)) (fun _ _ _ _ _ => (pg_name (i := 6) sc__law_view.nd rfl (Or.inl rfl))) (fun _ _ _ _ _ => pts_nil) (fun _ _ _ _ _ => (pe_op op_mul (pe_op op_add (pe_op op_mul pe_int (pv 6)) (pe_op op_mod (pe_op op_fdivW (pv 1) pe_int) pe_int)) (pe_ix ix_list (pe_lst (pa_cons pe_int (pa_cons pe_int (pa_cons (pe_op op_pow pe_int pe_int) pa_nil)))) (pe_op op_mod (pe_op op_fdivW (pv 1) pe_int) pe_int) (fun _ _ => rfl)))))
 (pss_cons (ps_set (i := 4) sc__law_view.nd rfl (Or.inl rfl) (pe_slice sl_list (pv 0) (po_some pe_int) po_none))
 (pss_cons (ps_set (i := 5) sc__law_view.nd rfl (Or.inl rfl) pe_dnewK)
 (pss_cons (ps_for (passes_of rfl) rfl (pi_range1 (by rfl) (He.free_ok T.X T.G (T.t.d.fact 0 (f := .free "range") rfl)) (pa_cons (pv 2) pa_nil)) (pg_name (i := 6) sc__law_view.nd rfl (Or.inl rfl)) (pss_cons (ps_set (i := 7) sc__law_view.nd rfl (Or.inl rfl) (pe_ix ix_list (pe_op op_catS (pv 4) (pe_op op_rep (pe_lst (pa_cons pe_int pa_nil)) pe_int)) (pv 6) (fun _ _ => rfl)))
 (pss_cons (ps_set (i := 11) sc__law_view.nd rfl (Or.inl rfl) (pe_lst pa_nil))
 (pss_cons (ps_for (passes_of rfl) rfl (pi_range1 (by rfl) (He.free_ok T.X T.G (T.t.d.fact 0 (f := .free "range") rfl)) (pa_cons (pe_op op_mod (pv 7) pe_int) pa_nil)) (pg_name (i := 9) sc__law_view.nd rfl (Or.inl rfl)) (pss_cons (ps_set (i := 7) sc__law_view.nd rfl (Or.inl rfl) (pe_op op_mod (pe_op op_mul (pv 7) pe_int) pe_int))
 (pss_one (ps_expr (pe_bm PySem.F.plainAttrs_list PySem.F.slot_list_append PySem.F.type_list_append mt_append (pv 11) (pa_cons (pe_cU (gd__law_picked T) (hr.mono (by decide)) (takes_of rfl rfl rfl rfl) rfl (He.glo_ok T.X T.G (T.t.d.fact 2 (f := .glo "_law_picked") rfl)) (pa_cons (pv 3) (pa_cons (pe_op op_fdivW (pv 7) pe_int) pa_nil))) pa_nil))))))
 (pss_one (ps_dput hu (pv 5) (pe_ix ix_list (pv 3) (pv 6) (fun _ _ => rfl)) (pv 11) rfl))))))
 (pss_cons (ps_set (i := 7) sc__law_view.nd rfl (Or.inl rfl) (pe_ix ix_list (pe_op op_catS (pv 4) (pe_op op_rep (pe_lst (pa_cons pe_int pa_nil)) pe_int)) pe_int (fun _ _ => rfl)))
 (pss_cons (ps_set (i := 8) sc__law_view.nd rfl (Or.inl rfl) (pe_lst pa_nil))
 (pss_cons (ps_for (passes_of rfl) rfl (pi_range1 (by rfl) (He.free_ok T.X T.G (T.t.d.fact 0 (f := .free "range") rfl)) (pa_cons (pe_op op_mod (pe_op op_fdivW (pv 7) pe_int) pe_int) pa_nil)) (pg_name (i := 9) sc__law_view.nd rfl (Or.inl rfl)) (pss_cons (ps_set (i := 7) sc__law_view.nd rfl (Or.inl rfl) (pe_op op_mod (pe_op op_mul (pv 7) pe_int) pe_int))
 (pss_one (ps_expr (pe_bm PySem.F.plainAttrs_list PySem.F.slot_list_append PySem.F.type_list_append mt_append (pv 8) (pa_cons (pe_cU (gd__law_picked T) (hr.mono (by decide)) (takes_of rfl rfl rfl rfl) rfl (He.glo_ok T.X T.G (T.t.d.fact 2 (f := .glo "_law_picked") rfl)) (pa_cons (pv 3) (pa_cons (pe_op op_fdivW (pv 7) pe_int) pa_nil))) pa_nil))))))
 (pss_cons (ps_set (i := 7) sc__law_view.nd rfl (Or.inl rfl) (pe_ix ix_list (pe_op op_catS (pv 4) (pe_op op_rep (pe_lst (pa_cons pe_int pa_nil)) pe_int)) pe_int (fun _ _ => rfl)))
 (pss_cons (ps_set (i := 10) sc__law_view.nd rfl (Or.inl rfl) (pe_lst pa_nil))
 (pss_cons (ps_for (passes_of rfl) rfl (pi_range1 (by rfl) (He.free_ok T.X T.G (T.t.d.fact 0 (f := .free "range") rfl)) (pa_cons (pe_op op_mul (pe_op op_mod (pv 7) pe_int) (pe_callTy call_int1 (by rfl) (He.free_ok T.X T.G (T.t.d.fact 3 (f := .free "int") rfl)) (by decide +kernel) (pa_cons (pe_cmpR op_gt (pv 2) pe_int (nomark _)) pa_nil))) pa_nil)) (pg_name (i := 9) sc__law_view.nd rfl (Or.inl rfl)) (pss_cons (ps_set (i := 7) sc__law_view.nd rfl (Or.inl rfl) (pe_op op_mod (pe_op op_mul (pv 7) pe_int) pe_int))
 (pss_one (ps_expr (pe_bm PySem.F.plainAttrs_list PySem.F.slot_list_append PySem.F.type_list_append mt_append (pv 10) (pa_cons (pe_ix ix_list (pv 3) (pe_op op_mod (pe_op op_fdivW (pv 7) pe_int) (pv 2)) (fun _ _ => rfl)) pa_nil))))))
 (pss_one (ps_ret (pe_tup (pa_cons (pv 8) (pa_cons (pv 5) (pa_cons (pv 10) pa_nil))))))))))))))))))
theorem gd__law_view (T : Tx P w K mg base) : Good P w K mg base 2 (He.fAd K (d__law_view).at_) ["codes"] (sp__law_view K) := by
  obtain ⟨fd, F⟩ := T.t.d.def_ 2 (d := d__law_view) rfl
  exact ⟨fd, ok__law_view T F⟩
theorem ok__law_codes (T : Tx P w K mg base) {f : Addr} {fd : FuncData} (F : FunD K "_law_codes" "_law_codes" (defArgs s__law_codes) (defBody s__law_codes) (defScope s__law_codes) [] [] f fd) : GoodF P w K mg base 1 f fd ["script", "many"] (sp__law_codes K) := by
  refine ⟨F.ok sc__law_codes (fun vs H Q E h => h.1) (fun cdv A outer s H vs Q E hr h => ⟨t__law_codes K E, ?_, h.2⟩), FunD.bindsN F fun _ _ _ _ _ _ us hl => match us, hl with | [_, _], _ => rfl, F.kp⟩
  have hu := hu_of hr
  unfold t__law_codes
  exact (pss_cons (ps_set (i := 2) sc__law_codes.nd rfl (Or.inl rfl) (pe_lst pa_nil))
 (pss_cons (ps_set (i := 3) sc__law_codes.nd rfl (Or.inl rfl) (pe_cmpR op_eq (pe_op op_mod (pe_callB (cr_sum rfl) (by rfl) (He.free_ok T.X T.G (T.t.d.fact 4 (f := .free "sum") rfl)) (by decide +kernel) (pa_cons (pv 0) pa_nil)) pe_int) pe_int (nomark _)))
 (pss_cons (ps_for (passes_of rfl) rfl (pi_range1 (by rfl) (He.free_ok T.X T.G (T.t.d.fact 0 (f := .free "range") rfl)) (pa_cons (pe_callB call_len_seq (by rfl) (He.free_ok T.X T.G (T.t.d.fact 1 (f := .free "len") rfl)) (by decide +kernel) (pa_cons (pv 0) pa_nil)) pa_nil)) (pg_name (i := 4) sc__law_codes.nd rfl (Or.inl rfl)) (pss_cons (ps_set (i := 5) sc__law_codes.nd rfl (Or.inl rfl) (pe_ix ix_list (pv 0) (pv 4) (fun _ _ => rfl)))
 (pss_cons (ps_if (pt_val (pv 3)) (pss_cons (ps_set (i := 7) sc__law_codes.nd rfl (Or.inl rfl) (pe_op op_mod (pe_op op_mul (pe_op op_add (pe_op op_add (pe_op op_mod (pv 5) pe_int) (pe_op op_mul pe_int (pv 4))) pe_int) pe_int) pe_int))
 (pss_cons (ps_set (i := 7) sc__law_codes.nd rfl (Or.inl rfl) (pe_op op_mod (pe_op op_mul (pv 7) (pv 7)) pe_int))
 (pss_one (ps_set (i := 5) sc__law_codes.nd rfl (Or.inl rfl) (pe_op op_add (pe_op op_mul (pe_op op_mul (pv 7) (pv 7)) pe_int) (pv 7)))))) pss_nil)
 (pss_one (ps_for (passes_of rfl) rfl (pi_range1 (by rfl) (He.free_ok T.X T.G (T.t.d.fact 0 (f := .free "range") rfl)) (pa_cons pe_int pa_nil)) (pg_name (i := 6) sc__law_codes.nd rfl (Or.inl rfl)) (pss_cons (ps_expr (pe_bm PySem.F.plainAttrs_list PySem.F.slot_list_append PySem.F.type_list_append mt_append (pv 2) (pa_cons (pe_op op_mod (pv 5) pe_int) pa_nil)))
 (pss_one (ps_set (i := 5) sc__law_codes.nd rfl (Or.inl rfl) (pe_op op_fdivW (pv 5) pe_int)))))))))
 (pss_one (ps_ret (pe_slice sl_list (pv 2) po_none (po_some (pv 1))))))))
theorem gd__law_codes (T : Tx P w K mg base) : Good P w K mg base 1 (He.fAd K (d__law_codes).at_) ["script", "many"] (sp__law_codes K) := by
  obtain ⟨fd, F⟩ := T.t.d.def_ 1 (d := d__law_codes) rfl
  exact ⟨fd, ok__law_codes T F⟩
theorem ok_look_at_told (T : Tx P w K mg base) {f : Addr} {fd : FuncData} (F : FunD K "look_at_told" "look_at_told" (defArgs s_look_at_told) (defBody s_look_at_told) (defScope s_look_at_told) [] [] f fd) : GoodF P w K mg base 1 f fd ["fields", "told"] (sp_look_at_told K) := by
  refine ⟨F.ok sc_look_at_told (fun vs H Q E h => h.1) (fun cdv A outer s H vs Q E hr h => ⟨t_look_at_told K E, ?_, h.2⟩), FunD.bindsN F fun _ _ _ _ _ _ us hl => match us, hl with | [_, _], _ => rfl, F.kp⟩
  have hu := hu_of hr
  unfold t_look_at_told
  exact (pss_one (ps_for (passes_of rfl) rfl (pi_list (pv 1)) (pg_name (i := 2) sc_look_at_told.nd rfl (Or.inl rfl)) (pss_one (ps_if (PW.pt (pw_and (pt_cmpR op_notN (pv 2) pe_non (nomark _)) (pw_and1 (pt_cmp (pc_dnotin hu (pv 2) (pv 0)))))) (pss_one (ps_rz rfl (takes_of rfl rfl rfl rfl) (He.glo_ok T.X T.G (T.t.d.fact 9 (f := .glo "BadView") rfl)) (He.exc_ok (T.t.d.fact 10 (f := .exc "BadView") rfl)))) pss_nil))))
theorem gd_look_at_told (T : Tx P w K mg base) : Good P w K mg base 1 (He.fAd K (d_look_at_told).at_) ["fields", "told"] (sp_look_at_told K) := by
  obtain ⟨fd, F⟩ := T.t.d.def_ 3 (d := d_look_at_told) rfl
  exact ⟨fd, ok_look_at_told T F⟩
theorem ok_look_at_view (T : Tx P w K mg base) {f : Addr} {fd : FuncData} (F : FunD K "look_at_view" "look_at_view" (defArgs s_look_at_view) (defBody s_look_at_view) (defScope s_look_at_view) [] [] f fd) : GoodF P w K mg base 2 f fd ["view"] (sp_look_at_view K) := by
  refine ⟨F.ok sc_look_at_view (fun vs H Q E h => h.1) (fun cdv A outer s H vs Q E hr h => ⟨t_look_at_view K E, ?_, h.2⟩), FunD.bindsN F fun _ _ _ _ _ _ us hl => match us, hl with | [_], _ => rfl, F.kp⟩
  have hu := hu_of hr
  unfold t_look_at_view
  exact (pss_cons (ps_asg (pv 0) (pg_tup rfl (pgs_cons (pg_name (i := 1) sc_look_at_view.nd rfl (Or.inl rfl)) (pgs_cons (pg_name (i := 2) sc_look_at_view.nd rfl (Or.inl rfl)) pgs_nil))))
 (pss_cons (ps_expr (pe_cU (gd_look_at_told T) (hr.mono (by decide)) (takes_of rfl rfl rfl rfl) rfl (He.glo_ok T.X T.G (T.t.d.fact 11 (f := .glo "look_at_told") rfl)) (pa_cons (pv 2) (pa_cons (pv 1) pa_nil))))
 (pss_one (ps_lock2 (ps_for (passes_of rfl) rfl (pi_keys (pv 2)) (pg_name (i := 3) sc_look_at_view.nd rfl (Or.inl rfl)) (pss_one (ps_expr (pe_cU (gd_look_at_told T) (hr.mono (by decide)) (takes_of rfl rfl rfl rfl) rfl (He.glo_ok T.X T.G (T.t.d.fact 11 (f := .glo "look_at_told") rfl)) (pa_cons (pv 2) (pa_cons (pe_dget hu (pv 2) (pv 3) (fun _ _ => rfl)) pa_nil))))))))))
theorem gd_look_at_view (T : Tx P w K mg base) : Good P w K mg base 2 (He.fAd K (d_look_at_view).at_) ["view"] (sp_look_at_view K) := by
  obtain ⟨fd, F⟩ := T.t.d.def_ 4 (d := d_look_at_view) rfl
  exact ⟨fd, ok_look_at_view T F⟩
theorem ok_last_steps (T : Tx P w K mg base) {f : Addr} {fd : FuncData} (F : FunD K "last_steps" "last_steps" (defArgs s_last_steps) (defBody s_last_steps) (defScope s_last_steps) [] [] f fd) : GoodF P w K mg base 1 f fd ["view"] (sp_last_steps K) := by
  refine ⟨F.ok sc_last_steps (fun vs H Q E h => h.1) (fun cdv A outer s H vs Q E hr h => ⟨t_last_steps K E, ?_, h.2⟩), FunD.bindsN F fun _ _ _ _ _ _ us hl => match us, hl with | [_], _ => rfl, F.kp⟩
  have hu := hu_of hr
  unfold t_last_steps
  exact (pss_cons (ps_asg (pv 0) (pg_tup rfl (pgs_cons (pg_name (i := 1) sc_last_steps.nd rfl (Or.inl rfl)) (pgs_cons (pg_name (i := 2) sc_last_steps.nd rfl (Or.inl rfl)) pgs_nil))))
 (pss_cons (ps_set (i := 3) sc_last_steps.nd rfl (Or.inl rfl) pe_dnewK)
 (pss_cons (ps_for (passes_of rfl) rfl (pi_enum (by rfl) (He.free_ok T.X T.G (T.t.d.fact 13 (f := .free "enumerate") rfl)) (pa_cons (pv 1) pa_nil)) (pg_tup rfl (pgs_cons (pg_name (i := 4) sc_last_steps.nd rfl (Or.inl rfl)) (pgs_cons (pg_name (i := 5) sc_last_steps.nd rfl (Or.inl rfl)) pgs_nil))) (pss_one (ps_if (PW.pt (pw_and (pt_cmpR op_notN (pv 5) pe_non (nomark _)) (pw_and1 (pt_cmp (pc_dnotin hu (pv 5) (pv 3)))))) (pss_one (ps_dput hu (pv 3) (pv 5) (pe_tup (pa_cons pe_non (pa_cons (pv 4) pa_nil))) rfl)) pss_nil)))
 (pss_cons (ps_set (i := 6) sc_last_steps.nd rfl (Or.inl rfl) (pe_callTy (call_listD rfl) (by rfl) (He.free_ok T.X T.G (T.t.d.fact 7 (f := .free "list") rfl)) (by decide +kernel) (pa_cons (pv 3) pa_nil)))
 (pss_cons (ps_while (passes_of rfl) (pt_truth (pv 6) (by intro _; rfl)) (pss_cons (ps_set (i := 7) sc_last_steps.nd rfl (Or.inl rfl) (pe_lst pa_nil))
 (pss_cons (ps_for (passes_of rfl) rfl (pi_list (pv 6)) (pg_name (i := 5) sc_last_steps.nd rfl (Or.inl rfl)) (pss_one (ps_for (passes_of rfl) rfl (pi_enum (by rfl) (He.free_ok T.X T.G (T.t.d.fact 13 (f := .free "enumerate") rfl)) (pa_cons (pe_dget hu (pv 2) (pv 5) (fun _ _ => rfl)) pa_nil)) (pg_tup rfl (pgs_cons (pg_name (i := 4) sc_last_steps.nd rfl (Or.inl rfl)) (pgs_cons (pg_name (i := 8) sc_last_steps.nd rfl (Or.inl rfl)) pgs_nil))) (pss_one (ps_if (PW.pt (pw_and (pt_cmpR op_notN (pv 8) pe_non (nomark _)) (pw_and1 (pt_cmp (pc_dnotin hu (pv 8) (pv 3)))))) (pss_cons (ps_dput hu (pv 3) (pv 8) (pe_tup (pa_cons (pv 5) (pa_cons (pv 4) pa_nil))) rfl)
 (pss_one (ps_expr (pe_bm PySem.F.plainAttrs_list PySem.F.slot_list_append PySem.F.type_list_append mt_append (pv 7) (pa_cons (pv 8) pa_nil))))) pss_nil)))))
 (pss_one (ps_set (i := 6) sc_last_steps.nd rfl (Or.inl rfl) (pv 7))))))
 (pss_one (ps_ret (pv 3))))))))
theorem gd_last_steps (T : Tx P w K mg base) : Good P w K mg base 1 (He.fAd K (d_last_steps).at_) ["view"] (sp_last_steps K) := by
  obtain ⟨fd, F⟩ := T.t.d.def_ 5 (d := d_last_steps) rfl
  exact ⟨fd, ok_last_steps T F⟩
theorem ok_reach_paper (T : Tx P w K mg base) {f : Addr} {fd : FuncData} (F : FunD K "reach_paper" "reach_paper" (defArgs s_reach_paper) (defBody s_reach_paper) (defScope s_reach_paper) [] [] f fd) : GoodF P w K mg base 3 f fd ["view"] (sp_reach_paper K) := by
  refine ⟨F.ok sc_reach_paper (fun vs H Q E h => h.1) (fun cdv A outer s H vs Q E hr h => ⟨t_reach_paper K E, ?_, h.2⟩), FunD.bindsN F fun _ _ _ _ _ _ us hl => match us, hl with | [_], _ => rfl, F.kp⟩
  have hu := hu_of hr
  unfold t_reach_paper
  exact (pss_cons (ps_expr (pe_cU (gd_look_at_view T) (hr.mono (by decide)) (takes_of rfl rfl rfl rfl) rfl (He.glo_ok T.X T.G (T.t.d.fact 12 (f := .glo "look_at_view") rfl)) (pa_cons (pv 0) pa_nil)))
 (pss_cons (ps_set (i := 1) sc_reach_paper.nd rfl (Or.inr rfl) (pe_cU (gd_last_steps T) (hr.mono (by decide)) (takes_of rfl rfl rfl rfl) rfl (He.glo_ok T.X T.G (T.t.d.fact 14 (f := .glo "last_steps") rfl)) (pa_cons (pv 0) pa_nil)))
 (pss_one (ps_ret (pe_lock2 (pe_lc (own := [("thing", 2)]) (g := (gName 2)) (tt := tYes) (by rfl) sc_reach_paper.nd (pi_keys (pv 1)) (blkOk_by (own := [("thing", 2)]) (N := N_reach_paper) (sc := defScope s_reach_paper) (by decide +kernel)) (fun _ _ _ _ _ => (pg_name (i := 2) sc_reach_paper.nd rfl (Or.inl rfl))) (fun _ _ _ _ _ => pts_nil) (fun _ _ _ _ _ => (pe_tup (pa_cons (pv 2) (pa_cons (pe_ix ix_tup (pe_dget hu (pv 1) (pv 2) (fun _ _ => rfl)) pe_int (fun _ _ => rfl)) (pa_cons (pe_ix ix_tup (pe_dget hu (pv 1) (pv 2) (fun _ _ => rfl)) pe_int (fun _ _ => rfl)) pa_nil)))))))))))
theorem gd_reach_paper (T : Tx P w K mg base) : Good P w K mg base 3 (He.fAd K (d_reach_paper).at_) ["view"] (sp_reach_paper K) := by
  obtain ⟨fd, F⟩ := T.t.d.def_ 7 (d := d_reach_paper) rfl
  exact ⟨fd, ok_reach_paper T F⟩
theorem ok_wider (T : Tx P w K mg base) {f : Addr} {fd : FuncData} (F : FunD K "wider" "wider" (defArgs s_wider) (defBody s_wider) (defScope s_wider) [] [] f fd) : GoodF P w K mg base 1 f fd ["view", "read"] (sp_wider K) := by
  refine ⟨F.ok sc_wider (fun vs H Q E h => h.1) (fun cdv A outer s H vs Q E hr h => ⟨t_wider K E, ?_, h.2⟩), FunD.bindsN F fun _ _ _ _ _ _ us hl => match us, hl with | [_, _], _ => rfl, F.kp⟩
  have hu := hu_of hr
  unfold t_wider
  exact (pss_cons (ps_set (i := 2) sc_wider.nd rfl (Or.inl rfl) (pe_callTy (call_dictP rfl) (by rfl) (He.free_ok T.X T.G (T.t.d.fact 8 (f := .free "dict") rfl)) (by decide +kernel) (pa_cons (pe_lc (own := [("t", 3)]) (g := (gName 3)) (tt := tYes) (by rfl) sc_wider.nd (pi_list (pv 1)) (blkOk_by (own := [("t", 3)]) (N := N_wider) (sc := defScope s_wider) (by decide +kernel)) (fun _ _ _ _ _ => (pg_name (i := 3) sc_wider.nd rfl (Or.inl rfl))) (fun _ _ _ _ _ => pts_nil) (fun _ _ _ _ _ => (pe_tup (pa_cons (pv 3) (pa_cons pe_bl pa_nil))))) pa_nil)))
 (pss_one (ps_ret (pe_tup (pa_cons (pe_op op_catS (pe_callTy call_list_of (by rfl) (He.free_ok T.X T.G (T.t.d.fact 7 (f := .free "list") rfl)) (by decide +kernel) (pa_cons (pe_ix ix_tup (pv 0) pe_int (fun _ _ => rfl)) pa_nil)) (pe_callB (cr_sortedDk rfl) (by rfl) (He.free_ok T.X T.G (T.t.d.fact 15 (f := .free "sorted") rfl)) (by decide +kernel) (pa_cons (pv 2) pa_nil))) (pa_cons (pe_ix ix_tup (pv 0) pe_int (fun _ _ => rfl)) pa_nil))))))
theorem gd_wider (T : Tx P w K mg base) : Good P w K mg base 1 (He.fAd K (d_wider).at_) ["view", "read"] (sp_wider K) := by
  obtain ⟨fd, F⟩ := T.t.d.def_ 6 (d := d_wider) rfl
  exact ⟨fd, ok_wider T F⟩
theorem ok_others_of (T : Tx P w K mg base) {f : Addr} {fd : FuncData} (F : FunD K "others_of" "others_of" (defArgs s_others_of) (defBody s_others_of) (defScope s_others_of) [] [] f fd) : GoodF P w K mg base 1 f fd ["view", "triples"] (sp_others_of K) := by
  refine ⟨F.ok sc_others_of (fun vs H Q E h => h.1) (fun cdv A outer s H vs Q E hr h => ⟨t_others_of K E, ?_, h.2⟩), FunD.bindsN F fun _ _ _ _ _ _ us hl => match us, hl with | [_, _], _ => rfl, F.kp⟩
  have hu := hu_of hr
  unfold t_others_of
  exact (pss_cons (ps_set (i := 2) sc_others_of.nd rfl (Or.inr rfl) (pe_callTy (call_dictP rfl) (by rfl) (He.free_ok T.X T.G (T.t.d.fact 8 (f := .free "dict") rfl)) (by decide +kernel) (pa_cons (pe_lc (own := [("triple", 4)]) (g := (gName 4)) (tt := tYes) (by rfl) sc_others_of.nd (pi_list (pv 1)) (blkOk_by (own := [("triple", 4)]) (N := N_others_of) (sc := defScope s_others_of) (by decide +kernel)) (fun _ _ _ _ _ => (pg_name (i := 4) sc_others_of.nd rfl (Or.inl rfl))) (fun _ _ _ _ _ => pts_nil) (fun _ _ _ _ _ => (pe_tup (pa_cons (pe_ix ix_tup (pv 4) pe_int (fun _ _ => rfl)) (pa_cons pe_bl pa_nil))))) pa_nil)))
 (pss_one (ps_ret (pe_lc (own := [("t", 3)]) (g := (gName 3)) (tt := (tB (tDNotIn (tVar 3) (tVar 2)))) (by rfl) sc_others_of.nd (pi_list (pe_callB (cr_sortedDk rfl) (by rfl) (He.free_ok T.X T.G (T.t.d.fact 15 (f := .free "sorted") rfl)) (by decide +kernel) (pa_cons (pe_ix ix_tup (pv 0) pe_int (fun _ _ => rfl)) pa_nil))) (blkOk_by (own := [("t", 3)]) (N := N_others_of) (sc := defScope s_others_of) (by decide +kernel)) (fun _ _ _ _ _ => (pg_name (i := 3) sc_others_of.nd rfl (Or.inl rfl))) (fun _ _ _ _ _ => (pts_one (pt_cmp (pc_dnotin hu (pv 3) (pv 2))))) (fun _ _ _ _ _ => (pv 3))))))
theorem gd_others_of (T : Tx P w K mg base) : Good P w K mg base 1 (He.fAd K (d_others_of).at_) ["view", "triples"] (sp_others_of K) := by
  obtain ⟨fd, F⟩ := T.t.d.def_ 8 (d := d_others_of) rfl
  exact ⟨fd, ok_others_of T F⟩
theorem ok_round_paper (T : Tx P w K mg base) {f : Addr} {fd : FuncData} (F : FunD K "round_paper" "round_paper" (defArgs s_round_paper) (defBody s_round_paper) (defScope s_round_paper) [] [] f fd) : GoodF P w K mg base 4 f fd ["view", "read"] (sp_round_paper K) := by
  refine ⟨F.ok sc_round_paper (fun vs H Q E h => h.1) (fun cdv A outer s H vs Q E hr h => ⟨t_round_paper K E, ?_, h.2⟩), FunD.bindsN F fun _ _ _ _ _ _ us hl => match us, hl with | [_, _], _ => rfl, F.kp⟩
  have hu := hu_of hr
  unfold t_round_paper
  exact (pss_cons (ps_set (i := 2) sc_round_paper.nd rfl (Or.inl rfl) (pe_cU (gd_reach_paper T) (hr.mono (by decide)) (takes_of rfl rfl rfl rfl) rfl (He.glo_ok T.X T.G (T.t.d.fact 17 (f := .glo "reach_paper") rfl)) (pa_cons (pe_cU (gd_wider T) (hr.mono (by decide)) (takes_of rfl rfl rfl rfl) rfl (He.glo_ok T.X T.G (T.t.d.fact 16 (f := .glo "wider") rfl)) (pa_cons (pv 0) (pa_cons (pv 1) pa_nil))) pa_nil)))
 (pss_one (ps_ret (pe_tup (pa_cons (pv 2) (pa_cons (pe_cU (gd_others_of T) (hr.mono (by decide)) (takes_of rfl rfl rfl rfl) rfl (He.glo_ok T.X T.G (T.t.d.fact 18 (f := .glo "others_of") rfl)) (pa_cons (pv 0) (pa_cons (pv 2) pa_nil))) pa_nil))))))
theorem gd_round_paper (T : Tx P w K mg base) : Good P w K mg base 4 (He.fAd K (d_round_paper).at_) ["view", "read"] (sp_round_paper K) := by
  obtain ⟨fd, F⟩ := T.t.d.def_ 9 (d := d_round_paper) rfl
  exact ⟨fd, ok_round_paper T F⟩
theorem ok__law_reached (T : Tx P w K mg base) {f : Addr} {fd : FuncData} (F : FunD K "_law_reached" "_law_reached" (defArgs s__law_reached) (defBody s__law_reached) (defScope s__law_reached) [] [] f fd) : GoodF P w K mg base 1 f fd ["roots", "fields"] (sp__law_reached K) := by
  refine ⟨F.ok sc__law_reached (fun vs H Q E h => h.1) (fun cdv A outer s H vs Q E hr h => ⟨t__law_reached K E, ?_, h.2⟩), FunD.bindsN F fun _ _ _ _ _ _ us hl => match us, hl with | [_, _], _ => rfl, F.kp⟩
  have hu := hu_of hr
  unfold t__law_reached
  exact (pss_cons (ps_setLc (i := 2) (own := [("t", 4)]) (g := (gName 4)) (tt := (tTest (tOp oNotN (tVar 4) (tC .non)))) (by rfl) sc__law_reached.nd rfl rfl (sw_true rfl rfl rfl (by decide +kernel)) (pi_list (pv 0)) (blkOk_by (own := [("t", 4)]) (N := N__law_reached) (sc := defScope s__law_reached) (by decide +kernel)) (fun _ _ _ _ _ => (pg_name (i := 4) sc__law_reached.nd rfl (Or.inl rfl))) (fun _ _ _ _ _ => (pts_one (pt_cmpR op_notN (pv 4) pe_non (nomark _)))) (fun _ _ _ _ _ => (pv 4)))
 (pss_cons (ps_set (i := 3) sc__law_reached.nd rfl (Or.inl rfl) pe_dnewK)
 (pss_cons (ps_while (passes_of rfl) (pt_cmpR op_gt (pe_callB call_len_seq (by rfl) (He.free_ok T.X T.G (T.t.d.fact 1 (f := .free "len") rfl)) (by decide +kernel) (pa_cons (pv 2) pa_nil)) pe_int (nomark _)) (pss_cons (ps_set (i := 4) sc__law_reached.nd rfl (Or.inl rfl) (pe_bm0 PySem.F.plainAttrs_list PySem.F.slot_list_pop PySem.F.type_list_pop mt_pop (pv 2)))
 (pss_one (ps_if (pt_cmp (pc_dnotin hu (pv 4) (pv 3))) (pss_cons (ps_dput hu (pv 3) (pv 4) pe_bl rfl)
 (pss_one (ps_expr (pe_bm PySem.F.plainAttrs_list PySem.F.slot_list_extend PySem.F.type_list_extend mt_extend (pv 2) (pa_cons (pe_lc (own := [("other", 5)]) (g := (gName 5)) (tt := (tTest (tOp oNotN (tVar 5) (tC .non)))) (by rfl) sc__law_reached.nd (pi_list (pe_dget hu (pv 1) (pv 4) (fun _ _ => rfl))) (blkOk_by (own := [("other", 5)]) (N := N__law_reached) (sc := defScope s__law_reached) (by decide +kernel)) (fun _ _ _ _ _ => (pg_name (i := 5) sc__law_reached.nd rfl (Or.inl rfl))) (fun _ _ _ _ _ => (pts_one (pt_cmpR op_notN (pv 5) pe_non (nomark _)))) (fun _ _ _ _ _ => (pv 5))) pa_nil))))) pss_nil))))
 (pss_one (ps_ret (pe_callB (cr_sortedDk rfl) (by rfl) (He.free_ok T.X T.G (T.t.d.fact 15 (f := .free "sorted") rfl)) (by decide +kernel) (pa_cons (pv 3) pa_nil)))))))
theorem gd__law_reached (T : Tx P w K mg base) : Good P w K mg base 1 (He.fAd K (d__law_reached).at_) ["roots", "fields"] (sp__law_reached K) := by
  obtain ⟨fd, F⟩ := T.t.d.def_ 10 (d := d__law_reached) rfl
  exact ⟨fd, ok__law_reached T F⟩
theorem ok__law_steps_right (T : Tx P w K mg base) {f : Addr} {fd : FuncData} (F : FunD K "_law_steps_right" "_law_steps_right" (defArgs s__law_steps_right) (defBody s__law_steps_right) (defScope s__law_steps_right) [] [] f fd) : GoodF P w K mg base 1 f fd ["roots", "fields", "triples"] (sp__law_steps_right K) := by
  refine ⟨F.ok sc__law_steps_right (fun vs H Q E h => h.1) (fun cdv A outer s H vs Q E hr h => ⟨t__law_steps_right K E, ?_, h.2⟩), FunD.bindsN F fun _ _ _ _ _ _ us hl => match us, hl with | [_, _, _], _ => rfl, F.kp⟩
  have hu := hu_of hr
  unfold t__law_steps_right
  exact (pss_cons (ps_set (i := 3) sc__law_steps_right.nd rfl (Or.inl rfl) pe_dnewK)
 (pss_cons (ps_for (passes_of rfl) rfl (pi_list (pv 2)) (pg_name (i := 4) sc__law_steps_right.nd rfl (Or.inl rfl)) (pss_cons (ps_if (PW.pt (pw_or (pt_not (pt_val (pe_callB call_isiE (by rfl) (He.free_ok T.X T.G (T.t.d.fact 21 (f := .free "isinstance") rfl)) (by decide +kernel) (pa_cons (pv 4) (pa_cons (pe_bltn (v := .ty "tuple") (by rfl) (He.free_ok T.X T.G (T.t.d.fact 20 (f := .free "tuple") rfl)) (by decide +kernel) rfl) pa_nil))))) (pw_or (pt_cmpR op_ne (pe_callB call_len_seq (by rfl) (He.free_ok T.X T.G (T.t.d.fact 1 (f := .free "len") rfl)) (by decide +kernel) (pa_cons (pv 4) pa_nil)) pe_int (nomark _)) (pw_or1 (pt_cmp (pc_din hu (pe_ix ix_tup (pv 4) pe_int (fun _ _ => rfl)) (pv 3))))))) (pss_one (ps_ret pe_bl)) pss_nil)
 (pss_cons (ps_set (i := 5) sc__law_steps_right.nd rfl (Or.inl rfl) (pv 0))
 (pss_cons (ps_if (pt_cmpR op_notN (pe_ix ix_tup (pv 4) pe_int (fun _ _ => rfl)) pe_non (nomark _)) (pss_cons (ps_if (pt_cmp (pc_dnotin hu (pe_ix ix_tup (pv 4) pe_int (fun _ _ => rfl)) (pv 3))) (pss_one (ps_ret pe_bl)) pss_nil)
 (pss_one (ps_set (i := 5) sc__law_steps_right.nd rfl (Or.inl rfl) (pe_dget hu (pv 1) (pe_ix ix_tup (pv 4) pe_int (fun _ _ => rfl)) (fun _ _ => rfl))))) pss_nil)
 (pss_cons (ps_if (PW.pt (pw_or (pt_not (pt_val (pe_callB call_isiE (by rfl) (He.free_ok T.X T.G (T.t.d.fact 21 (f := .free "isinstance") rfl)) (by decide +kernel) (pa_cons (pe_ix ix_tup (pv 4) pe_int (fun _ _ => rfl)) (pa_cons (pe_bltn (v := .ty "int") (by rfl) (He.free_ok T.X T.G (T.t.d.fact 3 (f := .free "int") rfl)) (by decide +kernel) rfl) pa_nil))))) (pw_or (pt_val (pe_callB call_isiE (by rfl) (He.free_ok T.X T.G (T.t.d.fact 21 (f := .free "isinstance") rfl)) (by decide +kernel) (pa_cons (pe_ix ix_tup (pv 4) pe_int (fun _ _ => rfl)) (pa_cons (pe_bltn (v := .ty "bool") (by rfl) (He.free_ok T.X T.G (T.t.d.fact 24 (f := .free "bool") rfl)) (by decide +kernel) rfl) pa_nil)))) (pw_or1 (pt_not (pt_chain op_le op_lt pe_int (pe_ix ix_tup (pv 4) pe_int (fun _ _ => rfl)) (pe_callB call_len_seq (by rfl) (He.free_ok T.X T.G (T.t.d.fact 1 (f := .free "len") rfl)) (by decide +kernel) (pa_cons (pv 5) pa_nil)))))))) (pss_one (ps_ret pe_bl)) pss_nil)
 (pss_cons (ps_if (PW.pt (pw_or (pt_cmpR op_isN (pe_ix ix_tup (pv 4) pe_int (fun _ _ => rfl)) pe_non (nomark _)) (pw_or1 (pt_cmpR op_ne (pe_ix ix_list (pv 5) (pe_ix ix_tup (pv 4) pe_int (fun _ _ => rfl)) (fun _ _ => rfl)) (pe_ix ix_tup (pv 4) pe_int (fun _ _ => rfl)) (nomark _))))) (pss_one (ps_ret pe_bl)) pss_nil)
 (pss_one (ps_dput hu (pv 3) (pe_ix ix_tup (pv 4) pe_int (fun _ _ => rfl)) pe_bl rfl))))))))
 (pss_one (ps_ret pe_bl))))
theorem gd__law_steps_right (T : Tx P w K mg base) : Good P w K mg base 1 (He.fAd K (d__law_steps_right).at_) ["roots", "fields", "triples"] (sp__law_steps_right K) := by
  obtain ⟨fd, F⟩ := T.t.d.def_ 11 (d := d__law_steps_right) rfl
  exact ⟨fd, ok__law_steps_right T F⟩
theorem ok_step_stands (T : Tx P w K mg base) {f : Addr} {fd : FuncData} (F : FunD K "step_stands" "step_stands" (defArgs s_step_stands) (defBody s_step_stands) (defScope s_step_stands) [] [] f fd) : GoodF P w K mg base 1 f fd ["view", "ahead", "triple"] (sp_step_stands K) := by
  refine ⟨F.ok sc_step_stands (fun vs H Q E h => h.1) (fun cdv A outer s H vs Q E hr h => ⟨t_step_stands K E, ?_, h.2⟩), FunD.bindsN F fun _ _ _ _ _ _ us hl => match us, hl with | [_, _, _], _ => rfl, F.kp⟩
  have hu := hu_of hr
  unfold t_step_stands
  exact (pss_cons (ps_asg (pv 2) (pg_tup rfl (pgs_cons (pg_name (i := 3) sc_step_stands.nd rfl (Or.inl rfl)) (pgs_cons (pg_name (i := 4) sc_step_stands.nd rfl (Or.inl rfl)) (pgs_cons (pg_name (i := 5) sc_step_stands.nd rfl (Or.inl rfl)) pgs_nil)))))
 (pss_cons (ps_set (i := 6) sc_step_stands.nd rfl (Or.inl rfl) (pe_ix ix_tup (pv 0) pe_int (fun _ _ => rfl)))
 (pss_cons (ps_if (pt_cmpR op_notN (pv 4) pe_non (nomark _)) (pss_cons (ps_if (pt_cmp (pc_dnotin hu (pv 4) (pv 1))) (pss_one (ps_ret pe_bl)) pss_nil)
 (pss_one (ps_set (i := 6) sc_step_stands.nd rfl (Or.inl rfl) (pe_dget hu (pe_ix ix_tup (pv 0) pe_int (fun _ _ => rfl)) (pv 4) (fun _ _ => rfl))))) pss_nil)
 (pss_one (ps_ret (pe_and (pe_cmpR op_notN (pv 5) pe_non (nomark _)) (pe_and (pe_chain op_le op_lt pe_int (pv 5) (pe_callB call_len_seq (by rfl) (He.free_ok T.X T.G (T.t.d.fact 1 (f := .free "len") rfl)) (by decide +kernel) (pa_cons (pv 6) pa_nil))) (pe_one (pe_cmpR op_eq (pe_ix ix_list (pv 6) (pv 5) (fun _ _ => rfl)) (pv 3) (nomark _))))))))))
theorem gd_step_stands (T : Tx P w K mg base) : Good P w K mg base 1 (He.fAd K (d_step_stands).at_) ["view", "ahead", "triple"] (sp_step_stands K) := by
  obtain ⟨fd, F⟩ := T.t.d.def_ 12 (d := d_step_stands) rfl
  exact ⟨fd, ok_step_stands T F⟩
theorem ok_root_things (T : Tx P w K mg base) {f : Addr} {fd : FuncData} (F : FunD K "root_things" "root_things" (defArgs s_root_things) (defBody s_root_things) (defScope s_root_things) [] [] f fd) : GoodF P w K mg base 1 f fd ["view"] (sp_root_things K) := by
  refine ⟨F.ok sc_root_things (fun vs H Q E h => h.1) (fun cdv A outer s H vs Q E hr h => ⟨t_root_things K E, ?_, h.2⟩), FunD.bindsN F fun _ _ _ _ _ _ us hl => match us, hl with | [_], _ => rfl, F.kp⟩
  have hu := hu_of hr
  unfold t_root_things
  exact (pss_one (ps_ret (pe_lc (own := [("thing", 1)]) (g := (gName 1)) (tt := (tTest (tOp oNotN (tVar 1) (tC .non)))) (by rfl) sc_root_things.nd (pi_list (pe_ix ix_tup (pv 0) pe_int (fun _ _ => rfl))) (blkOk_by (own := [("thing", 1)]) (N := N_root_things) (sc := defScope s_root_things) (by decide +kernel)) (fun _ _ _ _ _ => (pg_name (i := 1) sc_root_things.nd rfl (Or.inl rfl))) (fun _ _ _ _ _ => (pts_one (pt_cmpR op_notN (pv 1) pe_non (nomark _)))) (fun _ _ _ _ _ => (pv 1)))))
theorem gd_root_things (T : Tx P w K mg base) : Good P w K mg base 1 (He.fAd K (d_root_things).at_) ["view"] (sp_root_things K) := by
  obtain ⟨fd, F⟩ := T.t.d.def_ 13 (d := d_root_things) rfl
  exact ⟨fd, ok_root_things T F⟩
theorem ok_closed_over (T : Tx P w K mg base) {f : Addr} {fd : FuncData} (F : FunD K "closed_over" "closed_over" (defArgs s_closed_over) (defBody s_closed_over) (defScope s_closed_over) [] [] f fd) : GoodF P w K mg base 2 f fd ["view", "things"] (sp_closed_over K) := by
  refine ⟨F.ok sc_closed_over (fun vs H Q E h => h.1) (fun cdv A outer s H vs Q E hr h => ⟨t_closed_over K E, ?_, h.2⟩), FunD.bindsN F fun _ _ _ _ _ _ us hl => match us, hl with | [_, _], _ => rfl, F.kp⟩
  have hu := hu_of hr
  unfold t_closed_over
  exact (pss_cons (ps_set (i := 2) sc_closed_over.nd rfl (Or.inl rfl) (pe_cU (gd_root_things T) (hr.mono (by decide)) (takes_of rfl rfl rfl rfl) rfl (He.glo_ok T.X T.G (T.t.d.fact 27 (f := .glo "root_things") rfl)) (pa_cons (pv 0) pa_nil)))
 (pss_cons (ps_lock2 (ps_for (passes_of rfl) rfl (pi_keys (pv 1)) (pg_name (i := 3) sc_closed_over.nd rfl (Or.inl rfl)) (pss_one (ps_expr (pe_bm PySem.F.plainAttrs_list PySem.F.slot_list_extend PySem.F.type_list_extend mt_extend (pv 2) (pa_cons (pe_lc (own := [("other", 4)]) (g := (gName 4)) (tt := (tTest (tOp oNotN (tVar 4) (tC .non)))) (by rfl) sc_closed_over.nd (pi_list (pe_dget hu (pe_ix ix_tup (pv 0) pe_int (fun _ _ => rfl)) (pv 3) (fun _ _ => rfl))) (blkOk_by (own := [("other", 4)]) (N := N_closed_over) (sc := defScope s_closed_over) (by decide +kernel)) (fun _ _ _ _ _ => (pg_name (i := 4) sc_closed_over.nd rfl (Or.inl rfl))) (fun _ _ _ _ _ => (pts_one (pt_cmpR op_notN (pv 4) pe_non (nomark _)))) (fun _ _ _ _ _ => (pv 4))) pa_nil))))))
 (pss_one (ps_ret (pe_callB (cr_all rfl) (by rfl) (He.free_ok T.X T.G (T.t.d.fact 28 (f := .free "all") rfl)) (by decide +kernel) (pa_cons (pe_lc (own := [("other", 4)]) (g := (gName 4)) (tt := tYes) (by rfl) sc_closed_over.nd (pi_list (pv 2)) (blkOk_by (own := [("other", 4)]) (N := N_closed_over) (sc := defScope s_closed_over) (by decide +kernel)) (fun _ _ _ _ _ => (pg_name (i := 4) sc_closed_over.nd rfl (Or.inl rfl))) (fun _ _ _ _ _ => pts_nil) (fun _ _ _ _ _ => (pe_cmp (pc_din hu (pv 4) (pv 1))))) pa_nil))))))
theorem gd_closed_over (T : Tx P w K mg base) : Good P w K mg base 2 (He.fAd K (d_closed_over).at_) ["view", "things"] (sp_closed_over K) := by
  obtain ⟨fd, F⟩ := T.t.d.def_ 14 (d := d_closed_over) rfl
  exact ⟨fd, ok_closed_over T F⟩
theorem ok_paper_judged (T : Tx P w K mg base) {f : Addr} {fd : FuncData} (F : FunD K "paper_judged" "paper_judged" (defArgs s_paper_judged) (defBody s_paper_judged) (defScope s_paper_judged) [] [] f fd) : GoodF P w K mg base 3 f fd ["view", "triples"] (sp_paper_judged K) := by
  refine ⟨F.ok sc_paper_judged (fun vs H Q E h => h.1) (fun cdv A outer s H vs Q E hr h => ⟨t_paper_judged K E, ?_, h.2⟩), FunD.bindsN F fun _ _ _ _ _ _ us hl => match us, hl with | [_, _], _ => rfl, F.kp⟩
  have hu := hu_of hr
  unfold t_paper_judged
  exact (pss_cons (ps_expr (pe_cU (gd_look_at_view T) (hr.mono (by decide)) (takes_of rfl rfl rfl rfl) rfl (He.glo_ok T.X T.G (T.t.d.fact 12 (f := .glo "look_at_view") rfl)) (pa_cons (pv 0) pa_nil)))
 (pss_cons (ps_set (i := 2) sc_paper_judged.nd rfl (Or.inl rfl) pe_dnewK)
 (pss_cons (ps_for (passes_of rfl) rfl (pi_list (pv 1)) (pg_name (i := 3) sc_paper_judged.nd rfl (Or.inl rfl)) (pss_cons (ps_if (PW.pt (pw_or (pt_cmpR op_isN (pe_ix ix_tup (pv 3) pe_int (fun _ _ => rfl)) pe_non (nomark _)) (pw_or (pt_cmp (pc_din hu (pe_ix ix_tup (pv 3) pe_int (fun _ _ => rfl)) (pv 2))) (pw_or1 (pt_not (pt_val (pe_cU (gd_step_stands T) (hr.mono (by decide)) (takes_of rfl rfl rfl rfl) rfl (He.glo_ok T.X T.G (T.t.d.fact 26 (f := .glo "step_stands") rfl)) (pa_cons (pv 0) (pa_cons (pv 2) (pa_cons (pv 3) pa_nil)))))))))) (pss_one (ps_ret pe_bl)) pss_nil)
 (pss_one (ps_dput hu (pv 2) (pe_ix ix_tup (pv 3) pe_int (fun _ _ => rfl)) pe_bl rfl))))
 (pss_one (ps_ret (pe_cU (gd_closed_over T) (hr.mono (by decide)) (takes_of rfl rfl rfl rfl) rfl (He.glo_ok T.X T.G (T.t.d.fact 29 (f := .glo "closed_over") rfl)) (pa_cons (pv 0) (pa_cons (pv 2) pa_nil))))))))
theorem gd_paper_judged (T : Tx P w K mg base) : Good P w K mg base 3 (He.fAd K (d_paper_judged).at_) ["view", "triples"] (sp_paper_judged K) := by
  obtain ⟨fd, F⟩ := T.t.d.def_ 15 (d := d_paper_judged) rfl
  exact ⟨fd, ok_paper_judged T F⟩
theorem ok_round_judged (T : Tx P w K mg base) {f : Addr} {fd : FuncData} (F : FunD K "round_judged" "round_judged" (defArgs s_round_judged) (defBody s_round_judged) (defScope s_round_judged) [] [] f fd) : GoodF P w K mg base 4 f fd ["view", "read", "paper"] (sp_round_judged K) := by
  refine ⟨F.ok sc_round_judged (fun vs H Q E h => h.1) (fun cdv A outer s H vs Q E hr h => ⟨t_round_judged K E, ?_, h.2⟩), FunD.bindsN F fun _ _ _ _ _ _ us hl => match us, hl with | [_, _, _], _ => rfl, F.kp⟩
  have hu := hu_of hr
  unfold t_round_judged
  exact (pss_cons (ps_asg (pv 2) (pg_tup rfl (pgs_cons (pg_name (i := 3) sc_round_judged.nd rfl (Or.inl rfl)) (pgs_cons (pg_name (i := 4) sc_round_judged.nd rfl (Or.inl rfl)) pgs_nil))))
 (pss_one (ps_ret (pe_and (pe_cU (gd_paper_judged T) (hr.mono (by decide)) (takes_of rfl rfl rfl rfl) rfl (He.glo_ok T.X T.G (T.t.d.fact 30 (f := .glo "paper_judged") rfl)) (pa_cons (pe_cU (gd_wider T) (hr.mono (by decide)) (takes_of rfl rfl rfl rfl) rfl (He.glo_ok T.X T.G (T.t.d.fact 16 (f := .glo "wider") rfl)) (pa_cons (pv 0) (pa_cons (pv 1) pa_nil))) (pa_cons (pv 3) pa_nil))) (pe_one (pe_cmpR (op_eqU hr.units) (pe_callTy call_list_of (by rfl) (He.free_ok T.X T.G (T.t.d.fact 7 (f := .free "list") rfl)) (by decide +kernel) (pa_cons (pv 4) pa_nil)) (pe_cU (gd_others_of T) (hr.mono (by decide)) (takes_of rfl rfl rfl rfl) rfl (He.glo_ok T.X T.G (T.t.d.fact 18 (f := .glo "others_of") rfl)) (pa_cons (pv 0) (pa_cons (pv 3) pa_nil))) (nomark _)))))))
theorem gd_round_judged (T : Tx P w K mg base) : Good P w K mg base 4 (He.fAd K (d_round_judged).at_) ["view", "read", "paper"] (sp_round_judged K) := by
  obtain ⟨fd, F⟩ := T.t.d.def_ 16 (d := d_round_judged) rfl
  exact ⟨fd, ok_round_judged T F⟩
theorem ok__law_refused (T : Tx P w K mg base) {f : Addr} {fd : FuncData} (F : FunD K "_law_refused" "_law_refused" (defArgs s__law_refused) (defBody s__law_refused) (defScope s__law_refused) [] [] f fd) : GoodF P w K mg base 5 f fd ["view", "back", "paper"] (sp__law_refused K) := by
  refine ⟨F.ok sc__law_refused (fun vs H Q E h => h.1) (fun cdv A outer s H vs Q E hr h => ⟨t__law_refused K E, ?_, h.2⟩), FunD.bindsN F fun _ _ _ _ _ _ us hl => match us, hl with | [_, _, _], _ => rfl, F.kp⟩
  have hu := hu_of hr
  unfold t__law_refused
  exact (pss_cons (ps_set (i := 3) sc__law_refused.nd rfl (Or.inl rfl) (pe_lst pa_nil))
 (pss_cons (ps_for (passes_of rfl) rfl (pi_range1 (by rfl) (He.free_ok T.X T.G (T.t.d.fact 0 (f := .free "range") rfl)) (pa_cons pe_int pa_nil)) (pg_name (i := 4) sc__law_refused.nd rfl (Or.inl rfl)) (pss_cons (ps_set (i := 5) sc__law_refused.nd rfl (Or.inl rfl) pe_non)
 (pss_cons (ps_tryT (i := 6) rfl rfl rfl sc__law_refused.nd rfl rfl (He.glo_ok T.X T.G (T.t.d.fact 34 (f := .glo "HeapError") rfl)) (takes_of rfl rfl rfl rfl) (fun W pn xe tk hp => (pss_one (ps_if (pt_cmpR op_eq (pv 4) pe_int (nomark _)) (pss_one (ps_expr (pe_cU (gd_round_paper T) (hr.mono (by decide)) tk rfl (He.glo_ok T.X T.G (T.t.d.fact 19 (f := .glo "round_paper") rfl)) (pa_cons (pv 0) (pa_cons (pv 1) pa_nil))))) (pss_one (ps_expr (pe_cU (gd_round_judged T) (hr.mono (by decide)) tk rfl (He.glo_ok T.X T.G (T.t.d.fact 31 (f := .glo "round_judged") rfl)) (pa_cons (pv 0) (pa_cons (pv 1) (pa_cons (pv 2) pa_nil))))))))) (fun a pn => (pss_one (ps_set (i := 5) sc__law_refused.nd rfl (Or.inl rfl) (pv 6)))))
 (pss_one (ps_expr (pe_bm PySem.F.plainAttrs_list PySem.F.slot_list_append PySem.F.type_list_append mt_append (pv 3) (pa_cons (pe_and (pe_callB call_isiE (by rfl) (He.free_ok T.X T.G (T.t.d.fact 21 (f := .free "isinstance") rfl)) (by decide +kernel) (pa_cons (pv 5) (pa_cons (pe_glob rfl (He.glo_ok T.X T.G (T.t.d.fact 9 (f := .glo "BadView") rfl)) (show RelV (.ref (He.ga K "BadView")) _ from rfl)) pa_nil))) (pe_one (pe_callB call_isiE (by rfl) (He.free_ok T.X T.G (T.t.d.fact 21 (f := .free "isinstance") rfl)) (by decide +kernel) (pa_cons (pv 5) (pa_cons (pe_bltn (v := .ty "ValueError") (by rfl) (He.free_ok T.X T.G (T.t.d.fact 35 (f := .free "ValueError") rfl)) (by decide +kernel) rfl) pa_nil))))) pa_nil)))))))
 (pss_one (ps_ret (pe_cmpR (op_eqU hr.units) (pv 3) (pe_lst (pa_cons pe_bl (pa_cons pe_bl pa_nil))) (nomark _))))))
theorem gd__law_refused (T : Tx P w K mg base) : Good P w K mg base 5 (He.fAd K (d__law_refused).at_) ["view", "back", "paper"] (sp__law_refused K) := by
  obtain ⟨fd, F⟩ := T.t.d.def_ 17 (d := d__law_refused) rfl
  exact ⟨fd, ok__law_refused T F⟩
theorem ok_law (T : Tx P w K mg base) {f : Addr} {fd : FuncData} (F : FunD K "law" "law" (defArgs s_law) (defBody s_law) (defScope s_law) [] [] f fd) : GoodF P w K mg base 6 f fd ["script"] (sp_law K) := by
  refine ⟨F.ok sc_law (fun vs H Q E h => h.1) (fun cdv A outer s H vs Q E hr h => ⟨t_law K E, ?_, h.2⟩), FunD.bindsN F fun _ _ _ _ _ _ us hl => match us, hl with | [_], _ => rfl, F.kp⟩
  have hu := hu_of hr
  unfold t_law
  exact (pss_cons (ps_asg (pe_cU (gd__law_view T) (hr.mono (by decide)) (takes_of rfl rfl rfl rfl) rfl (He.glo_ok T.X T.G (T.t.d.fact 6 (f := .glo "_law_view") rfl)) (pa_cons (pe_cU (gd__law_codes T) (hr.mono (by decide)) (takes_of rfl rfl rfl rfl) rfl (He.glo_ok T.X T.G (T.t.d.fact 5 (f := .glo "_law_codes") rfl)) (pa_cons (pv 0) (pa_cons pe_int pa_nil))) pa_nil)) (pg_tup rfl (pgs_cons (pg_name (i := 1) sc_law.nd rfl (Or.inl rfl)) (pgs_cons (pg_name (i := 2) sc_law.nd rfl (Or.inr rfl)) (pgs_cons (pg_name (i := 3) sc_law.nd rfl (Or.inl rfl)) pgs_nil)))))
 (pss_cons (ps_set (i := 4) sc_law.nd rfl (Or.inl rfl) (pe_tup (pa_cons (pe_callTy call_list_of (by rfl) (He.free_ok T.X T.G (T.t.d.fact 7 (f := .free "list") rfl)) (by decide +kernel) (pa_cons (pv 1) pa_nil)) (pa_cons (pe_callTy (call_dictP rfl) (by rfl) (He.free_ok T.X T.G (T.t.d.fact 8 (f := .free "dict") rfl)) (by decide +kernel) (pa_cons (pe_lock2 (pe_lc (own := [("t", 14)]) (g := (gName 14)) (tt := tYes) (by rfl) sc_law.nd (pi_keys (pv 2)) (blkOk_by (own := [("t", 14)]) (N := N_law) (sc := defScope s_law) (by decide +kernel)) (fun _ _ _ _ _ => (pg_name (i := 14) sc_law.nd rfl (Or.inl rfl))) (fun _ _ _ _ _ => pts_nil) (fun _ _ _ _ _ => (pe_tup (pa_cons (pv 14) (pa_cons (pe_callTy call_list_of (by rfl) (He.free_ok T.X T.G (T.t.d.fact 7 (f := .free "list") rfl)) (by decide +kernel) (pa_cons (pe_dget hu (pv 2) (pv 14) (fun _ _ => rfl)) pa_nil)) pa_nil)))))) pa_nil)) pa_nil))))
 (pss_cons (ps_set (i := 5) sc_law.nd rfl (Or.inl rfl) (pe_callTy call_list_of (by rfl) (He.free_ok T.X T.G (T.t.d.fact 7 (f := .free "list") rfl)) (by decide +kernel) (pa_cons (pv 3) pa_nil)))
 (pss_cons (ps_set (i := 6) sc_law.nd rfl (Or.inl rfl) (pe_cU (gd_round_paper T) (hr.mono (by decide)) (takes_of rfl rfl rfl rfl) rfl (He.glo_ok T.X T.G (T.t.d.fact 19 (f := .glo "round_paper") rfl)) (pa_cons (pv 4) (pa_cons (pv 5) pa_nil))))
 (pss_cons (ps_if (PW.pt (pw_or (pt_not (pt_val (pe_callB call_isiE (by rfl) (He.free_ok T.X T.G (T.t.d.fact 21 (f := .free "isinstance") rfl)) (by decide +kernel) (pa_cons (pv 6) (pa_cons (pe_bltn (v := .ty "tuple") (by rfl) (He.free_ok T.X T.G (T.t.d.fact 20 (f := .free "tuple") rfl)) (by decide +kernel) rfl) pa_nil))))) (pw_or1 (pt_cmpR op_ne (pe_callB call_len_seq (by rfl) (He.free_ok T.X T.G (T.t.d.fact 1 (f := .free "len") rfl)) (by decide +kernel) (pa_cons (pv 6) pa_nil)) pe_int (nomark _))))) (pss_one (ps_ret pe_bl)) pss_nil)
 (pss_cons (ps_asg (pv 6) (pg_tup rfl (pgs_cons (pg_name (i := 7) sc_law.nd rfl (Or.inl rfl)) (pgs_cons (pg_name (i := 8) sc_law.nd rfl (Or.inl rfl)) pgs_nil))))
 (pss_cons (ps_set (i := 9) sc_law.nd rfl (Or.inl rfl) (pe_op op_catS (pv 1) (pe_sortedSet rfl (by rfl) (He.free_ok T.X T.G (T.t.d.fact 15 (f := .free "sorted") rfl)) (by rfl) (He.free_ok T.X T.G (T.t.d.fact 22 (f := .free "set") rfl)) (pv 3))))
 (pss_cons (ps_set (i := 10) sc_law.nd rfl (Or.inr rfl) (pe_cU (gd__law_reached T) (hr.mono (by decide)) (takes_of rfl rfl rfl rfl) rfl (He.glo_ok T.X T.G (T.t.d.fact 23 (f := .glo "_law_reached") rfl)) (pa_cons (pv 9) (pa_cons (pv 2) pa_nil))))
 (pss_cons (ps_if (PW.pt (pw_or (pt_not (pt_val (pe_callB call_isiE (by rfl) (He.free_ok T.X T.G (T.t.d.fact 21 (f := .free "isinstance") rfl)) (by decide +kernel) (pa_cons (pv 7) (pa_cons (pe_bltn (v := .ty "list") (by rfl) (He.free_ok T.X T.G (T.t.d.fact 7 (f := .free "list") rfl)) (by decide +kernel) rfl) pa_nil))))) (pw_or1 (pt_not (pt_val (pe_cU (gd__law_steps_right T) (hr.mono (by decide)) (takes_of rfl rfl rfl rfl) rfl (He.glo_ok T.X T.G (T.t.d.fact 25 (f := .glo "_law_steps_right") rfl)) (pa_cons (pv 9) (pa_cons (pv 2) (pa_cons (pv 7) pa_nil))))))))) (pss_one (ps_ret pe_bl)) pss_nil)
 (pss_cons (ps_if (PW.pt (pw_or (pt_cmpR (op_neU hr.units) (pe_callB cr_sortedI (by rfl) (He.free_ok T.X T.G (T.t.d.fact 15 (f := .free "sorted") rfl)) (by decide +kernel) (pa_cons (pe_lc (own := [("triple", 18)]) (g := (gName 18)) (tt := tYes) (by rfl) sc_law.nd (pi_list (pv 7)) (blkOk_by (own := [("triple", 18)]) (N := N_law) (sc := defScope s_law) (by decide +kernel)) (fun _ _ _ _ _ => (pg_name (i := 18) sc_law.nd rfl (Or.inl rfl))) (fun _ _ _ _ _ => pts_nil) (fun _ _ _ _ _ => (pe_ix ix_tup (pv 18) pe_int (fun _ _ => rfl)))) pa_nil)) (pv 10) (nomark _)) (pw_or1 (pt_not (pt_val (pe_callB call_isiE (by rfl) (He.free_ok T.X T.G (T.t.d.fact 21 (f := .free "isinstance") rfl)) (by decide +kernel) (pa_cons (pv 8) (pa_cons (pe_bltn (v := .ty "list") (by rfl) (He.free_ok T.X T.G (T.t.d.fact 7 (f := .free "list") rfl)) (by decide +kernel) rfl) pa_nil)))))))) (pss_one (ps_ret pe_bl)) pss_nil)
 (pss_cons (ps_if (PW.pt (pw_or (pt_cmpR (op_neU hr.units) (pv 8) (pe_lc (own := [("t", 14)]) (g := (gName 14)) (tt := (tTest (tOp (rIn K true) (tVar 14) (tVar 10)))) (by rfl) sc_law.nd (pi_list (pe_callB (cr_sortedDk rfl) (by rfl) (He.free_ok T.X T.G (T.t.d.fact 15 (f := .free "sorted") rfl)) (by decide +kernel) (pa_cons (pv 2) pa_nil))) (blkOk_by (own := [("t", 14)]) (N := N_law) (sc := defScope s_law) (by decide +kernel)) (fun _ _ _ _ _ => (pg_name (i := 14) sc_law.nd rfl (Or.inl rfl))) (fun _ _ _ _ _ => (pts_one (pt_cmpR op_notIn_seq (pv 14) (pv 10) (by first | exact nomark _ | with_unfolding_all rfl)))) (fun _ _ _ _ _ => (pv 14))) (nomark _)) (pw_or1 (pt_cmpR op_notBl (pe_cU (gd_round_judged T) (hr.mono (by decide)) (takes_of rfl rfl rfl rfl) rfl (He.glo_ok T.X T.G (T.t.d.fact 31 (f := .glo "round_judged") rfl)) (pa_cons (pv 4) (pa_cons (pv 5) (pa_cons (pv 6) pa_nil)))) pe_bl (nomark _))))) (pss_one (ps_ret pe_bl)) pss_nil)
 (pss_cons (ps_set (i := 11) sc_law.nd rfl (Or.inl rfl) (pe_tup (pa_cons (pe_callTy call_list_of (by rfl) (He.free_ok T.X T.G (T.t.d.fact 7 (f := .free "list") rfl)) (by decide +kernel) (pa_cons (pv 7) pa_nil)) (pa_cons (pe_callTy call_list_of (by rfl) (He.free_ok T.X T.G (T.t.d.fact 7 (f := .free "list") rfl)) (by decide +kernel) (pa_cons (pv 8) pa_nil)) pa_nil))))
 (pss_cons (ps_expr (pe_bm PySem.F.plainAttrs_list PySem.F.slot_list_append PySem.F.type_list_append mt_append (pv 7) (pa_cons (pe_tup (pa_cons pe_int (pa_cons pe_non (pa_cons pe_int pa_nil)))) pa_nil)))
 (pss_cons (ps_expr (pe_bm PySem.F.plainAttrs_list PySem.F.slot_list_append PySem.F.type_list_append mt_append (pv 8) (pa_cons pe_int pa_nil)))
 (pss_cons (ps_if (PW.pt (pw_or (pt_cmpR (op_neU hr.units) (pe_cU (gd_round_paper T) (hr.mono (by decide)) (takes_of rfl rfl rfl rfl) rfl (He.glo_ok T.X T.G (T.t.d.fact 19 (f := .glo "round_paper") rfl)) (pa_cons (pv 4) (pa_cons (pv 5) pa_nil))) (pv 11) (nomark _)) (pw_or (pt_cmpR (op_neU hr.units) (pv 4) (pe_tup (pa_cons (pv 1) (pa_cons (pv 2) pa_nil))) (nomark _)) (pw_or1 (pt_cmpR (op_neU hr.units) (pv 5) (pv 3) (nomark _)))))) (pss_one (ps_ret pe_bl)) pss_nil)
 (pss_cons (ps_set (i := 12) sc_law.nd rfl (Or.inl rfl) (pe_op op_add (pe_op op_mul (pe_op op_mod (pe_callB (cr_sum rfl) (by rfl) (He.free_ok T.X T.G (T.t.d.fact 4 (f := .free "sum") rfl)) (by decide +kernel) (pa_cons (pv 0) pa_nil)) (pe_op op_pow pe_int pe_int)) pe_int) (pe_op op_pow pe_int pe_int)))
 (pss_cons (ps_set (i := 13) sc_law.nd rfl (Or.inl rfl) (pe_lst (pa_cons (pe_tup (pa_cons (pe_op op_catS (pv 1) (pe_lst (pa_cons (pv 12) pa_nil))) (pa_cons (pv 2) pa_nil))) pa_nil)))
 (pss_cons (ps_for (passes_of rfl) rfl (pi_list (pe_slice sl_list (pe_callB (cr_sortedDk rfl) (by rfl) (He.free_ok T.X T.G (T.t.d.fact 15 (f := .free "sorted") rfl)) (by decide +kernel) (pa_cons (pv 2) pa_nil)) po_none (po_some pe_int))) (pg_name (i := 14) sc_law.nd rfl (Or.inl rfl)) (pss_cons (ps_set (i := 16) sc_law.nd rfl (Or.inl rfl) (pe_callTy (call_dictP rfl) (by rfl) (He.free_ok T.X T.G (T.t.d.fact 8 (f := .free "dict") rfl)) (by decide +kernel) (pa_cons (pe_lock2 (pe_lc (own := [("other", 17)]) (g := (gName 17)) (tt := tYes) (by rfl) sc_law.nd (pi_keys (pv 2)) (blkOk_by (own := [("other", 17)]) (N := N_law) (sc := defScope s_law) (by decide +kernel)) (fun _ _ _ _ _ => (pg_name (i := 17) sc_law.nd rfl (Or.inl rfl))) (fun _ _ _ _ _ => pts_nil) (fun _ _ _ _ _ => (pe_tup (pa_cons (pv 17) (pa_cons (pe_callTy call_list_of (by rfl) (He.free_ok T.X T.G (T.t.d.fact 7 (f := .free "list") rfl)) (by decide +kernel) (pa_cons (pe_dget hu (pv 2) (pv 17) (fun _ _ => rfl)) pa_nil)) pa_nil)))))) pa_nil)))
 (pss_cons (ps_dput hu (pv 16) (pv 14) (pe_op op_catS (pe_lst (pa_cons (pv 12) pa_nil)) (pe_slice sl_list (pe_dget hu (pv 16) (pv 14) (fun _ _ => rfl)) (po_some pe_int) po_none)) rfl)
 (pss_one (ps_expr (pe_bm PySem.F.plainAttrs_list PySem.F.slot_list_append PySem.F.type_list_append mt_append (pv 13) (pa_cons (pe_tup (pa_cons (pe_callTy call_list_of (by rfl) (He.free_ok T.X T.G (T.t.d.fact 7 (f := .free "list") rfl)) (by decide +kernel) (pa_cons (pv 1) pa_nil)) (pa_cons (pv 16) pa_nil))) pa_nil)))))))
 (pss_cons (ps_for (passes_of rfl) rfl (pi_list (pv 13)) (pg_name (i := 15) sc_law.nd rfl (Or.inl rfl)) (pss_one (ps_if (pt_not (pt_val (pe_cU (gd__law_refused T) (hr.mono (by decide)) (takes_of rfl rfl rfl rfl) rfl (He.glo_ok T.X T.G (T.t.d.fact 36 (f := .glo "_law_refused") rfl)) (pa_cons (pv 15) (pa_cons (pe_callTy call_list_of (by rfl) (He.free_ok T.X T.G (T.t.d.fact 7 (f := .free "list") rfl)) (by decide +kernel) (pa_cons (pv 3) pa_nil)) (pa_cons (pv 11) pa_nil)))))) (pss_one (ps_ret pe_bl)) pss_nil)))
 (pss_one (ps_ret (pe_and (pe_cU (gd__law_refused T) (hr.mono (by decide)) (takes_of rfl rfl rfl rfl) rfl (He.glo_ok T.X T.G (T.t.d.fact 36 (f := .glo "_law_refused") rfl)) (pa_cons (pv 4) (pa_cons (pe_op op_catS (pv 3) (pe_lst (pa_cons (pv 12) pa_nil))) (pa_cons (pv 11) pa_nil)))) (pe_one (pe_cU (gd__law_refused T) (hr.mono (by decide)) (takes_of rfl rfl rfl rfl) rfl (He.glo_ok T.X T.G (T.t.d.fact 36 (f := .glo "_law_refused") rfl)) (pa_cons (pv 4) (pa_cons (pe_op op_catS (pe_lst (pa_cons (pv 12) pa_nil)) (pv 3)) (pa_cons (pv 11) pa_nil)))))))))))))))))))))))))))
theorem pf (T : Tx P w K mg base) : PF K where
  exm_HeapError_HeapError := (He.exm_ok (T.t.d.fact 32 (f := .exm "HeapError" "HeapError" true) rfl))
  exm_BadView_HeapError := (He.exm_ok (T.t.d.fact 33 (f := .exm "BadView" "HeapError" true) rfl))
  excC_BadView := (excCB_ok (T.exf 0 rfl))
  kit_BadView_BadView := (kitB_ok (T.exf 1 rfl))
  kit_BadView_ValueError := (kitB_ok (T.exf 2 rfl))
end
def loose0 : List Str := ["BadView", "HeapError", "__name__", "_law_codes", "_law_picked", "_law_reached", "_law_refused", "_law_steps_right", "_law_view", "_wall", "closed_over", "last_steps", "look_at_told", "look_at_view", "others_of", "paper_judged", "reach_paper", "root_things", "round_judged", "round_paper", "step_stands", "wider"]
def loose : List Str := loose0
abbrev R : PySem.W.OpenRow := PySem.W.OpenLaw.row PySem.Challenge.rw_stillheap_k70_round_papers
abbrev hk : PySem.W.Hook := He.hookX 6 fa fn [] [] ex
def ob (s : PySem.W.SharedT) : He.AlX := He.obsX 6 fa fn [] [] ex (HandSHeadRun.getT s)
theorem ob_eq (s : PySem.W.SharedT) : ob s = hk.obs s.abs := He.obsX_eq (HandSHeadRun.getT_eq s)
theorem run (w : World) : HandSHeadRun.RunEq R (PySem.W.view R.prog [26]) hk ob 100000 loose w := by
  intro os
  kernel_rfl
theorem holds_of (hp : ∀ (K : PySem.W.Frag), PF K → ∀ (H : Hp) (a : Addr) (ns : List Int), ns.length ≤ 63 → (∀ k ∈ ns, Builtin.Int.intBits k ≤ 1048576) → Only H → SqX K H a (ns.map V.int) → sp_law K [.ref a] H (fun v _ => v = .bl true) fun _ _ _ => False) :
    PySem.Challenge.rw_stillheap_k70_round_papers.Holds := by
  w_on; o_law
  refine HandSHeadRun.head_any (r := PySem.W.OpenLaw.row PySem.Challenge.rw_stillheap_k70_round_papers) (q := PySem.W.view (PySem.W.OpenLaw.row PySem.Challenge.rw_stillheap_k70_round_papers).prog [26]) (H := hk) (ob := ob) (M := 100000) (loose := loose) (d := HandSHeadRun.topDef (PySem.W.OpenLaw.row PySem.Challenge.rw_stillheap_k70_round_papers).prog 26) (kwd := []) ob_eq
    (by kernel_rfl) (fun s => by kernel_rfl) run (by kernel_rfl) (by kernel_rfl) (by kernel_rfl) (by rfl) (by first | assumption | decide +kernel) (by decide +kernel) ⟨rfl, rfl, rfl, rfl, rfl, by decide +kernel⟩ ?hw ?hc
  case hw => w_witness2
  case hc =>
    refine SX0.walk_ofX (l := PySem.Challenge.rw_stillheap_k70_round_papers) (n := 63) (k := 6) (x := "script") rfl (by decide) (by kernel_rfl) ⟨rfl, by decide, by decide⟩ ?F
    intro w mg fa h Y G hmg0
    obtain ⟨K, KX, c⟩ := Y
    have hmg : mg ("law" : Str) = some (.ref fa) := by
      have e : (HandSHeadRun.topDef (PySem.W.OpenLaw.row PySem.Challenge.rw_stillheap_k70_round_papers).prog 26).name = ("law" : Str) := by kernel_rfl
      rw [← e]
      exact hmg0
    have Tx0 : ∀ base : Heap, K.In base → base.Ns mainGlobals mg → Tx (PySem.Challenge.rw_stillheap_k70_round_papers).prog w K mg base := fun base X G => ⟨X, G, h, c⟩
    have T := Tx0 h KX G
    obtain ⟨fd, F⟩ := T.t.d.def_ 18 (d := d_law) rfl
    have e := hmg.symm.trans (He.glo_ok T.X T.G (T.t.d.fact 37 (f := .glo "law") rfl))
    cases e
    have b := FunD.bindsA (ps := ["script"]) F fun _ _ _ _ _ _ us hl => match us, hl with | [_], _ => rfl
    refine ⟨K, fd, sp_law K, KX, fun s v => b s [v] rfl, fun H a ns h1 h2 h3 h4 => hp K (pf T) H a ns h1 h2 h3 h4, fun base hX hG => ?_⟩
    exact (ok_law (Tx0 base hX hG) F).1
end D_k70

set_option Elab.async false
set_option linter.all false
set_option maxRecDepth 100000
set_option maxHeartbeats 1000000
namespace P70
open PySem PySem.Spec PyProof.Rows L2 SX0 R_k70
/-! ### the data -/
def oV : Option Int → V
  | none => .non
  | some i => .int i
theorem oV_inj {a b : Option Int} (h : oV a = oV b) : a = b := by
  cases a <;> cases b <;> simp_all [oV]
theorem oV_scal (a b : Option Int) : scal (oV a) (oV b) = true := by cases a <;> cases b <;> rfl
theorem oV_non (a : Option Int) : decide (oV a = .non) = decide (a = none) := by cases a <;> simp [oV]
/-- a thing of a view, with the address of its list -/
abbrev Fm := List (Int × Addr × List (Option Int))
def kF (fm : Fm) : List (Key × V) := fm.map fun e => (Sum.inl e.1, V.ref e.2.1)
def keys (fm : Fm) : List Int := fm.map (·.1)
def row (fm : Fm) (t : Int) : Option (Int × Addr × List (Option Int)) := fm.find? fun e => decide (e.1 = t)
theorem val_kF (fm : Fm) (t : Int) : valV (kF fm) (Sum.inl t : Key) = (row fm t).map fun e => V.ref e.2.1 := by
  induction fm with
  | nil => rfl
  | cons e r ih =>
    unfold kF row at *
    by_cases h : e.1 = t
    · rw [List.map_cons, valV_pos (by simp [h]), List.find?_cons]
      simp [h]
    · rw [List.map_cons, valV_neg (by simpa using h), List.find?_cons, ih]
      simp [h]
theorem row_some {fm : Fm} {t : Int} : (row fm t).isSome = decide (t ∈ keys fm) := by
  induction fm with
  | nil => rfl
  | cons e r ih =>
    unfold row keys at *
    rw [List.find?_cons]
    by_cases h : e.1 = t
    · simp [h]
    · have h2 : ¬ t = e.1 := fun z => h z.symm
      simp only [h, decide_false, ih, List.map_cons, List.mem_cons, h2, false_or]
theorem val_isSome (fm : Fm) (t : Int) : (valV (kF fm) (Sum.inl t : Key)).isSome = decide (t ∈ keys fm) := by
  rw [val_kF, Option.isSome_map, row_some]
theorem row_mem {fm : Fm} {t : Int} {e : Int × Addr × List (Option Int)} (h : row fm t = some e) : e ∈ fm ∧ e.1 = t := by
  unfold row at h
  exact ⟨List.mem_of_find?_eq_some h, by simpa using List.find?_some h⟩
/-- where the fields' lists stand -/
def Rows (K : PySem.W.Frag) (H : Hp) (fm : Fm) : Prop := ∀ e ∈ fm, SqL K H e.2.1 (e.2.2.map oV)
theorem Rows.same {K : PySem.W.Frag} {H H' : Hp} {fm : Fm} (s : Same H H') (h : Rows K H fm) : Rows K H' fm := fun e he => Same.sql s (h e he)
theorem get_map {α β : Type} {f : α → β} {l : List α} {i : Nat} {y : β} (h : (l.map f)[i]? = some y) : ∃ x, l[i]? = some x ∧ y = f x := by
  rw [List.getElem?_map] at h
  cases e : l[i]? with
  | none => rw [e] at h; cases h
  | some x => rw [e] at h; exact ⟨x, rfl, (Option.some.inj h).symm⟩
variable {K : PySem.W.Frag} {H : Hp} {Q : VK} {E : XK}
theorem sl {n m : Nat} (h : n ≤ m) (hm : m ≤ 16777216 := by decide) : n ≤ sizeLine := by rw [sizeLine_eq]; omega
/-- told tells things of the view alone -/
def Ok (fm : Fm) (l : List (Option Int)) : Prop := ∀ t, some t ∈ l → t ∈ keys fm
instance (fm : Fm) (l : List (Option Int)) : Decidable (Ok fm l) := decidable_of_iff (∀ o ∈ l, ∀ t, o = some t → t ∈ keys fm) ⟨fun h t ht => h _ ht t rfl, fun h o ho t e => h t (e ▸ ho)⟩
abbrev BV (K : PySem.W.Frag) : Value := .ref (He.ga K "BadView")
theorem c_look_at_told {a f : Addr} {fm : Fm} {l : List (Option Int)} (hf : Rd H f (.dK (kF fm))) (hl : SqL K H a (l.map oV))
    (h1 : Ok fm l → Q .non H) (h2 : ¬ Ok fm l → E (BV K) none H) : sp_look_at_told K [.ref f, .ref a] H Q E := by
  refine i_look_at_told ?_
  unfold t_look_at_told
  walk_at "vv"
  refine x_gList hl ?_
  refine L_list (xs := l.map oV) (fun i σ H' => H' = H ∧ (∃ v, σ = [some (.ref f), some (.ref a), v]) ∧ Ok fm (l.take i)) ⟨rfl, ⟨_, rfl⟩, fun t ht => by simp at ht⟩ ?_ ?_ ?_
  · rintro i σ H' _ ⟨rfl, _⟩
    exact hl
  · rintro i x σ H' hi ⟨rfl, ⟨v, rfl⟩, ok⟩
    obtain ⟨o, ho, rfl⟩ := get_map hi
    have tk : l.take (i + 1) = l.take i ++ [o] := by rw [List.take_add_one, ho]; rfl
    show tIfS _ _ _ _ _ _
    walk_at "vv"
    cases o with
    | none =>
      refine x_iteF ?_
      walk_at "vv"
      refine ⟨rfl, ⟨_, rfl⟩, ?_⟩
      rw [tk]
      intro t ht
      rcases List.mem_append.mp ht with z | z
      · exact ok t z
      · simp at z
    | some t =>
      refine x_iteT ?_
      walk_at "vv"
      refine x_dnotinK (y := t) hf ?_
      walk_at "vv"
      rw [val_isSome]
      refine x_iteN (fun hn => ?_) (fun hy => ?_)
      · walk_at "vv"
        refine h2 fun z => hn (z t ?_)
        exact List.mem_of_getElem? ho
      · walk_at "vv"
        refine ⟨rfl, ⟨_, rfl⟩, ?_⟩
        rw [tk]
        intro t' ht
        rcases List.mem_append.mp ht with z | z
        · exact ok t' z
        · simp at z
          subst z; exact hy
  · rintro σ H' ⟨rfl, _, ok⟩
    rw [List.length_map, List.take_length] at ok
    exact h1 ok

/-- a view: where its parts stand -/
structure VW (K : PySem.W.Frag) (H : Hp) (v ra fa : Addr) (rs : List (Option Int)) (fm : Fm) : Prop where
  tv : SqT K H v [.ref ra, .ref fa]
  rt : SqL K H ra (rs.map oV)
  fd : Rd H fa (.dK (kF fm))
  rw : Rows K H fm
  nd : (keys fm).Nodup
  ln : fm.length ≤ 100 ∧ rs.length ≤ 100 ∧ ∀ e ∈ fm, e.2.2.length ≤ 100
theorem VW.le {H H' : Hp} {v ra fa : Addr} {rs : List (Option Int)} {fm : Fm} (V : VW K H v ra fa rs fm) (s : Le H H') : VW K H' v ra fa rs fm :=
  ⟨s.sqt V.tv, s.sql V.rt, s.dk V.fd, fun e he => s.sql (V.rw e he), V.nd, V.ln⟩
def OkV (rs : List (Option Int)) (fm : Fm) : Prop := Ok fm rs ∧ ∀ e ∈ fm, Ok fm e.2.2
theorem row_nd : ∀ {fm : Fm}, (keys fm).Nodup → ∀ {e}, e ∈ fm → row fm e.1 = some e
  | [], _, _, h => by cases h
  | x :: r, nd, e, h => by
    unfold row
    rw [List.find?_cons]
    have nd' : x.1 ∉ keys r ∧ (keys r).Nodup := by simpa [keys] using nd
    rcases List.mem_cons.mp h with z | z
    · subst z; simp
    · have ne : ¬ x.1 = e.1 := fun q => nd'.1 (q ▸ List.mem_map.mpr ⟨e, z, rfl⟩)
      simp only [ne, decide_false]
      exact row_nd nd'.2 z
theorem at_kF {fm : Fm} {i : Nat} {k : Key} {v : V} (h : (kF fm)[i]? = some (k, v)) : ∃ e, fm[i]? = some e ∧ k = Sum.inl e.1 ∧ v = .ref e.2.1 := by
  obtain ⟨e, he, h2⟩ := get_map h
  cases h2
  exact ⟨e, he, rfl, rfl⟩
theorem c_look_at_view {v ra fa : Addr} {rs : List (Option Int)} {fm : Fm} (V : VW K H v ra fa rs fm)
    (h1 : OkV rs fm → ∀ H', Same H H' → Q .non H') (h2 : ¬ OkV rs fm → ∀ H', Lf H H' → E (BV K) none H') : sp_look_at_view K [.ref v] H Q E := by
  refine i_look_at_view ?_
  unfold t_look_at_view
  walk_at "vv"
  refine x_unpack V.tv rfl ?_
  walk_at "vv"
  refine c_look_at_told V.fd V.rt (fun ok => ?_) (fun nok => h2 (fun z => nok z.1) H (Lf.refl _))
  refine x_lock2 (kvs := kF fm) V.fd fun od H1 U L => ?_
  walk_at "vv"
  refine x_gKeys L.at_ ?_
  refine L_keys (fun i σ H' => H' = H1 ∧ (∃ w, σ = [some (.ref v), some (.ref ra), some (.ref fa), w]) ∧ ∀ e ∈ fm.take i, Ok fm e.2.2) ⟨rfl, ⟨_, rfl⟩, fun e he => by simp at he⟩ (fun i σ H' _ h => by rw [h.1]; exact L.at_) ?_ ?_
  · rintro i k w σ H' hi ⟨rfl, ⟨w', rfl⟩, ok2⟩
    obtain ⟨e, he, rfl, rfl⟩ := at_kF hi
    have hm : e ∈ fm := List.mem_of_getElem? he
    show tDrop _ _ _ _
    walk_at "vv"
    refine x_dgetK (y := e.1) (L.le.dk V.fd) (v := .ref e.2.1) ?_ ?_
    · rw [val_kF, row_nd V.nd hm]; rfl
    walk_at "vv"
    refine c_look_at_told (L.le.dk V.fd) (L.le.sql (V.rw e hm)) (fun ok3 => ?_) (fun nok => h2 (fun z => nok (z.2 e hm)) _ L.lf)
    refine ⟨rfl, ⟨_, rfl⟩, ?_⟩
    rw [List.take_add_one, he]
    intro e' he'
    rcases List.mem_append.mp he' with z | z
    · exact ok2 e' z
    · simp at z; subst z; exact ok3
  · rintro σ H' ⟨rfl, _, ok2⟩
    refine ⟨L.at_, h1 ⟨ok, ?_⟩ _ (L.back _ (Same.refl _))⟩
    rw [kF, List.length_map, List.take_length] at ok2
    exact ok2
/-! ### root_things -/
def isI : V → Option V
  | .non => none
  | v => some v
def somes (l : List (Option Int)) : List Int := l.filterMap id
theorem isI_map (l : List (Option Int)) : (l.map oV).filterMap isI = (somes l).map V.int := by
  unfold somes
  induction l with
  | nil => rfl
  | cons o r ih =>
    cases o with
    | none => exact ih
    | some t =>
      show V.int t :: List.filterMap isI (List.map oV r) = V.int t :: List.map V.int (List.filterMap id r)
      rw [ih]
/-- [x for x in xs if x is not None] -/
theorem lc_somes {p : Addr} {l : List (Option Int)} {i : Nat} {σ : L2.St} (hi : i < σ.length) (hp : SqL K H p (l.map oV)) (hl : l.length ≤ 16000000)
    (hq : ∀ D H2, H D = none → Same H H2 → H2 D = some (.lst ((somes l).map V.int)) → Q (.ref D) H2) :
    LcG (Itl K p) (gName i) (tTest (tOp oNotN (tVar i) (tC .non))) (tVar i) [i] σ H Q := by
  refine L_lcP isI hp (by rw [List.length_map]; exact hl) (fun j x H2 hj s R hR => ?_) (fun D H2 hD s e => hq D H2 hD s (by rw [isI_map] at e; exact e))
  obtain ⟨o, _, rfl⟩ := get_map hj
  have e1 : (wipe σ [i]).set i (some (oV o)) = σ.set i (some (oV o)) := by simp [wipe]
  show wipe ((wipe σ [i]).set i (some (oV o))) [i] = wipe σ [i] ∧ tTest _ ((wipe σ [i]).set i (some (oV o))) H2 _
  rw [e1]
  refine ⟨by simp [wipe], ?_⟩
  have e2 : (σ.set i (some (oV o)))[i]? = some (some (oV o)) := by simp [hi]
  refine x_test (x_op (x_var e2 (x_c (x_notN (x_bl ?_)))))
  cases o with
  | none => exact x_iteF (hR _ (Same.refl _))
  | some t => exact x_iteT (x_var e2 (hR _ (Same.refl _)))
theorem at0 {v w : V} : atI [v, w] 0 = some v := rfl
theorem at1 {v w : V} : atI [v, w] 1 = some w := rfl
theorem c_root_things {v ra fa : Addr} {rs : List (Option Int)} {fm : Fm} (W : VW K H v ra fa rs fm)
    (h : ∀ D H2, H D = none → Same H H2 → H2 D = some (.lst ((somes rs).map V.int)) → Q (.ref D) H2) : sp_root_things K [.ref v] H Q E := by
  refine i_root_things ?_
  unfold t_root_things
  walk_at "vv"
  refine x_ixT W.tv at0 ?_
  refine x_gList W.rt ?_
  exact lc_somes (by simp) W.rt (by have := W.ln.2.1; omega) h
end P70

set_option Elab.async false
set_option linter.all false
set_option maxRecDepth 100000
set_option maxHeartbeats 1000000
namespace P70
open PySem PySem.Spec PyProof.Rows L2 SX0 R_k70
/-! ### the mirror of last_steps -/
abbrev Pst := List (Int × Option Int × Int)
def pk (s : Pst) : List Int := s.map (·.1)
def stR (s : Pst × Nat) (o : Option Int) : Pst × Nat := match o with
  | none => (s.1, s.2 + 1)
  | some t => (if t ∈ pk s.1 then s.1 else s.1 ++ [(t, none, (s.2 : Int))], s.2 + 1)
def addR (rs : List (Option Int)) : Pst := (rs.foldl stR ([], 0)).1
def stB (src : Int) (s : (Pst × List Int) × Nat) (o : Option Int) : (Pst × List Int) × Nat := match o with
  | none => (s.1, s.2 + 1)
  | some t => (if t ∈ pk s.1.1 then s.1 else (s.1.1 ++ [(t, some src, (s.2 : Int))], s.1.2 ++ [t]), s.2 + 1)
def addRow (src : Int) (sb : Pst × List Int) (r : List (Option Int)) : Pst × List Int := (r.foldl (stB src) (sb, 0)).1
def rowOf (fm : Fm) (t : Int) : List (Option Int) := match row fm t with
  | some e => e.2.2
  | none => []
def addEdge (fm : Fm) (sb : Pst × List Int) (edge : List Int) : Pst × List Int := edge.foldl (fun sb t => addRow t sb (rowOf fm t)) sb
def bfs (fm : Fm) : Nat → Pst → List Int → Pst
  | 0, s, _ => s
  | n + 1, s, edge => if edge = [] then s else bfs fm n (addEdge fm (s, []) edge).1 (addEdge fm (s, []) edge).2
def lastSteps (rs : List (Option Int)) (fm : Fm) : Pst := bfs fm (fm.length + 2) (addR rs) (pk (addR rs))
/-! ### nodup -/
theorem nodup_len : ∀ {l m : List Int}, l.Nodup → (∀ x ∈ l, x ∈ m) → l.length ≤ m.length
  | [], _, _, _ => Nat.zero_le _
  | a :: l, m, nd, h => by
    obtain ⟨n1, n2⟩ := List.nodup_cons.mp nd
    have hm : a ∈ m := h a List.mem_cons_self
    have q := nodup_len (l := l) (m := m.erase a) n2 fun x hx => by
      have ne : x ≠ a := fun z => n1 (z ▸ hx)
      exact (List.mem_erase_of_ne ne).mpr (h x (List.mem_cons_of_mem _ hx))
    have e := List.length_erase_of_mem hm
    have pos : 0 < m.length := List.length_pos_of_mem hm
    rw [List.length_cons]
    omega
structure Gd (fm : Fm) (s : Pst) : Prop where
  nd : (pk s).Nodup
  sub : ∀ t ∈ pk s, t ∈ keys fm
theorem Gd.len {fm : Fm} {s : Pst} (g : Gd fm s) : s.length ≤ fm.length := by
  have h := nodup_len g.nd g.sub
  simpa [pk, keys] using h
theorem pk_app (s : Pst) (t : Int) (f : Option Int) (k : Int) : pk (s ++ [(t, f, k)]) = pk s ++ [t] := by simp [pk]
theorem Gd.app {fm : Fm} {s : Pst} {t : Int} {f : Option Int} {k : Int} (g : Gd fm s) (h : t ∉ pk s) (hk : t ∈ keys fm) : Gd fm (s ++ [(t, f, k)]) := by
  refine ⟨?_, fun x hx => ?_⟩
  · rw [pk_app, List.nodup_append]
    refine ⟨g.nd, by simp, fun a ha b hb => ?_⟩
    rw [List.mem_singleton] at hb
    exact fun z => h (hb ▸ z ▸ ha)
  · rw [pk_app] at hx
    rcases List.mem_append.mp hx with z | z
    · exact g.sub x z
    · rw [List.mem_singleton] at z; rw [z]; exact hk
/-! ### where the steps stand -/
abbrev Dst := List (Int × (Option Int × Int) × Addr)
def kD (d : Dst) : List (Key × V) := d.map fun e => (Sum.inl e.1, V.ref e.2.2)
def pl (d : Dst) : Pst := d.map fun e => (e.1, e.2.1)
def Tups (H : Hp) (d : Dst) : Prop := ∀ e ∈ d, H e.2.2 = some (.tup [oV e.2.1.1, .int e.2.1.2])
theorem val_map {α : Type} (k : α → Int) (g : α → V) (t : Int) : ∀ l : List α, valV (l.map fun e => ((Sum.inl (k e) : Key), g e)) (Sum.inl t : Key) = (l.find? fun e => decide (k e = t)).map g
  | [] => rfl
  | e :: r => by
    have ih := val_map k g t r
    by_cases h : k e = t
    · rw [List.map_cons, valV_pos (by simp [h]), List.find?_cons]
      simp [h]
    · rw [List.map_cons, valV_neg (by simpa using h), List.find?_cons, ih]
      simp [h]
theorem find_some {α : Type} (k : α → Int) (t : Int) : ∀ l : List α, (l.find? fun e => decide (k e = t)).isSome = decide (t ∈ l.map k)
  | [] => rfl
  | e :: r => by
    have ih := find_some k t r
    rw [List.find?_cons]
    by_cases h : k e = t
    · simp [h]
    · have h2 : ¬ t = k e := fun z => h z.symm
      simp only [h, decide_false, ih, List.map_cons, List.mem_cons, h2, false_or]
theorem kD_some (d : Dst) (t : Int) : (valV (kD d) (Sum.inl t : Key)).isSome = decide (t ∈ pk (pl d)) := by
  unfold kD
  rw [val_map (fun e : Int × (Option Int × Int) × Addr => e.1), Option.isSome_map, find_some (fun e : Int × (Option Int × Int) × Addr => e.1)]
  unfold pk pl
  rw [List.map_map]
  rfl
theorem kD_none {d : Dst} {t : Int} (h : t ∉ pk (pl d)) : valV (kD d) (Sum.inl t : Key) = none := by
  have e := kD_some d t
  rw [decide_eq_false h] at e
  cases q : valV (kD d) (Sum.inl t : Key) with
  | none => rfl
  | some v => rw [q] at e; cases e
theorem kD_len (d : Dst) : (kD d).length = (pl d).length := by simp [kD, pl]
theorem pl_app (d : Dst) (t : Int) (f : Option Int) (k : Int) (q : Addr) : pl (d ++ [(t, (f, k), q)]) = pl d ++ [(t, f, k)] := by simp [pl]
structure SW (H0 H : Hp) (p : Addr) (d : Dst) : Prop where
  s : Same H0 H
  p0 : H0 p = none
  at_ : H p = some (.dK (kD d))
  tp : Tups H d
theorem Tups.same {H H' : Hp} {d : Dst} (t : Tups H d) (s : Same H H') : Tups H' d := fun e he => s _ _ (t e he)
theorem SW.same {H0 H H' : Hp} {p : Addr} {d : Dst} (w : SW H0 H p d) (s : Same H H') : SW H0 H' p d := ⟨Same.trans w.s s, w.p0, s _ _ w.at_, w.tp.same s⟩
/-- another list is written -/
theorem SW.list {H0 H : Hp} {p b : Addr} {d : Dst} {xs ys : List V} (w : SW H0 H p d) (b0 : H0 b = none) (hb : H b = some (.lst xs)) : SW H0 (upd H b (.lst ys)) p d := by
  have npb : p ≠ b := ne_of w.at_ hb (by intro z; cases z)
  refine ⟨Same.put w.s b0, w.p0, by rw [upd_ne npb]; exact w.at_, fun e he => ?_⟩
  have ne : e.2.2 ≠ b := ne_of (w.tp e he) hb (by intro z; cases z)
  rw [upd_ne ne]; exact w.tp e he
theorem SW.put {H0 H : Hp} {p q : Addr} {d : Dst} {t : Int} {f : Option Int} {k : Int} (w : SW H0 H p d) (h : t ∉ pk (pl d)) (hq : H q = none) :
    SW H0 (upd (upd H q (.tup [oV f, .int k])) p (.dK (putK (kD d) (Sum.inl t) (.ref q)))) p (d ++ [(t, (f, k), q)]) := by
  have nqp : q ≠ p := (ne_of_none w.at_ hq).symm
  refine ⟨Same.put (Same.trans w.s (Same.new hq)) w.p0, w.p0, ?_, fun e he => ?_⟩
  · rw [upd_same, putK_new _ (kD_none h)]
    simp [kD]
  · rcases List.mem_append.mp he with z | z
    · have h1 := w.tp e z
      have ne : e.2.2 ≠ p := ne_of h1 w.at_ (by intro z; cases z)
      rw [upd_ne ne, upd_ne (ne_of_none h1 hq)]; exact h1
    · rw [List.mem_singleton] at z
      subst z
      rw [upd_ne nqp, upd_same]
variable {K : PySem.W.Frag} {H : Hp} {Q : VK} {E : XK}
theorem fold_idx {α β : Type} (f : α × Nat → β → α × Nat) (hf : ∀ s o, (f s o).2 = s.2 + 1) : ∀ (l : List β) (s : α × Nat), (l.foldl f s).2 = s.2 + l.length
  | [], s => by simp
  | o :: r, s => by rw [List.foldl_cons, fold_idx f hf r, hf, List.length_cons]; omega
theorem stR_idx (s : Pst × Nat) (o : Option Int) : (stR s o).2 = s.2 + 1 := by cases o <;> rfl
theorem stB_idx (src : Int) (s : (Pst × List Int) × Nat) (o : Option Int) : (stB src s o).2 = s.2 + 1 := by cases o <;> rfl
theorem take_snoc {α : Type} {l : List α} {i : Nat} {x : α} (h : l[i]? = some x) : l.take (i + 1) = l.take i ++ [x] := by rw [List.take_add_one, h]; rfl
theorem lt_of_get {α : Type} {l : List α} {i : Nat} {x : α} (h : l[i]? = some x) : i < l.length := (List.getElem?_eq_some_iff.mp h).1
theorem take_len {α : Type} {l : List α} {i : Nat} {x : α} (h : l[i]? = some x) : (l.take i).length = i := by
  have := lt_of_get h
  rw [List.length_take]; omega
/-- the turn of the roots' loop -/
theorem roots_turn {rs : List (Option Int)} {i : Nat} {o : Option Int} (h : rs[i]? = some o) : (rs.take (i + 1)).foldl stR ([], 0) = stR (((rs.take i).foldl stR ([], 0)).1, i) o := by
  have e := fold_idx stR stR_idx (rs.take i) ([], 0)
  rw [take_len h] at e
  rw [take_snoc h, List.foldl_append]
  show stR ((rs.take i).foldl stR ([], 0)) o = _
  congr 1
  exact Prod.ext rfl (by simpa using e)
theorem row_turn {src : Int} {sb : Pst × List Int} {r : List (Option Int)} {i : Nat} {o : Option Int} (h : r[i]? = some o) : (r.take (i + 1)).foldl (stB src) (sb, 0) = stB src (((r.take i).foldl (stB src) (sb, 0)).1, i) o := by
  have e := fold_idx (stB src) (stB_idx src) (r.take i) (sb, 0)
  rw [take_len h] at e
  rw [take_snoc h, List.foldl_append]
  show stB src ((r.take i).foldl (stB src) (sb, 0)) o = _
  congr 1
  exact Prod.ext rfl (by simpa using e)
/-- what the while loop keeps -/
structure BW (fm : Fm) (H0 H : Hp) (p ea b : Addr) (d : Dst) (edge bh : List Int) : Prop where
  w : SW H0 H p d
  g : Gd fm (pl d)
  e_ : H ea = some (.lst (edge.map V.int))
  e0 : H0 ea = none
  b_ : H b = some (.lst (bh.map V.int))
  b0 : H0 b = none
  ne : ea ≠ b
  bl : bh.length ≤ (pl d).length
  bk : ∀ t ∈ bh, t ∈ keys fm
theorem BW.same {fm : Fm} {H0 H H' : Hp} {p ea b : Addr} {d : Dst} {edge bh : List Int} (w : BW fm H0 H p ea b d edge bh) (s : Same H H') : BW fm H0 H' p ea b d edge bh :=
  ⟨w.w.same s, w.g, s _ _ w.e_, w.e0, s _ _ w.b_, w.b0, w.ne, w.bl, w.bk⟩

theorem pk_pl (d : Dst) : (kD d).map (fun kv => kV kv.1) = (pk (pl d)).map V.int := by
  unfold kD pk pl
  rw [List.map_map, List.map_map, List.map_map]
  rfl
theorem rowOf_mem {fm : Fm} (nd : (keys fm).Nodup) {e : Int × Addr × List (Option Int)} (h : e ∈ fm) : rowOf fm e.1 = e.2.2 := by
  unfold rowOf
  rw [row_nd nd h]
theorem key_row {fm : Fm} {t : Int} (h : t ∈ keys fm) : ∃ e, e ∈ fm ∧ e.1 = t := by
  obtain ⟨e, he, q⟩ := List.mem_map.mp h
  exact ⟨e, he, q⟩
/-- the loop over the roots: from the heap with the dict new at p -/
theorem roots_loop {v ra fa p : Addr} {rs : List (Option Int)} {fm : Fm} {H0 : Hp} {D : Ends} (W : VW K H0 v ra fa rs fm) (ok : OkV rs fm) (w0 : SW H0 H p [])
    (hd : ∀ (d : Dst) a4 a5 H', SW H0 H' p d → pl d = addR rs → Gd fm (pl d) → D.nx [some (.ref v), some (.ref ra), some (.ref fa), some (.ref p), a4, a5, none, none, none] H') :
    LoopG (Ite K ra) (gTup K 2 (gCons (gName 4) (gCons (gName 5) gNil))) (tIfS (tAnd (tTest (tOp oNotN (tVar 5) (tC .non))) (tB (tDNotIn (tVar 5) (tVar 3)))) (sDPut (tVar 3) (tVar 5) (tTup (tCons (tC .non) (tCons (tVar 4) tNil)))) tNext) D
      [some (.ref v), some (.ref ra), some (.ref fa), some (.ref p), none, none, none, none, none] H := by
  refine L_enum (xs := rs.map oV) (fun i σ H' => ∃ (d : Dst) (a4 a5 : Option L2.V), σ = [some (.ref v), some (.ref ra), some (.ref fa), some (.ref p), a4, a5, none, none, none] ∧ SW H0 H' p d ∧ pl d = ((rs.take i).foldl stR ([], 0)).1 ∧ Gd fm (pl d))
    ⟨[], none, none, rfl, w0, rfl, ⟨by simp [pl, pk], fun t ht => by simp [pl, pk] at ht⟩⟩ ?_ ?_ ?_
  · rintro i σ H' _ ⟨d, _, _, _, w, _⟩
    exact Same.sql w.s W.rt
  · rintro i x T σ H' hi ⟨d, a4, a5, rfl, w, e, g⟩ hT
    obtain ⟨o, ho, rfl⟩ := get_map hi
    have w1 := w.same (Same.new (o := .tup [.int (i : Nat), oV o]) hT)
    have turn := roots_turn ho
    show tIfS _ _ _ _ _ _
    walk_at "vv"
    cases o with
    | none =>
      refine x_iteF ?_
      walk_at "vv"
      exact ⟨d, _, _, rfl, w1, by rw [turn]; exact e, g⟩
    | some t =>
      refine x_iteT ?_
      walk_at "vv"
      refine x_dnotinK (y := t) (.inl w1.at_) ?_
      walk_at "vv"
      rw [kD_some]
      refine x_iteN (fun hn => ?_) (fun hy => ?_)
      · walk_at "vv"
        refine ⟨sl (m := 2) (Nat.le_refl _), fun q hq => ?_⟩
        walk_at "vv"
        have nq : q ≠ p := (ne_of_none w1.at_ hq).symm
        refine x_dputK (y := t) (kvs := kD d) (by rw [upd_ne nq.symm]; exact w1.at_) (by have := g.len; have := W.ln.1; rw [kD_len, sizeLine_eq]; omega) ?_
        have hk : t ∈ keys fm := ok.1 t (List.mem_of_getElem? ho)
        refine ⟨d ++ [(t, (none, (i : Int)), q)], _, _, rfl, SW.put (f := none) w1 hn hq, ?_, ?_⟩
        · rw [pl_app, turn, e] at *
          show _ = (if t ∈ pk _ then _ else _)
          rw [if_neg hn]
        · rw [pl_app]; exact g.app hn hk
      · walk_at "vv"
        refine ⟨d, _, _, rfl, w1, ?_, g⟩
        rw [turn, e] at *
        show _ = (if t ∈ pk _ then _ else _)
        rw [if_pos hy]
  · rintro σ H' ⟨d, a4, a5, rfl, w, e, g⟩
    rw [List.length_map, List.take_length] at e
    exact hd d a4 a5 H' w e g

/-- the loop over one row -/
theorem row_loop {v ra fa p ea b rA : Addr} {rs : List (Option Int)} {fm : Fm} {H0 : Hp} {D : Ends} {src : Int} {r : List (Option Int)} {d0 : Dst} {edge bh0 : List Int} {a4 a8 : Option L2.V} (W : VW K H0 v ra fa rs fm)
    (hr : SqL K H0 rA (r.map oV)) (okr : Ok fm r) (w0 : BW fm H0 H p ea b d0 edge bh0)
    (hd : ∀ (d : Dst) bh a4 a8 H', BW fm H0 H' p ea b d edge bh → (pl d, bh) = addRow src (pl d0, bh0) r → D.nx [some (.ref v), some (.ref ra), some (.ref fa), some (.ref p), a4, some (.int src), some (.ref ea), some (.ref b), a8] H') :
    LoopG (Ite K rA) (gTup K 2 (gCons (gName 4) (gCons (gName 8) gNil))) (tIfS (tAnd (tTest (tOp oNotN (tVar 8) (tC .non))) (tB (tDNotIn (tVar 8) (tVar 3)))) (tSeq (sDPut (tVar 3) (tVar 8) (tTup (tCons (tVar 5) (tCons (tVar 4) tNil)))) (tDrop (tBM K "list" rAppend (tVar 7) (tCons (tVar 8) tNil)))) tNext) D
      [some (.ref v), some (.ref ra), some (.ref fa), some (.ref p), a4, some (.int src), some (.ref ea), some (.ref b), a8] H := by
  refine L_enum (xs := r.map oV) (fun i σ H' => ∃ (d : Dst) (bh : List Int) (a4 a8 : Option L2.V), σ = [some (.ref v), some (.ref ra), some (.ref fa), some (.ref p), a4, some (.int src), some (.ref ea), some (.ref b), a8] ∧ BW fm H0 H' p ea b d edge bh ∧ (pl d, bh) = ((r.take i).foldl (stB src) ((pl d0, bh0), 0)).1)
    ⟨d0, bh0, _, _, rfl, w0, rfl⟩ ?_ ?_ ?_
  · rintro i σ H' _ ⟨d, bh, _, _, _, w, _⟩
    exact Same.sql w.w.s hr
  · rintro i x T σ H' hi ⟨d, bh, a4, a8, rfl, w, e⟩ hT
    obtain ⟨o, ho, rfl⟩ := get_map hi
    have w1 := w.same (Same.new (o := .tup [.int (i : Nat), oV o]) hT)
    have turn := row_turn (src := src) (sb := (pl d0, bh0)) ho
    rw [← e] at turn
    show tIfS _ _ _ _ _ _
    walk_at "vv"
    cases o with
    | none =>
      refine x_iteF ?_
      walk_at "vv"
      exact ⟨d, bh, _, _, rfl, w1, by rw [turn]; rfl⟩
    | some t =>
      refine x_iteT ?_
      walk_at "vv"
      refine x_dnotinK (y := t) (.inl w1.w.at_) ?_
      walk_at "vv"
      rw [kD_some]
      refine x_iteN (fun hn => ?_) (fun hy => ?_)
      · walk_at "vv"
        refine ⟨sl (m := 2) (Nat.le_refl _), fun q hq => ?_⟩
        walk_at "vv"
        have nq : q ≠ p := (ne_of_none w1.w.at_ hq).symm
        have gl := w1.g.len
        have wl := W.ln.1
        refine x_dputK (y := t) (kvs := kD d) (by rw [upd_ne nq.symm]; exact w1.w.at_) (by rw [kD_len, sizeLine_eq]; omega) ?_
        have hk : t ∈ keys fm := okr t (List.mem_of_getElem? ho)
        have w2 := SW.put (f := some src) (k := (i : Int)) w1.w hn hq
        have nbp : b ≠ p := ne_of w1.b_ w1.w.at_ (by intro z; cases z)
        have nep : ea ≠ p := ne_of w1.e_ w1.w.at_ (by intro z; cases z)
        have hb2 : (upd (upd (upd H' T (.tup [.int (i : Nat), oV (some t)])) q (.tup [.int src, .int (i : Nat)])) p (.dK (putK (kD d) (Sum.inl t) (.ref q)))) b = some (.lst (bh.map V.int)) := by
          rw [upd_ne nbp, upd_ne (ne_of_none w1.b_ hq)]; exact w1.b_
        have he2 : (upd (upd (upd H' T (.tup [.int (i : Nat), oV (some t)])) q (.tup [.int src, .int (i : Nat)])) p (.dK (putK (kD d) (Sum.inl t) (.ref q)))) ea = some (.lst (edge.map V.int)) := by
          rw [upd_ne nep, upd_ne (ne_of_none w1.e_ hq)]; exact w1.e_
        walk_at "vv"
        refine ⟨x_tyL hb2, ?_⟩
        walk_at "vv"
        have bl := w1.bl
        refine x_append hb2 (by rw [List.length_map, sizeLine_eq]; omega) ?_
        refine ⟨d ++ [(t, (some src, (i : Int)), q)], bh ++ [t], _, _, rfl, ⟨SW.list w2 w1.b0 hb2, ?_, ?_, w1.e0, ?_, w1.b0, w1.ne, ?_, ?_⟩, ?_⟩
        · rw [pl_app]; exact w1.g.app hn hk
        · rw [upd_ne w1.ne]; exact he2
        · rw [upd_same, List.map_append]; rfl
        · rw [pl_app, List.length_append, List.length_append]
          simp; exact bl
        · intro t' ht'
          rcases List.mem_append.mp ht' with z | z
          · exact w1.bk t' z
          · rw [List.mem_singleton] at z; rw [z]; exact hk
        · rw [pl_app, turn]
          show _ = (if t ∈ pk (pl d) then _ else _)
          rw [if_neg hn]
      · walk_at "vv"
        refine ⟨d, bh, _, _, rfl, w1, ?_⟩
        rw [turn]
        show _ = (if t ∈ pk (pl d) then _ else _)
        rw [if_pos hy]
  · rintro σ H' ⟨d, bh, a4, a8, rfl, w, e⟩
    rw [List.length_map, List.take_length] at e
    exact hd d bh a4 a8 H' w e
/-- the loop over the edge -/
theorem edge_loop {v ra fa p ea b : Addr} {rs : List (Option Int)} {fm : Fm} {H0 : Hp} {D : Ends} {d0 : Dst} {edge : List Int} {a4 a5 a8 : Option L2.V} (W : VW K H0 v ra fa rs fm) (ok : OkV rs fm)
    (w0 : BW fm H0 H p ea b d0 edge []) (hed : ∀ t ∈ edge, t ∈ keys fm)
    (hd : ∀ (d : Dst) bh a4 a5 a8 H', BW fm H0 H' p ea b d edge bh → (pl d, bh) = addEdge fm (pl d0, []) edge → D.nx [some (.ref v), some (.ref ra), some (.ref fa), some (.ref p), a4, a5, some (.ref ea), some (.ref b), a8] H') :
    LoopG (Itl K ea) (gName 5) (tFor (iEnum K (tCons (tDGet (tVar 2) (tVar 5)) tNil)) (gTup K 2 (gCons (gName 4) (gCons (gName 8) gNil))) (tIfS (tAnd (tTest (tOp oNotN (tVar 8) (tC .non))) (tB (tDNotIn (tVar 8) (tVar 3)))) (tSeq (sDPut (tVar 3) (tVar 8) (tTup (tCons (tVar 5) (tCons (tVar 4) tNil)))) (tDrop (tBM K "list" rAppend (tVar 7) (tCons (tVar 8) tNil)))) tNext)) D
      [some (.ref v), some (.ref ra), some (.ref fa), some (.ref p), a4, a5, some (.ref ea), some (.ref b), a8] H := by
  refine L_list (xs := edge.map V.int) (fun i σ H' => ∃ (d : Dst) (bh : List Int) (a4 a5 a8 : Option L2.V), σ = [some (.ref v), some (.ref ra), some (.ref fa), some (.ref p), a4, a5, some (.ref ea), some (.ref b), a8] ∧ BW fm H0 H' p ea b d edge bh ∧ (pl d, bh) = addEdge fm (pl d0, []) (edge.take i))
    ⟨d0, [], _, _, _, rfl, w0, rfl⟩ ?_ ?_ ?_
  · rintro i σ H' _ ⟨d, bh, _, _, _, _, w, _⟩
    exact SqL.of w.e_
  · rintro i x σ H' hi ⟨d, bh, a4, a5, a8, rfl, w, e⟩
    obtain ⟨t, ht, rfl⟩ := get_map hi
    obtain ⟨en, hen, rfl⟩ := key_row (hed t (List.mem_of_getElem? ht))
    have turn : addEdge fm (pl d0, []) (edge.take (i + 1)) = addRow en.1 (pl d, bh) (rowOf fm en.1) := by
      unfold addEdge at e ⊢
      rw [take_snoc ht, List.foldl_append, ← e]
      rfl
    show tFor _ _ _ _ _ _
    walk_at "vv"
    refine x_dgetK (y := en.1) (Same.rd w.w.s W.fd) (v := .ref en.2.1) ?_ ?_
    · rw [val_kF, row_nd W.nd hen]; rfl
    walk_at "vv"
    refine x_gEnum (Same.sql w.w.s (W.rw en hen)) ?_
    refine row_loop W (W.rw en hen) (ok.2 en hen) w fun d' bh' b4 b8 H'' w' e' => ?_
    refine ⟨d', bh', _, _, _, rfl, w', ?_⟩
    rw [turn, rowOf_mem W.nd hen]; exact e'
  · rintro σ H' ⟨d, bh, a4, a5, a8, rfl, w, e⟩
    rw [List.length_map, List.take_length] at e
    exact hd d bh _ _ _ H' w e

/-! ### what an edge adds -/
theorem stB_len (src : Int) (s : (Pst × List Int) × Nat) (o : Option Int) : ((stB src s o).1.1.length : Int) - ((stB src s o).1.2.length : Int) = (s.1.1.length : Int) - (s.1.2.length : Int) := by
  cases o with
  | none => rfl
  | some t =>
    show (((if t ∈ pk s.1.1 then s.1 else _) : Pst × List Int).1.length : Int) - _ = _
    unfold stB
    by_cases h : t ∈ pk s.1.1
    · simp only [if_pos h]
    · simp only [if_neg h, List.length_append, List.length_cons, List.length_nil]
      omega
theorem row_len (src : Int) : ∀ (r : List (Option Int)) (s : (Pst × List Int) × Nat), ((r.foldl (stB src) s).1.1.length : Int) - ((r.foldl (stB src) s).1.2.length : Int) = (s.1.1.length : Int) - (s.1.2.length : Int)
  | [], _ => rfl
  | o :: r, s => by rw [List.foldl_cons, row_len src r, stB_len]
theorem edge_len (fm : Fm) : ∀ (edge : List Int) (sb : Pst × List Int), ((addEdge fm sb edge).1.length : Int) - ((addEdge fm sb edge).2.length : Int) = (sb.1.length : Int) - (sb.2.length : Int)
  | [], _ => rfl
  | t :: r, sb => by
    show ((addEdge fm (addRow t sb (rowOf fm t)) r).1.length : Int) - ((addEdge fm (addRow t sb (rowOf fm t)) r).2.length : Int) = _
    rw [edge_len fm r]
    exact row_len t (rowOf fm t) (sb, 0)
theorem edge_len0 (fm : Fm) (edge : List Int) (s : Pst) : (addEdge fm (s, []) edge).1.length = s.length + (addEdge fm (s, []) edge).2.length := by
  have h := edge_len fm edge (s, [])
  simp at h
  omega
def mu (fm : Fm) (s : Pst) (edge : List Int) : Nat := (fm.length + 1 - s.length) + (if edge = [] then 0 else 1)
theorem bfs_step {fm : Fm} {n : Nat} {s : Pst} {edge : List Int} (h : edge ≠ []) : bfs fm (n + 1) s edge = bfs fm n (addEdge fm (s, []) edge).1 (addEdge fm (s, []) edge).2 := if_neg h
theorem bfs_end {fm : Fm} {n : Nat} {s : Pst} : bfs fm n s [] = s := by cases n <;> rfl
/-- the steps of a right view -/
theorem c_last_steps {v ra fa : Addr} {rs : List (Option Int)} {fm : Fm} (W : VW K H v ra fa rs fm) (ok : OkV rs fm)
    (h : ∀ p (d : Dst) H', SW H H' p d → pl d = lastSteps rs fm → Gd fm (pl d) → Q (.ref p) H') : sp_last_steps K [.ref v] H Q E := by
  refine i_last_steps ?_
  unfold t_last_steps
  walk_at "vv"
  refine x_unpack W.tv rfl ?_
  walk_at "vv"
  intro p hp
  walk_at "vv"
  refine x_gEnum (Same.sql (Same.new hp) W.rt) ?_
  refine roots_loop W ok ⟨Same.new hp, hp, upd_same, fun e he => by cases he⟩ fun d a4 a5 H1 w e g => ?_
  walk_at "vv"
  refine ⟨p, kD d, rfl, .inl w.at_, fun ea hea => ?_⟩
  rw [pk_pl]
  have w1 := w.same (Same.new (o := .lst ((pk (pl d)).map V.int)) hea)
  walk_at "vv"
  refine L_while (fun m σ H' => ∃ (d : Dst) (ea : Addr) (edge : List Int) (a4 a5 a7 a8 : Option L2.V), σ = [some (.ref v), some (.ref ra), some (.ref fa), some (.ref p), a4, a5, some (.ref ea), a7, a8] ∧ SW H H' p d ∧ Gd fm (pl d) ∧
    H' ea = some (.lst (edge.map V.int)) ∧ H ea = none ∧ (∀ t ∈ edge, t ∈ keys fm) ∧ bfs fm m (pl d) edge = lastSteps rs fm ∧ mu fm (pl d) edge ≤ m) (fm.length + 2)
    ⟨d, ea, pk (pl d), _, _, _, _, rfl, w1, g, upd_same, w.s.free hea, g.sub, by rw [e]; rfl, by unfold mu; split <;> omega⟩ ?_
  rintro m σ H2 ⟨d, ea, edge, a4, a5, a7, a8, rfl, w, g, he, he0, hed, hb, hm⟩
  walk_at "vv"
  refine x_truL (SqL.of he) ?_
  have hg := g.len
  cases edge with
  | nil =>
    refine x_iteF ?_
    walk_at "vv"
    rw [bfs_end] at hb
    exact h p d H2 w hb g
  | cons t r =>
    refine x_iteT ?_
    refine x_whileGo ?_
    walk_at "vv"
    refine ⟨sl (m := 0) (Nat.le_refl _), fun b hb0 => ?_⟩
    have ne : ea ≠ b := ne_of_none he hb0
    have w2 : BW fm H (upd H2 b (.lst [])) p ea b d (t :: r) [] := ⟨w.same (Same.new hb0), g, by rw [upd_ne ne]; exact he, he0, upd_same, w.s.free hb0, ne, Nat.zero_le _, fun _ z => by cases z⟩
    walk_at "vv"
    refine x_gList (SqL.of w2.e_) ?_
    refine edge_loop W ok w2 hed fun d' bh b4 b5 b8 H3 w3 e3 => ?_
    walk_at "vv"
    have el := edge_len0 fm (t :: r) (pl d)
    rw [← e3] at el
    have hg' := w3.g.len
    have e4 := e3.symm
    obtain ⟨n, rfl⟩ : ∃ n, m = n + 1 := ⟨m - 1, by unfold mu at hm; simp at hm; omega⟩
    refine ⟨n, by omega, d', b, bh, _, _, _, _, rfl, w3.w, w3.g, w3.b_, w3.b0, w3.bk, ?_, ?_⟩
    · rw [bfs_step (by simp), e4] at hb
      exact hb
    · unfold mu at hm ⊢
      simp at hm el
      split
      · rename_i hz; subst hz; simp at el; omega
      · rename_i hz
        have : 0 < bh.length := List.length_pos_iff.mpr hz
        omega
end P70

set_option Elab.async false
set_option linter.all false
set_option maxRecDepth 100000
set_option maxHeartbeats 1000000
namespace P70
open PySem PySem.Spec PyProof.Rows L2 SX0 R_k70
variable {K : PySem.W.Frag} {H : Hp} {Q : VK} {E : XK}
/-! ### triples -/
abbrev Tst := List (Addr × (Int × Option Int × Int))
def kT (l : Tst) : List V := l.map fun e => V.ref e.1
def plT (l : Tst) : Pst := l.map (·.2)
def Trs (H : Hp) (l : Tst) : Prop := ∀ e ∈ l, H e.1 = some (.tup [.int e.2.1, oV e.2.2.1, .int e.2.2.2])
theorem Trs.same {H H' : Hp} {l : Tst} (t : Trs H l) (s : Same H H') : Trs H' l := fun e he => s _ _ (t e he)
theorem kD_at {d : Dst} {i : Nat} {k : Key} {v : V} (h : (kD d)[i]? = some (k, v)) : ∃ e, d[i]? = some e ∧ k = Sum.inl e.1 ∧ v = .ref e.2.2 := by
  obtain ⟨e, he, h2⟩ := get_map h
  cases h2
  exact ⟨e, he, rfl, rfl⟩
theorem val_kD {d : Dst} (nd : (pk (pl d)).Nodup) {e} (h : e ∈ d) : valV (kD d) (Sum.inl e.1 : Key) = some (.ref e.2.2) := by
  unfold kD
  rw [val_map (fun e : Int × (Option Int × Int) × Addr => e.1)]
  induction d with
  | nil => cases h
  | cons x r ih =>
    have nd' : x.1 ∉ pk (pl r) ∧ (pk (pl r)).Nodup := by simpa [pk, pl] using nd
    rw [List.find?_cons]
    rcases List.mem_cons.mp h with z | z
    · subst z; simp
    · have ne : ¬ x.1 = e.1 := fun q => nd'.1 (by
        rw [q]
        unfold pk pl
        rw [List.map_map]
        exact List.mem_map.mpr ⟨e, z, rfl⟩)
      simp only [ne, decide_false]
      exact ih nd'.2 z
theorem c_reach_paper {v ra fa : Addr} {rs : List (Option Int)} {fm : Fm} (W : VW K H v ra fa rs fm)
    (h1 : OkV rs fm → ∀ D (l : Tst) H', Same H H' → H D = none → H' D = some (.lst (kT l)) → Trs H' l → plT l = lastSteps rs fm → Gd fm (plT l) → Q (.ref D) H')
    (h2 : ¬ OkV rs fm → ∀ H', Lf H H' → E (BV K) none H') : sp_reach_paper K [.ref v] H Q E := by
  refine i_reach_paper ?_
  unfold t_reach_paper
  walk_at "vv"
  refine c_look_at_view W (fun ok H1 s1 => ?_) (fun nok H1 s1 => h2 nok H1 s1)
  walk_at "vv"
  refine c_last_steps (W.le (Same.le s1)) ok fun p d H2 w e g => ?_
  walk_at "vv"
  refine x_lockE2 (.inl w.at_) fun od H3 U L => ?_
  walk_at "vv"
  refine x_gKeys L.at_ ?_
  refine L_lcW walk_keys (fun D i acc H' => Same H3 H' ∧ ∃ l : Tst, acc = kT l ∧ Trs H' l ∧ plT l = (pl d).take i) (fun D hD => ⟨Same.new hD, [], rfl, fun e he => (by cases he), rfl⟩) (fun D i acc H' h => h.1 _ _ L.at_) ?_ ?_
  · rintro D i x acc H4 H5 hD hi ⟨s4, l, rfl, tr, pe⟩ hDl ⟨rfl, k, v', hk, rfl⟩ R hR _
    obtain ⟨en, hen, rfl, rfl⟩ := kD_at hk
    have hm : en ∈ d := List.mem_of_getElem? hen
    refine x_own (by simp) fun _ => ?_
    have htup : H3 en.2.2 = some (.tup [oV en.2.1.1, .int en.2.1.2]) := by
      have := w.tp en hm
      have ne : en.2.2 ≠ p := ne_of this w.at_ (by intro z; cases z)
      rcases L.le _ _ (fun _ _ z => by cases z) (.inl this) with q | ⟨o, q⟩
      · exact q
      · exfalso
        have := L.back H3 (Same.refl _) _ _ this
        rw [L.else_ _ _ ne, q] at this
        cases this
    walk_at "vv"
    refine x_dgetK (y := en.1) (.inr ⟨od, s4 _ _ L.at_⟩) (val_kD g.nd hm) ?_
    walk_at "vv"
    refine x_ixT (SqT.of (s4 _ _ htup)) at0 ?_
    walk_at "vv"
    refine x_dgetK (y := en.1) (.inr ⟨od, s4 _ _ L.at_⟩) (val_kD g.nd hm) ?_
    walk_at "vv"
    refine x_ixT (SqT.of (s4 _ _ htup)) at1 ?_
    refine ⟨sl (m := 3) (Nat.le_refl _), fun q hq => ?_⟩
    have nqD : q ≠ D := (ne_of_none hDl hq).symm
    refine hR _ _ ?_ ?_ ⟨?_, l ++ [(q, (en.1, en.2.1.1, en.2.1.2))], ?_, ?_, ?_⟩
    · rw [upd_ne nqD.symm]; exact hDl
    · have e1 : l.length = (plT l).length := by simp [plT]
      have e2 : (kT l).length = l.length := by simp [kT]
      rw [e2, e1, pe, List.length_take, sizeLine_eq]
      have := g.len; have := W.ln.1
      omega
    · exact Same.put (Same.trans s4 (Same.new hq)) hD
    · simp [kT]
    · intro e he
      rcases List.mem_append.mp he with z | z
      · have q1 := tr e z
        have ne : e.1 ≠ D := ne_of q1 hDl (by intro z; cases z)
        rw [upd_ne ne, upd_ne (ne_of_none q1 hq)]; exact q1
      · rw [List.mem_singleton] at z
        subst z
        rw [upd_ne nqD, upd_same]; rfl
    · have e3 : (pl d)[i]? = some (en.1, en.2.1) := by unfold pl; rw [List.getElem?_map, hen]; rfl
      rw [take_snoc e3, ← pe]
      simp [plT]
  · rintro D acc H4 hD ⟨s4, l, rfl, tr, pe⟩ hDl
    have np : D ≠ p := (ne_of_none L.at_ hD).symm
    have hT : ∀ e ∈ l, e.1 ≠ p := fun e he => ne_of (tr e he) (s4 _ _ L.at_) (by intro z; cases z)
    refine ⟨s4 _ _ L.at_, h1 ok D l (U H4) (Same.trans s1 (Same.trans w.s (L.back _ s4))) (s1.free (w.s.free (L.new D hD))) ?_ ?_ ?_ ?_⟩
    · rw [L.else_ _ _ np]; exact hDl
    · intro e he
      rw [L.else_ _ _ (hT e he)]; exact tr e he
    · rw [pe, kD_len, List.take_length]; exact e
    · rw [pe, kD_len, List.take_length]; exact g

/-! ### sorted lists, each thing once -/
theorem srt_unique : ∀ {l m : List Int}, l.Perm m → l.Pairwise (· ≤ ·) → m.Pairwise (· ≤ ·) → l = m
  | [], m, h, _, _ => by rw [List.nil_perm.mp h]
  | a :: l, [], h, _, _ => by have := h.length_eq; simp at this
  | a :: l, b :: m, h, hl, hm => by
    obtain ⟨l1, l2⟩ := List.pairwise_cons.mp hl
    obtain ⟨m1, m2⟩ := List.pairwise_cons.mp hm
    have ha : a ∈ b :: m := h.mem_iff.mp List.mem_cons_self
    have hb : b ∈ a :: l := h.mem_iff.mpr List.mem_cons_self
    have e : a = b := by
      rcases List.mem_cons.mp ha with z | z
      · exact z
      · rcases List.mem_cons.mp hb with q | q
        · exact q.symm
        · exact Int.le_antisymm (l1 b q) (m1 a z)
    subst e
    rw [srt_unique (List.perm_cons _ |>.mp h) l2 m2]
def srt (l : List Int) : List Int := l.mergeSort fun a b => decide (a ≤ b)
theorem srt_perm (l : List Int) : (srt l).Perm l := List.mergeSort_perm _ _
theorem srt_sorted (l : List Int) : (srt l).Pairwise (· ≤ ·) := by
  have h := List.pairwise_mergeSort (le := fun a b : Int => decide (a ≤ b)) (fun a b c h1 h2 => by simp at *; omega) (fun a b => by simp; omega) l
  exact h.imp fun h => by simpa using h
theorem srt_of {l m : List Int} (h : m.Perm l) (s : m.Pairwise (· ≤ ·)) : m = srt l := srt_unique (h.trans (srt_perm l).symm) s (srt_sorted l)
def dd (ns : List Int) : List Int := ns.foldl (fun acc t => if t ∈ acc then acc else acc ++ [t]) []
def tKV (l : List Int) : List (Key × V) := l.map fun t => (Sum.inl t, V.bl true)
theorem tKV_none {l : List Int} {t : Int} (h : t ∉ l) : valV (tKV l) (Sum.inl t : Key) = none := by
  unfold tKV
  have e := find_some (fun t : Int => t) t l
  rw [val_map (fun t : Int => t)]
  cases q : l.find? fun e => decide (e = t) with
  | none => rfl
  | some v => rw [q] at e; simp [h] at e
theorem tKV_put (l : List Int) (t : Int) : putK (tKV l) (Sum.inl t : Key) (V.bl true) = tKV (if t ∈ l then l else l ++ [t]) := by
  by_cases h : t ∈ l
  · rw [if_pos h]
    unfold putK
    have ha : (tKV l).any (fun kv => decide (kv.1 = (Sum.inl t : Key))) = true := by
      rw [List.any_eq_true]
      exact ⟨(Sum.inl t, V.bl true), List.mem_map.mpr ⟨t, h, rfl⟩, by simp⟩
    rw [if_pos ha]
    unfold tKV
    rw [List.map_map]
    refine List.map_congr_left fun x _ => ?_
    show (if (Sum.inl x : Key) = Sum.inl t then ((Sum.inl x : Key), V.bl true) else (Sum.inl x, V.bl true)) = _
    split <;> rfl
  · rw [if_neg h, putK_new _ (tKV_none h)]
    simp [tKV]
theorem merge_tKV : ∀ (ns acc : List Int), mergeK (tKV acc) (tKV ns) = tKV (ns.foldl (fun acc t => if t ∈ acc then acc else acc ++ [t]) acc)
  | [], _ => rfl
  | t :: r, acc => by
    show mergeK (putK (tKV acc) (Sum.inl t) (V.bl true)) (tKV r) = _
    rw [tKV_put, merge_tKV r]
    rfl
theorem merge0 (ns : List Int) : mergeK [] (tKV ns) = tKV (dd ns) := merge_tKV ns []
theorem dd_spec : ∀ (ns acc : List Int), acc.Nodup → (ns.foldl (fun acc t => if t ∈ acc then acc else acc ++ [t]) acc).Nodup ∧ ∀ x, x ∈ ns.foldl (fun acc t => if t ∈ acc then acc else acc ++ [t]) acc ↔ x ∈ acc ∨ x ∈ ns
  | [], acc, h => ⟨h, fun x => by simp⟩
  | t :: r, acc, h => by
    by_cases ht : t ∈ acc
    · rw [List.foldl_cons, if_pos ht]
      obtain ⟨a, b⟩ := dd_spec r acc h
      refine ⟨a, fun x => (b x).trans ?_⟩
      rw [List.mem_cons]
      constructor
      · rintro (z | z)
        · exact .inl z
        · exact .inr (.inr z)
      · rintro (z | z | z)
        · exact .inl z
        · exact .inl (z ▸ ht)
        · exact .inr z
    · rw [List.foldl_cons, if_neg ht]
      obtain ⟨a, b⟩ := dd_spec r (acc ++ [t]) (by
        rw [List.nodup_append]
        exact ⟨h, by simp, fun x hx y hy => by rw [List.mem_singleton] at hy; exact fun z => ht (hy ▸ z ▸ hx)⟩)
      refine ⟨a, fun x => (b x).trans ?_⟩
      rw [List.mem_append, List.mem_singleton, List.mem_cons, or_assoc]
theorem dd_nodup (ns : List Int) : (dd ns).Nodup := (dd_spec ns [] List.nodup_nil).1
theorem dd_mem (ns : List Int) (x : Int) : x ∈ dd ns ↔ x ∈ ns := by
  have := (dd_spec ns [] List.nodup_nil).2 x
  simpa [dd] using this
theorem dd_len (ns : List Int) : (dd ns).length ≤ ns.length := nodup_len (dd_nodup ns) fun x hx => (dd_mem ns x).mp hx
theorem tKV_keys (l : List Int) : (tKV l).map (·.1) = l.map Sum.inl := by unfold tKV; rw [List.map_map]; rfl
/-! ### [(t, True) for t in xs] and dict of it -/
/-- pairs that stand somewhere -/
theorem lc_pairs {α : Type} {p : Addr} {ns : List α} {i : Nat} {σ : L2.St} {te : TE} (F : α → V) (k : α → Int) (hi : i < σ.length) (hp : SqL K H p (ns.map F)) (hl : ns.length ≤ 16000000)
    (he : ∀ (t : α) H2 (Q2 : VK), t ∈ ns → Same H H2 → (∀ q H3, H2 q = none → H3 = upd H2 q (.tup [.int (k t), .bl true]) → Q2 (.ref q) H3) → te (σ.set i (some (F t))) H2 Q2)
    (hq : ∀ D H2 (as : List Addr), H D = none → Same H H2 → H2 D = some (.lst (as.map V.ref)) → Paired (fun a kv => SqT K H2 a [kV kv.1, kv.2]) as (tKV (ns.map k)) → Q (.ref D) H2) :
    LcG (Itl K p) (gName i) tYes te [i] σ H Q := by
  refine L_lcW (walk_list (xs := ns.map F)) (fun D j acc H' => Same H H' ∧ ∃ as : List Addr, acc = as.map V.ref ∧ Paired (fun a kv => H' a = some (.tup [kV kv.1, kv.2])) as (tKV ((ns.take j).map k))) (fun D hD => ⟨Same.new hD, [], rfl, .nil⟩) (fun D j acc H' h => Same.sql h.1 hp) ?_ ?_
  · rintro D j x acc H2 H3 hD hj ⟨s, as, rfl, pr⟩ hDl ⟨rfl, hx⟩ R hR _
    obtain ⟨t, ht, rfl⟩ := get_map hx
    refine x_own hi fun _ => ?_
    refine x_yes ?_
    refine x_iteT ?_
    refine he t H3 _ (List.mem_of_getElem? ht) s fun q H4 hq0 e4 => ?_
    subst e4
    have nqD : q ≠ D := (ne_of_none hDl hq0).symm
    have al : as.length = j := by
      have := Paired.length pr
      rw [this]
      unfold tKV
      rw [List.length_map, List.length_map, take_len ht]
    refine hR _ _ (by rw [upd_ne nqD.symm]; exact hDl) (by rw [List.length_map, al, sizeLine_eq]; have := lt_of_get ht; omega) ⟨Same.put (Same.trans s (Same.new hq0)) hD, as ++ [q], by simp, ?_⟩
    rw [take_snoc ht]
    unfold tKV
    rw [List.map_append, List.map_append]
    refine Paired.snoc (L2.Paired.mapP pr fun a kv h => ?_) ?_
    · have ne : a ≠ D := ne_of h hDl (by intro z; cases z)
      rw [upd_ne ne, upd_ne (ne_of_none h hq0)]; exact h
    · rw [upd_ne nqD, upd_same]; rfl
  · rintro D acc H2 hD ⟨s, as, rfl, pr⟩ hDl
    rw [List.length_map, List.take_length] at pr
    exact hq D H2 as hD s hDl (L2.Paired.mapP pr fun a kv h => SqT.of h)
theorem c_wider {v ra fa b : Addr} {rs : List (Option Int)} {fm : Fm} {ns : List Int} (W : VW K H v ra fa rs fm) (hb : SqL K H b (ns.map V.int)) (hl : rs.length + ns.length ≤ 100)
    (h : ∀ v' ra' H', Same H H' → VW K H' v' ra' fa (rs ++ (srt (dd ns)).map some) fm → Q (.ref v') H') : sp_wider K [.ref v, .ref b] H Q E := by
  refine i_wider ?_
  unfold t_wider
  walk_at "vv"
  refine x_gList hb ?_
  refine lc_pairs V.int (fun t => t) (by simp) hb (by omega) (fun t H2 Q2 ht s k => ?_) fun D H2 as hD s2 hDl pr => ?_
  · walk_at "vv"
    exact ⟨sl (m := 2) (Nat.le_refl _), fun q hq => k q _ hq rfl⟩
  rw [List.map_id'] at pr
  walk_at "vv"
  refine ⟨D, as, tKV ns, rfl, SqL.of hDl, pr, fun p hp => ?_⟩
  rw [merge0]
  have s3 : Same H (upd H2 p (.dK (tKV (dd ns)))) := Same.trans s2 (Same.new hp)
  walk_at "vv"
  refine x_ixT (Same.sqt s3 W.tv) at0 ?_
  walk_at "vv"
  refine ⟨ra, rs.map oV, rfl, .inl (Same.sql s3 W.rt), fun l hl0 => ?_⟩
  have s4 := Same.trans s3 (Same.new (o := .lst (rs.map oV)) hl0)
  walk_at "vv"
  have npl : p ≠ l := ne_of_none upd_same hl0
  refine ⟨p, tKV (dd ns), dd ns, rfl, .inl (by rw [upd_ne npl]; exact upd_same), tKV_keys _, fun ys y h1 h2 hy => ?_⟩
  have ey := srt_of h1 h2
  subst ey
  have s5 := Same.trans s4 (Same.new (o := .lst ((srt (dd ns)).map V.int)) hy)
  have nly : l ≠ y := ne_of_none upd_same hy
  have sl2 : (srt (dd ns)).length ≤ ns.length := by rw [(srt_perm _).length_eq]; exact dd_len ns
  refine x_cat (SqX.of (by rw [upd_ne nly]; exact upd_same)) (SqX.of upd_same) (by rw [List.length_map, List.length_map, sizeLine_eq]; omega) fun z hz => ?_
  have s6 := Same.trans s5 (Same.new (o := .lst (rs.map oV ++ (srt (dd ns)).map V.int)) hz)
  walk_at "vv"
  refine x_ixT (Same.sqt s6 W.tv) at1 ?_
  refine ⟨sl (m := 2) (Nat.le_refl _), fun w hw => ?_⟩
  have s7 := Same.trans s6 (Same.new (o := .tup [.ref z, .ref fa]) hw)
  have nzw : z ≠ w := ne_of_none upd_same hw
  refine h w z _ s7 ⟨SqT.of upd_same, SqL.of ?_, (Same.le s7).dk W.fd, Rows.same s7 W.rw, W.nd, W.ln.1, ?_, W.ln.2.2⟩
  · rw [upd_ne nzw, upd_same, List.map_append, List.map_map]
    rfl
  · rw [List.length_append, List.length_map]; omega
end P70

set_option Elab.async false
set_option linter.all false
set_option maxRecDepth 100000
set_option maxHeartbeats 1000000
namespace P70
open PySem PySem.Spec PyProof.Rows L2 SX0 R_k70
variable {K : PySem.W.Frag} {H : Hp} {Q : VK} {E : XK}
def gone (fm : Fm) (s : Pst) : List Int := (srt (keys fm)).filter fun t => !decide (t ∈ pk s)
theorem kF_keys (fm : Fm) : (kF fm).map (·.1) = (keys fm).map Sum.inl := by unfold kF keys; rw [List.map_map, List.map_map]; rfl
theorem tKV_some (l : List Int) (t : Int) : (valV (tKV l) (Sum.inl t : Key)).isSome = decide (t ∈ l) := by
  unfold tKV
  rw [val_map (fun t : Int => t), Option.isSome_map, find_some (fun t : Int => t)]
  simp
def intOf : V → Int
  | .int i => i
  | _ => 0
theorem L_lcI {p : Addr} {ns : List Int} {g : TG} {tt : TT} {te : TE} {σ : L2.St} {vs : List Nat} (F : Int → Option V) (hp : SqL K H p (ns.map V.int)) (hlen : ns.length ≤ 16000000)
    (hs : ∀ (t : Int) (H2 : Hp), t ∈ ns → Same H H2 → ∀ R : Option V → Hp → Prop, (∀ H3, Same H2 H3 → R (F t) H3) → g (.int t) (wipe σ vs) H2 fun σ2 H3 => wipe σ2 vs = wipe σ vs ∧ tt σ2 H3 fun b H4 =>
      if b = true then te σ2 H4 fun y H5 => R (some y) H5 else R none H4)
    (hq : ∀ D H2, H D = none → Same H H2 → H2 D = some (.lst (ns.filterMap F)) → Q (.ref D) H2) : LcG (Itl K p) g tt te vs σ H Q := by
  refine L_lcP (fun v => F (intOf v)) hp (by rw [List.length_map]; exact hlen) (fun j x H2 hj s R hR => ?_) fun D H2 hD s e => hq D H2 hD s ?_
  · obtain ⟨t, ht, rfl⟩ := get_map hj
    exact hs t H2 (List.mem_of_getElem? ht) s R hR
  · rw [List.filterMap_map] at e; exact e
theorem fm_if (q : Int → Bool) : ∀ l : List Int, l.filterMap (fun t => if q t = true then some (V.int t) else none) = (l.filter q).map V.int
  | [] => rfl
  | t :: r => by
    rw [List.filterMap_cons, List.filter_cons]
    cases h : q t with
    | true => simp [fm_if q r]
    | false => simp [fm_if q r]
theorem kT_map (l : Tst) : kT l = l.map fun e => V.ref e.1 := rfl
theorem len_plT (l : Tst) : (plT l).length = l.length := by simp [plT]
theorem c_others {v ra fa p : Addr} {rs : List (Option Int)} {fm : Fm} {l : Tst} (W : VW K H v ra fa rs fm) (hp : SqL K H p (kT l)) (tr : ∀ e ∈ l, SqT K H e.1 [.int e.2.1, oV e.2.2.1, .int e.2.2.2]) (hl : l.length ≤ 1000)
    (h : ∀ G H', Same H H' → H G = none → H' G = some (.lst ((gone fm (plT l)).map V.int)) → Q (.ref G) H') : sp_others_of K [.ref v, .ref p] H Q E := by
  refine i_others_of ?_
  unfold t_others_of
  walk_at "vv"
  refine x_gList hp ?_
  refine lc_pairs (ns := l) (fun e => V.ref e.1) (fun e => e.2.1) (by simp) hp (by omega) (fun e H2 Q2 he s k => ?_) fun D H2 as hD s2 hDl pr => ?_
  · walk_at "vv"
    refine x_ixT (Same.sqt s (tr e he)) (v := .int e.2.1) rfl ?_
    walk_at "vv"
    exact ⟨sl (m := 2) (Nat.le_refl _), fun q hq => k q _ hq rfl⟩
  have e1 : l.map (fun e : Addr × (Int × Option Int × Int) => e.2.1) = pk (plT l) := by unfold pk plT; rw [List.map_map]; rfl
  rw [e1] at pr
  walk_at "vv"
  refine ⟨D, as, _, rfl, SqL.of hDl, pr, fun m hm => ?_⟩
  rw [merge0]
  have s3 : Same H (upd H2 m (.dK (tKV (dd (pk (plT l)))))) := Same.trans s2 (Same.new hm)
  walk_at "vv"
  refine x_ixT (Same.sqt s3 W.tv) at1 ?_
  refine ⟨fa, kF fm, keys fm, rfl, Same.rd s3 W.fd, kF_keys fm, fun ys y h1 h2 hy => ?_⟩
  have ey := srt_of h1 h2
  subst ey
  have nmy : m ≠ y := ne_of_none upd_same hy
  refine x_gList (xs := (srt (keys fm)).map V.int) (SqL.of upd_same) ?_
  have sl2 : (srt (keys fm)).length ≤ 100 := by rw [(srt_perm _).length_eq]; have := W.ln.1; simpa [keys] using this
  refine L_lcI (fun t => if (!decide (t ∈ pk (plT l))) = true then some (.int t) else none) (ns := srt (keys fm)) (SqL.of upd_same) (by omega) (fun t H3 _ s R hR => ?_) (fun G H3 hG s e => ?_)
  · refine x_own (by simp) fun _ => ?_
    walk_at "vv"
    refine x_dnotinK (y := t) (kvs := tKV (dd (pk (plT l)))) (.inl (s _ _ (by rw [upd_ne nmy]; exact upd_same))) ?_
    walk_at "vv"
    rw [tKV_some]
    have e2 : decide (t ∈ dd (pk (plT l))) = decide (t ∈ pk (plT l)) := by simp only [dd_mem]
    rw [e2]
    have hR' := hR H3 (Same.refl _)
    revert hR'
    cases decide (t ∈ pk (plT l)) with
    | true => exact fun hR' => x_iteF hR'
    | false =>
      intro hR'
      refine x_iteT ?_
      walk_at "vv"
      exact hR'
  · rw [fm_if (fun t => !decide (t ∈ pk (plT l)))] at e
    exact h G H3 (Same.trans (Same.trans s3 (Same.new hy)) s) (s3.free (by rw [upd_ne] at hG; exact hG; exact fun z => by rw [z, upd_same] at hG; cases hG)) e
/-! ### round_paper -/
theorem Trs.sq {H : Hp} {l : Tst} (t : Trs H l) : ∀ e ∈ l, SqT K H e.1 [.int e.2.1, oV e.2.2.1, .int e.2.2.2] := fun e he => SqT.of (t e he)
theorem c_round_paper {v ra fa b : Addr} {rs : List (Option Int)} {fm : Fm} {ns : List Int} (W : VW K H v ra fa rs fm) (hb : SqL K H b (ns.map V.int)) (hl : rs.length + ns.length ≤ 100)
    (h1 : OkV (rs ++ (srt (dd ns)).map some) fm → ∀ T D G (l : Tst) H', Same H H' → H T = none → H D = none → H G = none → D ≠ G → H' T = some (.tup [.ref D, .ref G]) → H' D = some (.lst (kT l)) → Trs H' l →
      plT l = lastSteps (rs ++ (srt (dd ns)).map some) fm → Gd fm (plT l) → H' G = some (.lst ((gone fm (plT l)).map V.int)) → Q (.ref T) H')
    (h2 : ¬ OkV (rs ++ (srt (dd ns)).map some) fm → ∀ H', Lf H H' → E (BV K) none H') : sp_round_paper K [.ref v, .ref b] H Q E := by
  refine i_round_paper ?_
  unfold t_round_paper
  walk_at "vv"
  refine c_wider W hb hl fun v' ra' H1 s1 W1 => ?_
  walk_at "vv"
  refine c_reach_paper W1 (fun ok D l H2 s2 hD hDl tr e g => ?_) (fun nok H2 s2 => h2 nok H2 (Lf.trans (Same.lf s1) s2))
  walk_at "vv"
  refine c_others (W.le (Same.le (Same.trans s1 s2))) (SqL.of hDl) tr.sq (by have := g.len; have := W.ln.1; rw [len_plT] at *; omega) fun G H3 s3 hG hGl => ?_
  walk_at "vv"
  refine ⟨sl (m := 2) (Nat.le_refl _), fun T hT => ?_⟩
  have s4 := Same.new (o := .tup [.ref D, .ref G]) hT
  have s12 := Same.trans s1 s2
  have s123 := Same.trans s12 s3
  exact h1 ok T D G l _ (Same.trans s123 s4) (s123.free hT) (s1.free hD) (s12.free hG) (fun z => by subst z; rw [hDl] at hG; cases hG) upd_same (s4 _ _ (s3 _ _ hDl)) ((tr.same s3).same s4) e g (s4 _ _ hGl)
/-! ### what right steps are -/
def told (rs : List (Option Int)) (fm : Fm) : Option Int → List (Option Int)
  | none => rs
  | some x => rowOf fm x
/-- one step, given the things ahead -/
structure StepOk (rs : List (Option Int)) (fm : Fm) (ahead : List Int) (t : Int) (f : Option Int) (k : Int) : Prop where
  new : t ∉ ahead
  src : ∀ x, f = some x → x ∈ ahead
  at_ : ∃ n : Nat, k = n ∧ (told rs fm f)[n]? = some (some t)
def StepsOk (rs : List (Option Int)) (fm : Fm) (s : Pst) : Prop := ∀ (i : Nat) t f k, s[i]? = some (t, f, k) → StepOk rs fm (pk (s.take i)) t f k
structure Closed (rs : List (Option Int)) (fm : Fm) (ks : List Int) : Prop where
  rt : ∀ t, some t ∈ rs → t ∈ ks
  st : ∀ x ∈ ks, ∀ t, some t ∈ rowOf fm x → t ∈ ks
theorem mem_somes {l : List (Option Int)} {t : Int} : t ∈ somes l ↔ some t ∈ l := by
  unfold somes
  rw [List.mem_filterMap]
  constructor
  · rintro ⟨o, ho, e⟩
    rw [show o = some t from e] at ho; exact ho
  · exact fun h => ⟨_, h, rfl⟩
theorem atI_nat {xs : List V} {n : Nat} {v : V} (h : xs[n]? = some v) : atI xs (n : Int) = some v := by
  have hn := lt_of_get h
  unfold atI
  have e : ixN xs.length (n : Int) = some n := by
    unfold ixN
    simp
    omega
  rw [e]
  exact h
theorem c_step_stands {v ra fa p q : Addr} {rs : List (Option Int)} {fm : Fm} {ks : List Int} {t k : Int} {f : Option Int} (W : VW K H v ra fa rs fm) (hp : Rd H p (.dK (tKV ks))) (hq : SqT K H q [.int t, oV f, .int k])
    (ok : StepOk rs fm ks t f k) (sub : ∀ x ∈ ks, x ∈ keys fm) (h : Q (.bl true) H) : sp_step_stands K [.ref v, .ref p, .ref q] H Q E := by
  obtain ⟨n, rfl, hn⟩ := ok.at_
  have fin : ∀ (a : Addr) (σ : L2.St), SqL K H a ((told rs fm f).map oV) → σ[6]? = some (some (.ref a)) → σ[5]? = some (some (.int (n : Int))) → σ[3]? = some (some (.int t)) →
      (tAndV (tChain oLe oLt (tC (.int 0)) (tVar 5) (tCB (cLenSeq K) (tCons (tVar 6) tNil))) (tOp rEq (tOp (rIxL K) (tVar 6) (tVar 5)) (tVar 3))) σ H Q := by
    intro a σ ha e6 e5 e3
    have l1 := lt_of_get hn
    walk_at "vv"
    refine x_var e5 ?_
    refine x_rI0 ?_
    walk_at "vv"
    rw [show decide ((0 : Int) ≤ (n : Int)) = true from decide_eq_true (Int.natCast_nonneg n)]
    refine x_iteT ?_
    walk_at "vv"
    refine x_var e6 ?_
    walk_at "vv"
    refine x_lenL ha ?_
    refine x_rI0 ?_
    rw [show decide ((n : Int) < (((told rs fm f).map oV).length : Int)) = true from decide_eq_true (by rw [List.length_map]; omega)]
    walk_at "vv"
    refine x_var e6 ?_
    refine x_var e5 ?_
    refine x_ixL ha (v := .int t) (atI_nat (by rw [List.getElem?_map, hn]; rfl)) ?_
    refine x_var e3 ?_
    refine x_rEq rfl ?_
    rw [show decide (V.int t = V.int t) = true from decide_eq_true rfl]
    exact h
  refine i_step_stands ?_
  unfold t_step_stands
  walk_at "vv"
  refine x_unpack hq rfl ?_
  walk_at "vv"
  refine x_ixT W.tv at0 ?_
  walk_at "vv"
  cases f with
  | none =>
    refine x_iteF ?_
    walk_at "vv"
    rw [show (!decide (V.int (n : Int) = V.non)) = true from by simp]
    refine x_iteT ?_
    refine fin ra _ W.rt ?_ ?_ ?_ <;> rfl
  | some x =>
    refine x_iteT ?_
    have hx := ok.src x rfl
    walk_at "vv"
    refine x_dnotinK (y := x) hp ?_
    walk_at "vv"
    rw [tKV_some]
    refine x_iteN (fun z => absurd hx z) fun _ => ?_
    walk_at "vv"
    refine x_ixT W.tv at1 ?_
    walk_at "vv"
    obtain ⟨e, he, rfl⟩ := key_row (sub x hx)
    refine x_dgetK (y := e.1) W.fd (v := .ref e.2.1) (by rw [val_kF, row_nd W.nd he]; rfl) ?_
    walk_at "vv"
    rw [show (!decide (V.int (n : Int) = V.non)) = true from by simp]
    refine x_iteT ?_
    refine fin e.2.1 _ ?_ ?_ ?_ ?_
    rotate_left
    · rfl
    · rfl
    · rfl
    show SqL K H e.2.1 ((rowOf fm e.1).map oV)
    rw [rowOf_mem W.nd he]
    exact W.rw e he
/-! ### closed_over -/
def inners (fm : Fm) (ks : List Int) : List Int := ks.flatMap fun x => somes (rowOf fm x)
theorem somes_len (l : List (Option Int)) : (somes l).length ≤ l.length := List.length_filterMap_le _ _
theorem inners_len (fm : Fm) (b : Nat) (h : ∀ x, (rowOf fm x).length ≤ b) : ∀ ks : List Int, (inners fm ks).length ≤ ks.length * b
  | [] => by simp [inners]
  | x :: r => by
    have e : inners fm (x :: r) = somes (rowOf fm x) ++ inners fm r := by simp [inners]
    have ih := inners_len fm b h r
    have h1 := somes_len (rowOf fm x)
    have h2 := h x
    rw [e, List.length_append, List.length_cons, Nat.succ_mul]
    omega
theorem row_short {v ra fa : Addr} {rs : List (Option Int)} {fm : Fm} (W : VW K H v ra fa rs fm) (x : Int) : (rowOf fm x).length ≤ 100 := by
  unfold rowOf
  cases h : row fm x with
  | none => simp
  | some e => exact W.ln.2.2 e (row_mem h).1
theorem c_closed_over {v ra fa p : Addr} {rs : List (Option Int)} {fm : Fm} {ks : List Int} (W : VW K H v ra fa rs fm) (hp : H p = some (.dK (tKV ks))) (sub : ∀ x ∈ ks, x ∈ keys fm) (kl : ks.length ≤ 100) (cl : Closed rs fm ks)
    (h : ∀ H', Same H H' → Q (.bl true) H') : sp_closed_over K [.ref v, .ref p] H Q E := by
  refine i_closed_over ?_
  unfold t_closed_over
  walk_at "vv"
  refine c_root_things W fun D H1 hD s1 hDl => ?_
  walk_at "vv"
  refine x_lock2 (.inl (s1 _ _ hp)) fun od H2 U L => ?_
  walk_at "vv"
  have nDp : D ≠ p := (ne_of_none hp hD).symm
  have hD2 : H2 D = some (.lst ((somes rs).map V.int)) := by
    rcases L.le _ _ (fun _ _ z => by cases z) (.inl hDl) with q | ⟨o, q⟩
    · exact q
    · exfalso
      have := L.back H2 (Same.refl _) _ _ hDl
      rw [L.else_ _ _ nDp, q] at this
      cases this
  have l2 : Le H H2 := Le.trans (Same.le s1) L.le
  have W2 := W.le l2
  refine x_gKeys L.at_ ?_
  refine L_keys (fun i σ H' => ∃ (a3 a4 : Option L2.V) (H3 : Hp), σ = [some (.ref v), some (.ref p), some (.ref D), a3, a4] ∧ Same H2 H3 ∧ H' = upd H3 D (.lst ((somes rs ++ inners fm (ks.take i)).map V.int)))
    ⟨_, _, H2, rfl, Same.refl _, by rw [List.take_zero, show inners fm [] = [] from rfl, List.append_nil]; exact (upd_own hD2).symm⟩ (fun i σ H' _ ⟨_, _, H3, _, s, e⟩ => by rw [e, upd_ne nDp.symm]; exact s _ _ L.at_) ?_ ?_
  · rintro i k w σ H' hi ⟨a3, a4, H3, rfl, s3, rfl⟩
    obtain ⟨x, hx, e1⟩ := get_map hi
    cases e1
    have hxm : x ∈ ks := List.mem_of_getElem? hx
    obtain ⟨e, he, rfl⟩ := key_row (sub x hxm)
    show tDrop _ _ _ _
    walk_at "vv"
    refine ⟨x_tyL upd_same, ?_⟩
    walk_at "vv"
    have lx : Le H (upd H3 D (.lst ((somes rs ++ inners fm (ks.take i)).map V.int))) := (Le.trans l2 (Same.le s3)).put hD
    have W3 := W.le lx
    refine x_ixT W3.tv at1 ?_
    walk_at "vv"
    refine x_dgetK (y := e.1) W3.fd (v := .ref e.2.1) (by rw [val_kF, row_nd W.nd he]; rfl) ?_
    refine x_gList (W3.rw e he) ?_
    refine lc_somes (by simp) (W3.rw e he) (by have := W.ln.2.2 e he; omega) fun D2 H4 hD2n s4 hl2 => ?_
    walk_at "vv"
    have hD4 := s4 _ _ (upd_same (H := H3) (a := D) (o := .lst ((somes rs ++ inners fm (ks.take i)).map V.int)))
    have tl : (ks.take i).length ≤ 100 := by rw [List.length_take]; omega
    have il := inners_len fm 100 (row_short W) (ks.take i)
    have r1 := somes_len rs
    have r2 := W.ln.2.1
    have r3 := somes_len e.2.2
    have r4 := W.ln.2.2 e he
    have m1 : (ks.take i).length * 100 ≤ 100 * 100 := Nat.mul_le_mul_right _ tl
    refine x_extend hD4 hl2 (by rw [List.length_map, List.length_map, List.length_append, sizeLine_eq]; omega) ?_
    refine ⟨_, _, upd H4 D (.lst ((somes rs).map V.int)), rfl, fun b o hb => ?_, ?_⟩
    · by_cases hbD : b = D
      · subst hbD; rw [hD2] at hb; cases hb; exact upd_same
      · rw [upd_ne hbD]; exact s4 _ _ (by rw [upd_ne hbD]; exact s3 _ _ hb)
    · rw [upd_upd, take_snoc hx]
      have e5 : inners fm (ks.take i ++ [e.1]) = inners fm (ks.take i) ++ somes e.2.2 := by
        unfold inners
        rw [List.flatMap_append, List.flatMap_cons, List.flatMap_nil, List.append_nil, rowOf_mem W.nd he]
      rw [e5, ← List.map_append, List.append_assoc]
  · rintro σ H' ⟨a3, a4, H3, rfl, s3, rfl⟩
    have tl : (tKV ks).length = ks.length := by unfold tKV; rw [List.length_map]
    refine ⟨by rw [upd_ne nDp.symm]; exact s3 _ _ L.at_, ?_⟩
    rw [L.comm _ _ _ nDp, tl, List.take_length]
    have s5 : Same H (U H3) := Same.trans s1 (L.back _ s3)
    have hp5 := s5 _ _ hp
    walk_at "vv"
    refine x_gList (xs := (somes rs ++ inners fm ks).map V.int) (SqL.of upd_same) ?_
    have il := inners_len fm 100 (row_short W) ks
    have m1 : ks.length * 100 ≤ 100 * 100 := Nat.mul_le_mul_right _ kl
    have r1 := somes_len rs
    have r2 := W.ln.2.1
    refine L_lcI (fun t => some (.bl (decide (t ∈ ks)))) (ns := somes rs ++ inners fm ks) (SqL.of upd_same) (by rw [List.length_append]; omega) (fun t H4 _ s R hR => ?_) fun D3 H4 hD3 s6 e6 => ?_
    · refine x_own (by simp) fun _ => ?_
      walk_at "vv"
      refine x_dinK (y := t) (kvs := tKV ks) (.inl (s _ _ (by rw [upd_ne nDp.symm]; exact hp5))) ?_
      rw [tKV_some]
      exact hR H4 (Same.refl _)
    · walk_at "vv"
      have e7 : (somes rs ++ inners fm ks).filterMap (fun t => some (V.bl (decide (t ∈ ks)))) = ((somes rs ++ inners fm ks).map fun t => decide (t ∈ ks)).map V.bl := by
        rw [List.map_map, List.filterMap_eq_map']
        rfl
      rw [e7] at e6
      refine ⟨D3, _, rfl, SqL.of e6, ?_⟩
      have e8 : ((somes rs ++ inners fm ks).map fun t => decide (t ∈ ks)).all id = true := by
        rw [List.all_eq_true]
        intro b hb
        obtain ⟨t, ht, rfl⟩ := List.mem_map.mp hb
        refine decide_eq_true ?_
        rcases List.mem_append.mp ht with z | z
        · exact cl.rt t (mem_somes.mp z)
        · obtain ⟨x, hx, hx2⟩ := List.mem_flatMap.mp z
          exact cl.st x hx t (mem_somes.mp hx2)
      rw [e8]
      exact h _ (Same.trans (Same.put s5 hD) s6)
end P70

set_option Elab.async false
set_option linter.all false
set_option maxRecDepth 100000
set_option maxHeartbeats 1000000
namespace P70
open PySem PySem.Spec PyProof.Rows L2 SX0 R_k70
variable {K : PySem.W.Frag} {H : Hp} {Q : VK} {E : XK}
theorem pk_take (s : Pst) (i : Nat) : pk (s.take i) = (pk s).take i := by unfold pk; rw [List.map_take]
theorem SqL.here {K : PySem.W.Frag} {H : Hp} {p : Addr} {xs : List V} (h : H p = some (.lst xs)) : SqL K H p xs := SqL.of h
theorem c_paper_ok {v ra fa p : Addr} {rs : List (Option Int)} {fm : Fm} {l : Tst} (W : VW K H v ra fa rs fm) (ok : OkV rs fm) (hp : SqL K H p (kT l)) (tr : ∀ e ∈ l, SqT K H e.1 [.int e.2.1, oV e.2.2.1, .int e.2.2.2])
    (g : Gd fm (plT l)) (st : StepsOk rs fm (plT l)) (cl : Closed rs fm (pk (plT l))) (h : ∀ H', Same H H' → Q (.bl true) H') : sp_paper_judged K [.ref v, .ref p] H Q E := by
  refine i_paper_judged ?_
  unfold t_paper_judged
  walk_at "vv"
  refine c_look_at_view W (fun _ H1 s1 => ?_) fun nok => absurd ok nok
  walk_at "vv"
  intro m hm
  walk_at "vv"
  have s2 : Same H (upd H1 m (.dK [])) := Same.trans s1 (Same.new hm)
  have hm0 := s1.free hm
  refine x_gList (Same.sql s2 hp) ?_
  refine L_list (xs := kT l) (fun i σ H' => ∃ (a3 : Option L2.V) (H3 : Hp), σ = [some (.ref v), some (.ref p), some (.ref m), a3] ∧ Same H H3 ∧ H' = upd H3 m (.dK (tKV (pk (plT (l.take i))))))
    ⟨_, H1, rfl, s1, rfl⟩ (fun i σ H' _ ⟨_, H3, _, s, e⟩ => by rw [e]; exact Same.sql (Same.put s hm0) hp) ?_ ?_
  · rintro i x σ H' hi ⟨a3, H3, rfl, s3, rfl⟩
    obtain ⟨e, he, rfl⟩ := get_map hi
    have hem : e ∈ l := List.mem_of_getElem? he
    have sx := Same.put (o := .dK (tKV (pk (plT (l.take i))))) s3 hm0
    have te := Same.sqt sx (tr e hem)
    have e1 : (plT l)[i]? = some (e.2.1, e.2.2.1, e.2.2.2) := by unfold plT; rw [List.getElem?_map, he]; rfl
    have ok1 := st i _ _ _ e1
    have e2 : (plT l).take i = plT (l.take i) := by unfold plT; rw [List.map_take]
    rw [e2] at ok1
    show tIfS _ _ _ _ _ _
    walk_at "vv"
    refine x_ixT te (v := .int e.2.1) rfl ?_
    walk_at "vv"
    refine x_iteF ?_
    walk_at "vv"
    refine x_ixT te (v := .int e.2.1) rfl ?_
    walk_at "vv"
    refine x_dinK (y := e.2.1) (.inl upd_same) ?_
    walk_at "vv"
    rw [tKV_some, decide_eq_false ok1.new]
    refine x_iteF ?_
    walk_at "vv"
    refine c_step_stands (W.le (Same.le sx)) (.inl upd_same) te ok1 (fun x hx => g.sub x ?_) ?_
    · rw [← e2, pk_take] at hx
      exact List.mem_of_mem_take hx
    walk_at "vv"
    refine x_iteF ?_
    walk_at "vv"
    refine x_ixT te (v := .int e.2.1) rfl ?_
    have gl := g.len
    have wl := W.ln.1
    have tl : (tKV (pk (plT (l.take i)))).length ≤ (plT l).length := by
      unfold tKV pk plT
      rw [List.length_map, List.length_map, List.length_map, List.length_map, List.length_take]
      omega
    refine x_dputK (y := e.2.1) upd_same (by rw [sizeLine_eq]; omega) ?_
    refine ⟨_, H3, rfl, s3, ?_⟩
    rw [upd_upd, tKV_put, if_neg ok1.new, take_snoc he]
    have e3 : pk (plT (l.take i ++ [e])) = pk (plT (l.take i)) ++ [e.2.1] := by simp [pk, plT]
    rw [e3]
  · rintro σ H' ⟨a3, H3, rfl, s3, rfl⟩
    have kl : (kT l).length = l.length := by unfold kT; rw [List.length_map]
    rw [kl, List.take_length]
    have sx := Same.put (o := .dK (tKV (pk (plT l)))) s3 hm0
    walk_at "vv"
    have gl := g.len
    have wl := W.ln.1
    refine c_closed_over (W.le (Same.le sx)) upd_same g.sub (by unfold pk; rw [List.length_map]; omega) cl fun H4 s4 => ?_
    walk_at "vv"
    exact h _ (Same.trans sx s4)
theorem c_paper_bad {v ra fa : Addr} {b : V} {rs : List (Option Int)} {fm : Fm} (W : VW K H v ra fa rs fm) (nok : ¬ OkV rs fm) (h : ∀ H', Lf H H' → E (BV K) none H') : sp_paper_judged K [.ref v, b] H Q E := by
  refine i_paper_judged ?_
  unfold t_paper_judged
  walk_at "vv"
  exact c_look_at_view W (fun ok => absurd ok nok) fun _ => h
theorem shaped_ints (ns : List Int) : SeqAt.shaped (.list (ns.map PyData.int)) = true := by
  have h1 : ∀ ns : List Int, PyData.canLayAll0 (ns.map PyData.int) = true := by
    intro ns
    induction ns with
    | nil => rfl
    | cons a r ih => simp [PyData.canLayAll0, PyData.canLay0, ih]
  have h2 : ∀ ns : List Int, PyData.depthAll (ns.map PyData.int) ≤ 1 := by
    intro ns
    induction ns with
    | nil => simp [PyData.depthAll]
    | cons a r ih => simp [PyData.depthAll, PyData.depth]; omega
  unfold SeqAt.shaped
  rw [Bool.and_eq_true]
  refine ⟨?_, decide_eq_true ?_⟩
  · simp only [PyData.canLay0]; exact h1 ns
  · simp only [PyData.depth]; have := h2 ns; omega
theorem dp_ints {K : PySem.W.Frag} {H : Hp} {p : Addr} {ns : List Int} (h : SqL K H p (ns.map V.int)) : Dp K H (.ref p) (.list (ns.map PyData.int)) := by
  refine .lst h ?_
  clear h
  induction ns with
  | nil => exact .nil
  | cons a r ih => exact .cons (.int a) ih
theorem eqv_ints (ns ms : List Int) : PyData.eqv (.list (ns.map PyData.int)) (.list (ms.map PyData.int)) = decide (ns = ms) := by
  simp only [PyData.eqv]
  exact PySem.W.ked_eqvAll ns ms
theorem c_round_judged {v ra fa b T D G : Addr} {rs : List (Option Int)} {fm : Fm} {ns : List Int} {l : Tst} (W : VW K H v ra fa rs fm) (hb : SqL K H b (ns.map V.int)) (hl : rs.length + ns.length ≤ 100)
    (hT : SqT K H T [.ref D, .ref G]) (hD : SqL K H D (kT l)) (hG : SqL K H G ((gone fm (plT l)).map V.int)) (tr : ∀ e ∈ l, SqT K H e.1 [.int e.2.1, oV e.2.2.1, .int e.2.2.2]) (ok : OkV (rs ++ (srt (dd ns)).map some) fm)
    (g : Gd fm (plT l)) (st : StepsOk (rs ++ (srt (dd ns)).map some) fm (plT l)) (cl : Closed (rs ++ (srt (dd ns)).map some) fm (pk (plT l))) (h : ∀ H', Same H H' → Q (.bl true) H') : sp_round_judged K [.ref v, .ref b, .ref T] H Q E := by
  refine i_round_judged ?_
  unfold t_round_judged
  walk_at "vv"
  refine x_unpack hT rfl ?_
  walk_at "vv"
  refine c_wider W hb hl fun v' ra' H1 s1 W1 => ?_
  walk_at "vv"
  refine c_paper_ok W1 ok (Same.sql s1 hD) (fun e he => Same.sqt s1 (tr e he)) g st cl fun H2 s2 => ?_
  walk_at "vv"
  have s12 := Same.trans s1 s2
  refine ⟨G, _, rfl, .inl (Same.sql s12 hG), fun G2 hG2 => ?_⟩
  have s3 := Same.trans s12 (Same.new (o := .lst ((gone fm (plT l)).map V.int)) hG2)
  walk_at "vv"
  have gl := g.len
  have wl := W.ln.1
  refine c_others (W.le (Same.le s3)) (Same.sql s3 hD) (fun e he => Same.sqt s3 (tr e he)) (by rw [len_plT] at gl; omega) fun G3 H4 s4 hG3 e4 => ?_
  refine .inl ⟨_, _, dp_ints (SqL.of (s4 _ _ upd_same)), dp_ints (SqL.of e4), shaped_ints _, shaped_ints _, ?_⟩
  rw [eqv_ints, decide_eq_true rfl]
  exact h _ (Same.trans s3 s4)
theorem c_round_judged_bad {v ra fa b T : Addr} {D G : V} {rs : List (Option Int)} {fm : Fm} {ns : List Int} (W : VW K H v ra fa rs fm) (hb : SqL K H b (ns.map V.int)) (hl : rs.length + ns.length ≤ 100)
    (hT : SqT K H T [D, G]) (nok : ¬ OkV (rs ++ (srt (dd ns)).map some) fm) (h : ∀ H', Lf H H' → E (BV K) none H') : sp_round_judged K [.ref v, .ref b, .ref T] H Q E := by
  refine i_round_judged ?_
  unfold t_round_judged
  walk_at "vv"
  refine x_unpack hT rfl ?_
  walk_at "vv"
  refine c_wider W hb hl fun v' ra' H1 s1 W1 => ?_
  walk_at "vv"
  exact c_paper_bad W1 nok fun H2 s2 => h H2 (Lf.trans (Same.lf s1) s2)
end P70

set_option Elab.async false
set_option linter.all false
set_option maxRecDepth 100000
set_option maxHeartbeats 1000000
namespace P70
open PySem PySem.Spec PyProof.Rows L2 SX0 R_k70
/-! ### the steps are right and reach everything -/
theorem so_snoc {rs : List (Option Int)} {fm : Fm} {s : Pst} {t : Int} {f : Option Int} {k : Int} (a : StepsOk rs fm s) (b : StepOk rs fm (pk s) t f k) : StepsOk rs fm (s ++ [(t, f, k)]) := by
  intro i t' f' k' h
  rcases Nat.lt_or_ge i s.length with hi | hi
  · rw [List.getElem?_append_left hi] at h
    rw [List.take_append_of_le_length (by omega)]
    exact a i t' f' k' h
  · have l := lt_of_get h
    rw [List.length_append, List.length_singleton] at l
    have e : i = s.length := by omega
    subst e
    rw [List.getElem?_append_right (Nat.le_refl _)] at h
    simp at h
    obtain ⟨rfl, rfl, rfl⟩ := h
    rw [List.take_append_of_le_length (Nat.le_refl _), List.take_length]
    exact b
structure Mid (rs : List (Option Int)) (fm : Fm) (s : Pst) : Prop where
  g : Gd fm s
  so : StepsOk rs fm s
theorem addR_mid {rs : List (Option Int)} {fm : Fm} (ok : Ok fm rs) : ∀ i, i ≤ rs.length → Mid rs fm ((rs.take i).foldl stR ([], 0)).1 ∧ ∀ t, some t ∈ rs.take i → t ∈ pk ((rs.take i).foldl stR ([], 0)).1
  | 0, _ => ⟨⟨⟨by simp [pk], fun t ht => by simp [pk] at ht⟩, fun i t f k h => by simp at h⟩, fun t ht => by simp at ht⟩
  | i + 1, hi => by
    obtain ⟨m, c⟩ := addR_mid ok i (by omega)
    have ho : rs[i]? = some rs[i] := List.getElem?_eq_getElem (by omega)
    have turn := roots_turn ho
    rw [turn, take_snoc ho]
    generalize ((rs.take i).foldl stR ([], 0)).1 = s at m c
    cases e : rs[i] with
    | none =>
      refine ⟨m, fun t ht => ?_⟩
      rcases List.mem_append.mp ht with z | z
      · exact c t z
      · simp at z
    | some t =>
      rw [e] at ho
      by_cases h : t ∈ pk s
      · have e2 : (stR (s, i) (some t)).1 = s := by show (if t ∈ pk s then s else _) = s; rw [if_pos h]
        rw [e2]
        refine ⟨m, fun t' ht => ?_⟩
        rcases List.mem_append.mp ht with z | z
        · exact c t' z
        · simp at z; subst z; exact h
      · have e2 : (stR (s, i) (some t)).1 = s ++ [(t, none, (i : Int))] := by show (if t ∈ pk s then s else _) = _; rw [if_neg h]
        rw [e2]
        refine ⟨⟨m.g.app h (ok t (List.mem_of_getElem? ho)), so_snoc m.so ⟨h, fun x z => (by cases z), ⟨i, rfl, ho⟩⟩⟩, fun t' ht => ?_⟩
        rw [pk_app]
        rcases List.mem_append.mp ht with z | z
        · exact List.mem_append_left _ (c t' z)
        · simp at z; subst z; simp
/-- what a row adds: (s, bh) to (s', bh') -/
structure Grow (rs : List (Option Int)) (fm : Fm) (s : Pst) (bh : List Int) (s' : Pst) (bh' : List Int) : Prop where
  m : Mid rs fm s'
  up : ∀ x ∈ pk s, x ∈ pk s'
  bh_ : ∀ x ∈ bh, x ∈ bh'
  new : ∀ x ∈ pk s', x ∈ pk s ∨ x ∈ bh'
  sub : ∀ x ∈ bh', x ∈ bh ∨ x ∈ pk s'
theorem Grow.refl {rs : List (Option Int)} {fm : Fm} {s : Pst} {bh : List Int} (m : Mid rs fm s) : Grow rs fm s bh s bh := ⟨m, fun _ h => h, fun _ h => h, fun _ h => .inl h, fun _ h => .inl h⟩
theorem Grow.trans {rs : List (Option Int)} {fm : Fm} {s1 s2 s3 : Pst} {b1 b2 b3 : List Int} (a : Grow rs fm s1 b1 s2 b2) (b : Grow rs fm s2 b2 s3 b3) : Grow rs fm s1 b1 s3 b3 :=
  ⟨b.m, fun x h => b.up x (a.up x h), fun x h => b.bh_ x (a.bh_ x h), fun x h => by
    rcases b.new x h with z | z
    · rcases a.new x z with y | y
      · exact .inl y
      · exact .inr (b.bh_ x y)
    · exact .inr z, fun x h => by
    rcases b.sub x h with z | z
    · rcases a.sub x z with y | y
      · exact .inl y
      · exact .inr (b.up x y)
    · exact .inr z⟩
theorem row_grow {rs : List (Option Int)} {fm : Fm} {src : Int} {s : Pst} {bh : List Int} {r : List (Option Int)} (hr : rowOf fm src = r) (ok : Ok fm r) (m0 : Mid rs fm s) (hs : src ∈ pk s) :
    ∀ i, i ≤ r.length → Grow rs fm s bh ((r.take i).foldl (stB src) ((s, bh), 0)).1.1 ((r.take i).foldl (stB src) ((s, bh), 0)).1.2 ∧ ∀ t, some t ∈ r.take i → t ∈ pk ((r.take i).foldl (stB src) ((s, bh), 0)).1.1
  | 0, _ => ⟨Grow.refl m0, fun t ht => by simp at ht⟩
  | i + 1, hi => by
    obtain ⟨m, c⟩ := row_grow (bh := bh) hr ok m0 hs i (by omega)
    have ho : r[i]? = some r[i] := List.getElem?_eq_getElem (by omega)
    have turn := row_turn (src := src) (sb := (s, bh)) ho
    rw [turn, take_snoc ho]
    generalize ((r.take i).foldl (stB src) ((s, bh), 0)).1 = sb at m c
    obtain ⟨s1, b1⟩ := sb
    cases e : r[i] with
    | none =>
      refine ⟨m, fun t ht => ?_⟩
      rcases List.mem_append.mp ht with z | z
      · exact c t z
      · simp at z
    | some t =>
      rw [e] at ho
      by_cases h : t ∈ pk s1
      · have e2 : (stB src ((s1, b1), i) (some t)).1 = (s1, b1) := by show (if t ∈ pk s1 then (s1, b1) else _) = _; rw [if_pos h]
        rw [e2]
        refine ⟨m, fun t' ht => ?_⟩
        rcases List.mem_append.mp ht with z | z
        · exact c t' z
        · simp at z; subst z; exact h
      · have e2 : (stB src ((s1, b1), i) (some t)).1 = (s1 ++ [(t, some src, (i : Int))], b1 ++ [t]) := by show (if t ∈ pk s1 then (s1, b1) else _) = _; rw [if_neg h]
        rw [e2]
        have step : Grow rs fm s1 b1 (s1 ++ [(t, some src, (i : Int))]) (b1 ++ [t]) := by
          refine ⟨⟨m.m.g.app h (ok t (List.mem_of_getElem? ho)), so_snoc m.m.so ⟨h, fun x z => ?_, ⟨i, rfl, ?_⟩⟩⟩, fun x hx => ?_, fun x hx => List.mem_append_left _ hx, fun x hx => ?_, fun x hx => ?_⟩
          · cases z; exact m.up _ hs
          · show (rowOf fm src)[i]? = _
            rw [hr]; exact ho
          · rw [pk_app]; exact List.mem_append_left _ hx
          · rw [pk_app] at hx
            rcases List.mem_append.mp hx with z | z
            · exact .inl z
            · exact .inr (List.mem_append_right _ z)
          · rw [pk_app]
            rcases List.mem_append.mp hx with z | z
            · exact .inl z
            · exact .inr (List.mem_append_right _ z)
        refine ⟨m.trans step, fun t' ht => ?_⟩
        rcases List.mem_append.mp ht with z | z
        · exact step.up _ (c t' z)
        · simp at z; subst z; show t' ∈ pk (s1 ++ _); rw [pk_app]; simp
theorem okrow {rs : List (Option Int)} {fm : Fm} (ok : OkV rs fm) (x : Int) : Ok fm (rowOf fm x) := by
  unfold rowOf
  cases h : row fm x with
  | none => intro t ht; simp at ht
  | some e => exact ok.2 e (row_mem h).1
theorem edge_grow {rs : List (Option Int)} {fm : Fm} (ok : OkV rs fm) : ∀ (edge : List Int) (s : Pst) (bh : List Int), Mid rs fm s → (∀ x ∈ edge, x ∈ pk s) →
    Grow rs fm s bh (addEdge fm (s, bh) edge).1 (addEdge fm (s, bh) edge).2 ∧ ∀ x ∈ edge, ∀ t, some t ∈ rowOf fm x → t ∈ pk (addEdge fm (s, bh) edge).1
  | [], s, bh, m, _ => ⟨Grow.refl m, fun x hx => by simp at hx⟩
  | x :: r, s, bh, m, he => by
    obtain ⟨g1, c1⟩ := row_grow (rs := rs) (bh := bh) (src := x) rfl (okrow ok x) m (he x List.mem_cons_self) (rowOf fm x).length (Nat.le_refl _)
    rw [List.take_length] at g1 c1
    have e1 : addEdge fm (s, bh) (x :: r) = addEdge fm (addRow x (s, bh) (rowOf fm x)) r := rfl
    rw [e1]
    obtain ⟨g2, c2⟩ := edge_grow ok r (addRow x (s, bh) (rowOf fm x)).1 (addRow x (s, bh) (rowOf fm x)).2 g1.m fun y hy => g1.up y (he y (List.mem_cons_of_mem _ hy))
    refine ⟨g1.trans g2, fun y hy t ht => ?_⟩
    rcases List.mem_cons.mp hy with z | z
    · subst z; exact g2.up t (c1 t ht)
    · exact c2 y z t ht
structure BI (rs : List (Option Int)) (fm : Fm) (s : Pst) (edge : List Int) : Prop where
  m : Mid rs fm s
  rt : ∀ t, some t ∈ rs → t ∈ pk s
  ed : ∀ x ∈ edge, x ∈ pk s
  cl : ∀ x ∈ pk s, x ∈ edge ∨ ∀ t, some t ∈ rowOf fm x → t ∈ pk s
theorem bfs_ok {rs : List (Option Int)} {fm : Fm} (ok : OkV rs fm) : ∀ (n : Nat) (s : Pst) (edge : List Int), BI rs fm s edge → mu fm s edge ≤ n → Mid rs fm (bfs fm n s edge) ∧ Closed rs fm (pk (bfs fm n s edge))
  | 0, s, edge, b, h => by
    have := b.m.g.len
    unfold mu at h
    omega
  | n + 1, s, [], b, h => by
    rw [bfs_end]
    exact ⟨b.m, b.rt, fun x hx t ht => by
      rcases b.cl x hx with z | z
      · simp at z
      · exact z t ht⟩
  | n + 1, s, a :: r, b, h => by
    rw [bfs_step (by simp)]
    obtain ⟨g, c⟩ := edge_grow ok (a :: r) s [] b.m b.ed
    have el := edge_len0 fm (a :: r) s
    have gl := g.m.g.len
    refine bfs_ok ok n _ _ ⟨g.m, fun t ht => g.up t (b.rt t ht), fun x hx => ?_, fun x hx => ?_⟩ ?_
    · rcases g.sub x hx with z | z
      · simp at z
      · exact z
    · rcases g.new x hx with z | z
      · rcases b.cl x z with y | y
        · exact .inr (c x y)
        · exact .inr fun t ht => g.up t (y t ht)
      · exact .inl z
    · unfold mu at h ⊢
      simp at h
      split
      · rename_i hz; rw [hz] at el; simp at el; omega
      · rename_i hz
        have : 0 < (addEdge fm (s, []) (a :: r)).2.length := List.length_pos_iff.mpr hz
        omega
theorem last_ok {rs : List (Option Int)} {fm : Fm} (ok : OkV rs fm) : StepsOk rs fm (lastSteps rs fm) ∧ Closed rs fm (pk (lastSteps rs fm)) ∧ Gd fm (lastSteps rs fm) := by
  obtain ⟨m, c⟩ := addR_mid ok.1 rs.length (Nat.le_refl _)
  rw [List.take_length] at m c
  have h := bfs_ok ok (fm.length + 2) (addR rs) (pk (addR rs)) ⟨m, c, fun x h => h, fun x h => .inl h⟩ (by unfold mu; split <;> omega)
  exact ⟨h.1.so, h.2, h.1.g⟩
/-! ### what is reached -/
inductive Reach (rs : List (Option Int)) (fm : Fm) : Int → Prop
  | root {t : Int} : some t ∈ rs → Reach rs fm t
  | step {x t : Int} : Reach rs fm x → some t ∈ rowOf fm x → Reach rs fm t
theorem Closed.all {rs : List (Option Int)} {fm : Fm} {ks : List Int} (c : Closed rs fm ks) {t : Int} (h : Reach rs fm t) : t ∈ ks := by
  induction h with
  | root h => exact c.rt _ h
  | step _ h ih => exact c.st _ ih _ h
theorem steps_reach {rs : List (Option Int)} {fm : Fm} {s : Pst} (so : StepsOk rs fm s) : ∀ i, ∀ x ∈ pk (s.take i), Reach rs fm x
  | 0, x, hx => by simp [pk] at hx
  | i + 1, x, hx => by
    have ih := steps_reach so i
    by_cases hi : i < s.length
    · have ho : s[i]? = some s[i] := List.getElem?_eq_getElem hi
      rcases he : s[i] with ⟨t, f, k⟩
      rw [he] at ho
      rw [take_snoc ho, pk_app] at hx
      rcases List.mem_append.mp hx with z | z
      · exact ih x z
      · rw [List.mem_singleton] at z
        subst z
        have o := so i _ _ _ ho
        obtain ⟨n, _, hn⟩ := o.at_
        have hm := List.mem_of_getElem? hn
        cases f with
        | none => exact .root hm
        | some y => exact .step (ih y (o.src y rfl)) hm
    · rw [List.take_of_length_le (by omega)] at hx
      rw [List.take_of_length_le (by omega)] at ih
      exact ih x hx
theorem mem_last {rs : List (Option Int)} {fm : Fm} (ok : OkV rs fm) (t : Int) : t ∈ pk (lastSteps rs fm) ↔ Reach rs fm t := by
  obtain ⟨so, cl, _⟩ := last_ok ok
  constructor
  · intro h
    have := steps_reach so (lastSteps rs fm).length t
    rw [List.take_length] at this
    exact this h
  · exact cl.all
theorem srt_set {l m : List Int} (hl : l.Nodup) (hm : m.Nodup) (h : ∀ x, x ∈ l ↔ x ∈ m) : srt l = srt m := by
  refine srt_of ((srt_perm l).trans ?_) (srt_sorted l)
  exact (List.perm_ext_iff_of_nodup hl hm).mpr h
/-! ### the content alone -/
def ct (fm : Fm) : List (Int × List (Option Int)) := fm.map fun e => (e.1, e.2.2)
theorem ct_keys {f g : Fm} (h : ct f = ct g) : keys f = keys g := by
  have := congrArg (List.map Prod.fst) h
  unfold ct at this
  rw [List.map_map, List.map_map] at this
  exact this
theorem ct_len {f g : Fm} (h : ct f = ct g) : f.length = g.length := by
  have := congrArg List.length h
  simpa [ct] using this
theorem ct_row : ∀ {f g : Fm}, ct f = ct g → ∀ t, rowOf f t = rowOf g t
  | [], [], _, _ => rfl
  | [], _ :: _, h, _ => by simp [ct] at h
  | _ :: _, [], h, _ => by simp [ct] at h
  | a :: f, b :: g, h, t => by
    have h' : (a.1, a.2.2) = (b.1, b.2.2) ∧ ct f = ct g := by simpa [ct] using h
    have ih := ct_row h'.2 t
    have e1 : a.1 = b.1 := (Prod.mk.inj h'.1).1
    have e2 : a.2.2 = b.2.2 := (Prod.mk.inj h'.1).2
    unfold rowOf row at *
    rw [List.find?_cons, List.find?_cons, e1]
    by_cases z : b.1 = t
    · simp [z, e2]
    · simp [z]; exact ih
theorem ct_last {f g : Fm} (h : ct f = ct g) (rs : List (Option Int)) : lastSteps rs f = lastSteps rs g := by
  have e : rowOf f = rowOf g := funext (ct_row h)
  have e2 : ∀ n s edge, bfs f n s edge = bfs g n s edge := by
    intro n
    induction n with
    | zero => intro s edge; rfl
    | succ n ih =>
      intro s edge
      have e3 : addEdge f = addEdge g := by unfold addEdge; rw [e]
      unfold bfs
      rw [e3]
      split
      · rfl
      · exact ih _ _
  unfold lastSteps
  rw [ct_len h, e2]
theorem ct_reach {f g : Fm} (h : ct f = ct g) {rs : List (Option Int)} {t : Int} (r : Reach rs f t) : Reach rs g t := by
  have e : rowOf f = rowOf g := funext (ct_row h)
  induction r with
  | root h => exact .root h
  | step _ h ih => exact .step ih (e ▸ h)
theorem ct_okv {f g : Fm} (h : ct f = ct g) {rs : List (Option Int)} (o : OkV rs f) : OkV rs g := by
  have k := ct_keys h
  have okk : ∀ l, Ok f l → Ok g l := fun l z t ht => k ▸ z t ht
  refine ⟨okk _ o.1, fun e he => ?_⟩
  have hm : (e.1, e.2.2) ∈ ct f := by rw [h]; exact List.mem_map.mpr ⟨e, he, rfl⟩
  obtain ⟨e', he', q⟩ := List.mem_map.mp hm
  have q2 : e'.2.2 = e.2.2 := (Prod.mk.inj q).2
  exact q2 ▸ okk _ (o.2 e' he')
theorem ct_steps {f g : Fm} (h : ct f = ct g) {rs : List (Option Int)} {s : Pst} (o : StepsOk rs f s) : StepsOk rs g s := by
  have e : rowOf f = rowOf g := funext (ct_row h)
  intro i t x k hi
  obtain ⟨a, b, n, c, d⟩ := o i t x k hi
  refine ⟨a, b, n, c, ?_⟩
  cases x with
  | none => exact d
  | some y => show (rowOf g y)[n]? = _; rw [← e]; exact d
end P70

set_option Elab.async false
set_option linter.all false
set_option maxRecDepth 100000
set_option maxHeartbeats 1000000
namespace P70
open PySem PySem.Spec PyProof.Rows L2 SX0 R_k70
variable {K : PySem.W.Frag} {H : Hp} {Q : VK} {E : XK}
/-! ### the law's codes: ints below 2^20 -/
def Small (cs : List Int) : Prop := ∀ c ∈ cs, 0 ≤ c ∧ c < 1048576
theorem cutV_map (cs : List Int) (lo hi : Option Int) : ∃ es : List Int, cutV (cs.map V.int) lo hi = es.map V.int ∧ ∀ e ∈ es, e ∈ cs := by
  refine ⟨(cs.drop (HT.sIx cs.length 0 lo)).take (HT.sIx cs.length cs.length hi - HT.sIx cs.length 0 lo), ?_, fun e he => List.mem_of_mem_drop (List.mem_of_mem_take he)⟩
  unfold cutV
  rw [List.length_map, List.map_take, List.map_drop]
def CodesI (a D : Addr) (n : Int) (H : Hp) (m : Nat) : L2.St → Hp → Prop := fun σ H' => ∃ (mx : Bool) (a4 a5 a6 a7 : Option L2.V) (cs : List Int) (H1 : Hp),
  σ = [some (.ref a), some (.int n), some (.ref D), some (.bl mx), a4, a5, a6, a7] ∧ Same H H1 ∧ H' = upd H1 D (.lst (cs.map V.int)) ∧ Small cs ∧ cs.length = m
theorem codes_in {a D : Addr} {n r : Int} {m : Nat} {H H1 : Hp} {De : Ends} {mx : Bool} {a4 a6 a7 : Option L2.V} {cs : List Int} (hD : H D = none) (s1 : Same H H1) (sm : Small cs) (cl : cs.length = m) (hm : m ≤ 1000)
    (hd : ∀ σ H', CodesI a D n H (m + 4) σ H' → De.nx σ H') : LoopG (Itr 0 (4 : Int).toNat) (gName 6) (tSeq (tDrop (tBM K "list" rAppend (tVar 2) (tCons (tOp oMod (tVar 5) (tC (.int 1048576))) tNil))) (tAsg (tOp oFdv (tVar 5) (tC (.int 1048576))) (gName 5)))
        De [some (.ref a), some (.int n), some (.ref D), some (.bl mx), a4, some (.int r), a6, a7] (upd H1 D (.lst (cs.map V.int))) := by
  refine L_range (fun i σ H' => ∃ (a6 : Option L2.V) (r : Int) (cs : List Int), σ = [some (.ref a), some (.int n), some (.ref D), some (.bl mx), a4, some (.int r), a6, a7] ∧ H' = upd H1 D (.lst (cs.map V.int)) ∧ Small cs ∧ cs.length = m + i)
    ⟨_, _, cs, rfl, rfl, sm, cl⟩ ?_ ?_
  · rintro i σ H' hi ⟨a6, r, cs, rfl, rfl, sm, cl⟩
    have hi' : i < 4 := hi
    show tSeq _ _ _ _ _
    walk_at "vz"
    refine ⟨x_tyL upd_same, ?_⟩
    walk_at "vz"
    refine x_append upd_same (by rw [List.length_map, sizeLine_eq]; omega) ?_
    walk_at "vz"
    refine ⟨_, _, cs ++ [r % 1048576], rfl, by rw [upd_upd, List.map_append]; rfl, fun c hc => ?_, by simp; omega⟩
    rcases List.mem_append.mp hc with z | z
    · exact sm c z
    · rw [List.mem_singleton] at z; subst z; omega
  · rintro σ H' ⟨a6, r, cs, rfl, rfl, sm, cl⟩
    exact hd _ _ ⟨mx, a4, _, a6, a7, cs, H1, rfl, s1, rfl, sm, cl⟩
theorem c_codes {a : Addr} {ns : List Int} {n : Int} (hs : SqL K H a (ns.map V.int)) (hl : ns.length ≤ 63)
    (h : ∀ p cs H', Same H H' → H p = none → H' p = some (.lst (cs.map V.int)) → Small cs → cs.length ≤ 252 → Q (.ref p) H') : sp__law_codes K [.ref a, .int n] H Q E := by
  refine i__law_codes ?_
  unfold t__law_codes
  walk_at "vv"
  refine ⟨sl (m := 0) (Nat.le_refl _), fun D hD => ?_⟩
  walk_at "vz"
  have s1 : Same H (upd H D (.lst [])) := Same.new hD
  refine ⟨a, ns, rfl, Same.sql s1 hs, ?_⟩
  walk_at "vz"
  refine x_lenL (Same.sql s1 hs) ?_
  rw [List.length_map]
  walk_at "vv"
  refine x_gRng1 (j := (ns.length : Int)) (by omega) (by omega) ?_
  refine L_range (fun i σ H' => CodesI a D n H (4 * i) σ H') ⟨_, _, _, _, _, [], H, rfl, Same.refl _, rfl, fun c hc => (by cases hc), rfl⟩ ?_ ?_
  · rintro i σ H' hi ⟨mx, a4, a5, a6, a7, cs, H1, rfl, s2, rfl, sm, cl⟩
    have hi' : i < ns.length := by simpa using hi
    have sx := Same.put (o := .lst (cs.map V.int)) s2 hD
    show tSeq _ _ _ _ _
    walk_at "vz"
    refine x_ixL (Same.sql sx hs) (v := .int ns[i]) (by rw [Int.zero_add]; exact atI_nat (by rw [List.getElem?_map, List.getElem?_eq_getElem hi']; rfl)) ?_
    walk_at "vz"
    cases mx with
    | false =>
      refine x_iteF ?_
      walk_at "vz"
      refine x_gRng1 (by decide) (by decide) ?_
      exact codes_in hD s2 sm cl (by omega) fun σ H' h => h
    | true =>
      refine x_iteT ?_
      walk_at "vz"
      refine x_mulL ⟨by omega, by omega⟩ ?_
      walk_at "vz"
      refine x_mulL ⟨by omega, by omega⟩ ?_
      walk_at "vz"
      refine x_gRng1 (by decide) (by decide) ?_
      exact codes_in hD s2 sm cl (by omega) fun σ H' h => h
  · rintro σ H' ⟨mx, a4, a5, a6, a7, cs, H1, rfl, s2, rfl, sm, cl⟩
    have hl' : (ns.length : Int).toNat = ns.length := by omega
    rw [hl'] at cl
    walk_at "vz"
    refine x_slL (SqL.of upd_same) fun q hq => ?_
    obtain ⟨es, e1, e2⟩ := cutV_map cs none (some n)
    have e3 := cutV_length (cs.map V.int) none (some n)
    rw [e1] at e3 ⊢
    rw [List.length_map, List.length_map] at e3
    have sx := Same.put (o := .lst (cs.map V.int)) s2 hD
    exact h q es _ (Same.trans sx (Same.new hq)) (sx.free hq) upd_same (fun c hc => sm c (e2 c hc)) (by omega)
end P70
namespace P70
open PySem PySem.Spec PyProof.Rows L2 SX0 R_k70
variable {K : PySem.W.Frag} {H : Hp} {Q : VK} {E : XK}
theorem shaped_nil : SeqAt.shaped (.list []) = true := rfl
theorem c_picked {p : Addr} {ks : List Int} {n : Int} (hp : SqL K H p (ks.map V.int)) (hl : ks.length ≤ 100)
    (h : ∀ o H', (∀ t, o = some t → t ∈ ks) → Same H H' → Q (oV o) H') : sp__law_picked K [.ref p, .int n] H Q E := by
  refine i__law_picked ?_
  unfold t__law_picked
  walk_at "vz"
  refine ⟨sl (m := 0) (Nat.le_refl _), fun q hq => ?_⟩
  have s1 : Same H (upd H q (.lst [])) := Same.new hq
  refine .inl ⟨_, _, dp_ints (Same.sql s1 hp), .lst (SqL.of upd_same) .nil, shaped_ints _, shaped_nil, ?_⟩
  rw [show PyData.eqv (.list (ks.map PyData.int)) (.list []) = decide (ks = []) from eqv_ints ks []]
  walk_at "vz"
  refine x_ite (fun he => ?_) fun hne => ?_
  · walk_at "vz"
    exact h none _ (fun t z => by cases z) s1
  walk_at "vz"
  refine x_ite (fun he => ?_) fun _ => ?_
  · walk_at "vz"
    exact h none _ (fun t z => by cases z) s1
  walk_at "vz"
  refine x_lenL (Same.sql s1 hp) ?_
  have pos : 0 < ks.length := List.length_pos_iff.mpr hne
  rw [List.length_map]
  refine x_mod (by omega) ?_
  have e : ((n / 4) % (ks.length : Int)) = (((n / 4) % (ks.length : Int)).toNat : Int) := (Int.toNat_of_nonneg (Int.emod_nonneg _ (by omega))).symm
  have lt : ((n / 4) % (ks.length : Int)).toNat < ks.length := by
    have := Int.emod_lt_of_pos (n / 4) (b := (ks.length : Int)) (by omega)
    omega
  rw [e]
  refine x_ixL (Same.sql s1 hp) (v := .int ks[((n / 4) % (ks.length : Int)).toNat]) (atI_nat (by rw [List.getElem?_map, List.getElem?_eq_getElem lt]; rfl)) ?_
  exact h (some _) _ (fun t z => by cases z; exact List.getElem_mem lt) s1
/-- a row of picked things -/
theorem picks {t : Nat} {n : Int} {De : Ends} {a0 a1 a2 a4 a5 a6 a8 a9 a10 a11 : Option L2.V} {P L : Addr} {c : Int} {ks : List Int} {H1 : Hp} (ht : t = 8 ∨ t = 11)
    (hL : [a0, a1, a2, some (.ref P), a4, a5, a6, some (.int c), a8, a9, a10, a11][t]? = some (some (.ref L))) (hP : SqL K H P (ks.map V.int)) (hk : ks.length ≤ 100) (hn : 0 ≤ n ∧ n ≤ 90) (s1 : Same H H1) (hL0 : H L = none) (hL1 : H1 L = some (.lst []))
    (hd : ∀ (r : List (Option Int)) b7 b9 H2, (∀ x, some x ∈ r → x ∈ ks) → r.length ≤ n.toNat → Same H H2 → H2 L = some (.lst (r.map oV)) → (∀ q o, q ≠ L → H1 q = some o → H2 q = some o) → De.nx [a0, a1, a2, some (.ref P), a4, a5, a6, b7, a8, b9, a10, a11] H2) :
    LoopG (Itr 0 n.toNat) (gName 9) (tSeq (tAsg (tOp oMod (tOp oMul (tVar 7) (tC (.int 48271))) (tC (.int 2147483647))) (gName 7))
      (tDrop (tBM K "list" rAppend (tVar t) (tCons (tCallS (sp__law_picked K) (WE (WD E)) (tCons (tVar 3) (tCons (tOp oFdv (tVar 7) (tC (.int 11))) tNil))) tNil))))
      De [a0, a1, a2, some (.ref P), a4, a5, a6, some (.int c), a8, a9, a10, a11] H1 := by
  refine L_range (fun i σ H' => ∃ (r : List (Option Int)) (c : Int) (b9 : Option L2.V), σ = [a0, a1, a2, some (.ref P), a4, a5, a6, some (.int c), a8, b9, a10, a11] ∧ (∀ x, some x ∈ r → x ∈ ks) ∧ r.length = i ∧ Same H H' ∧ H' L = some (.lst (r.map oV)) ∧ (∀ q o, q ≠ L → H1 q = some o → H' q = some o))
    ⟨[], c, _, rfl, fun x z => (by cases z), rfl, s1, hL1, fun _ _ _ z => z⟩ ?_ ?_
  · rintro i σ H' hi ⟨r, c', b9, rfl, rk, rl, s2, hl2, keep⟩
    show tSeq _ _ _ _ _
    have fin : ∀ (o : Option Int) (H2 : Hp) (c2 : Int) (b9 : Option L2.V), (∀ x, o = some x → x ∈ ks) → Same H' H2 → rAppend (.ref L) [oV o] H2 fun _ H4 => ∃ (r : List (Option Int)) (c : Int) (b9' : Option L2.V),
        [a0, a1, a2, some (.ref P), a4, a5, a6, some (.int c2), a8, b9, a10, a11] = [a0, a1, a2, some (.ref P), a4, a5, a6, some (.int c), a8, b9', a10, a11] ∧ (∀ x, some x ∈ r → x ∈ ks) ∧ r.length = i + 1 ∧ Same H H4 ∧ H4 L = some (.lst (r.map oV)) ∧ (∀ q o, q ≠ L → H1 q = some o → H4 q = some o) := by
      intro o H2 c2 b9 ho s3
      refine x_append (s3 _ _ hl2) (by rw [List.length_map, sizeLine_eq]; omega) ?_
      refine ⟨r ++ [o], c2, _, rfl, fun x hx => ?_, by simp [rl], Same.put (Same.trans s2 s3) hL0, by rw [upd_same, List.map_append]; rfl, fun q o hq hqo => by rw [upd_ne hq]; exact s3 _ _ (keep q o hq hqo)⟩
      rcases List.mem_append.mp hx with z | z
      · exact rk x z
      · rw [List.mem_singleton] at z; exact ho x z.symm
    rcases ht with rfl | rfl
    · have e8 : a8 = some (.ref L) := Option.some.inj hL
      subst e8
      walk_at "vz"
      refine ⟨x_tyL hl2, ?_⟩
      walk_at "vz"
      refine c_picked (Same.sql s2 hP) hk fun o H2 ho s3 => ?_
      walk_at "vz"
      exact fin o H2 _ _ ho s3
    · have e8 : a11 = some (.ref L) := Option.some.inj hL
      subst e8
      walk_at "vz"
      refine ⟨x_tyL hl2, ?_⟩
      walk_at "vz"
      refine c_picked (Same.sql s2 hP) hk fun o H2 ho s3 => ?_
      walk_at "vz"
      exact fin o H2 _ _ ho s3
  · rintro σ H' ⟨r, c', b9, rfl, rk, rl, s2, hl2, keep⟩
    exact hd r _ _ H' rk (by omega) s2 hl2 keep
end P70

set_option Elab.async false
set_option linter.all false
set_option maxRecDepth 100000
set_option maxHeartbeats 1000000
namespace P70
open PySem PySem.Spec PyProof.Rows L2 SX0 R_k70
variable {K : PySem.W.Frag} {H : Hp} {Q : VK} {E : XK}
def BIG : Int := 10 ^ 54
/-- what the law's view is -/
structure Made (fm : Fm) (rs : List (Option Int)) (bk : List Int) : Prop where
  nd : (keys fm).Nodup
  kl : ∀ k ∈ keys fm, k < BIG
  ok : OkV rs fm
  bk_ : ∀ k ∈ bk, k ∈ keys fm
  l1 : fm.length ≤ 12
  l2 : rs.length ≤ 8
  l3 : bk.length ≤ 3
  l4 : ∀ e ∈ fm, e.2.2.length ≤ 6
def ksOf (n : Nat) (c m : Int) : List Int := (List.range n).map fun (j : Nat) => (3 * (j : Int) + c) * m
theorem ksOf_len (n : Nat) (c m : Int) : (ksOf n c m).length = n := by simp [ksOf]
theorem ksOf_nd {n : Nat} {c m : Int} (hm : 0 < m) : (ksOf n c m).Nodup := by
  unfold ksOf
  rw [List.Nodup, List.pairwise_map]
  refine List.Pairwise.imp ?_ (List.nodup_range (n := n))
  intro a b hab z
  have h := Int.eq_of_mul_eq_mul_right (Int.ne_of_gt hm) z
  omega
theorem ksOf_lt {n : Nat} {c m : Int} (hn : n ≤ 12) (hc : 0 ≤ c ∧ c ≤ 2) (hm : m = 1 ∨ m = 10 ^ 50) : ∀ k ∈ ksOf n c m, k < BIG := by
  intro k hk
  obtain ⟨j, hj, rfl⟩ := List.mem_map.mp hk
  have hj' := List.mem_range.mp hj
  unfold BIG
  rcases hm with rfl | rfl <;> omega
theorem pick0 (es : List Int) (h : Small es) (j : Nat) (hj : j < es.length + 20) : ∃ c, (es.map V.int ++ (List.replicate (20 : Int).toNat [V.int 0]).flatten)[j]? = some (.int c) ∧ 0 ≤ c ∧ c < 1048576 := by
  have e : (List.replicate (20 : Int).toNat [V.int 0]).flatten = (List.replicate 20 (0 : Int)).map V.int := rfl
  rw [e, ← List.map_append, List.getElem?_map]
  have hl : j < (es ++ List.replicate 20 (0 : Int)).length := by rw [List.length_append, List.length_replicate]; exact hj
  rw [List.getElem?_eq_getElem hl]
  refine ⟨_, rfl, ?_⟩
  rcases List.mem_append.mp (List.getElem_mem hl) with z | z
  · exact h _ z
  · rw [List.eq_of_mem_replicate z]; decide
/-- the fields' loop -/
def FieldsI (fa P : Addr) (ks : List Int) (H : Hp) (a0 a1 a2 a4 : Option L2.V) (i : Nat) : L2.St → Hp → Prop := fun σ H' => ∃ (a6 a7 a8 a9 a10 a11 : Option L2.V) (fm : Fm) (H1 : Hp),
  σ = [a0, a1, a2, some (.ref P), a4, some (.ref fa), a6, a7, a8, a9, a10, a11] ∧ Same H H1 ∧ H' = upd H1 fa (.dK (kF fm)) ∧ keys fm = ks.take i ∧ (∀ e ∈ fm, H1 e.2.1 = some (.lst (e.2.2.map oV)) ∧ e.2.1 ≠ fa ∧ (∀ x, some x ∈ e.2.2 → x ∈ ks) ∧ e.2.2.length ≤ 6)
/-- the things -/
theorem lc_things {i : Nat} {n : Nat} {c m : Int} {te : TE} {σ : L2.St} (hi : i < σ.length) (hn : n ≤ 12)
    (he : ∀ (j : Nat) H2 (Q2 : VK), j < n → Same H H2 → (∀ H3, Same H2 H3 → Q2 (.int ((3 * (j : Int) + c) * m)) H3) → te (σ.set i (some (.int (j : Nat)))) H2 Q2)
    (hq : ∀ D H2, H D = none → Same H H2 → H2 D = some (.lst ((ksOf n c m).map V.int)) → Q (.ref D) H2) : LcG (Itr 0 n) (gName i) tYes te [i] σ H Q := by
  refine L_lcW (walk_range (lo := 0) (n := n)) (fun D j acc H' => ∃ H1, Same H H1 ∧ H' = upd H1 D (.lst acc) ∧ acc = (ksOf j c m).map V.int) (fun D hD => ⟨H, Same.refl _, rfl, rfl⟩) (fun D j acc H' h => True.intro) ?_ ?_
  · rintro D j x acc H2 H3 hD hj ⟨H1, s, rfl, rfl⟩ hDl ⟨rfl, rfl⟩ R hR _
    refine x_own hi fun _ => ?_
    refine x_yes ?_
    refine x_iteT ?_
    show te (σ.set i (some (.int (0 + (j : Int))))) _ _
    rw [Int.zero_add]
    refine he j _ _ hj (Same.put s hD) fun H4 s4 => ?_
    refine hR _ _ (s4 _ _ upd_same) (by rw [List.length_map, ksOf_len, sizeLine_eq]; omega) ⟨upd H4 D (.lst []), Same.put (Same.trans (Same.put s hD) s4) hD, by rw [upd_upd], ?_⟩
    unfold ksOf
    rw [List.range_succ, List.map_append, List.map_append]
    rfl
  · rintro D acc H2 hD ⟨H1, s, rfl, rfl⟩ hDl
    exact hq D _ hD (Same.put s hD) hDl
theorem kF_none {fm : Fm} {t : Int} (h : t ∉ keys fm) : valV (kF fm) (Sum.inl t : Key) = none := by
  have e := val_isSome fm t
  rw [decide_eq_false h] at e
  cases q : valV (kF fm) (Sum.inl t : Key) with
  | none => rfl
  | some v => rw [q] at e; cases e
theorem c_law_view {p : Addr} {cs : List Int} (hp : H p = some (.lst (cs.map V.int))) (sm : Small cs) (cl : cs.length ≤ 1000)
    (h : ∀ T ra fa ba fm rs bk H', Same H H' → H fa = none → H' T = some (.tup [.ref ra, .ref fa, .ref ba]) → H' ra = some (.lst (rs.map oV)) → H' fa = some (.dK (kF fm)) → H' ba = some (.lst (bk.map V.int)) → Rows K H' fm → Made fm rs bk → Q (.ref T) H') : sp__law_view K [.ref p] H Q E := by
  refine i__law_view ?_
  unfold t__law_view
  walk_at "vz"
  refine ⟨sl (m := 1) (Nat.le_refl _), fun q hq => ?_⟩
  have s1 : Same H (upd H q (.lst [.int 5])) := Same.new hq
  refine x_cat (SqX.of (s1 _ _ hp)) (SqX.of upd_same) (by rw [List.length_map, sizeLine_eq, List.length_singleton]; omega) fun z hz => ?_
  have s2 := Same.trans s1 (Same.new (o := .lst (cs.map V.int ++ [.int 5])) hz)
  walk_at "vz"
  obtain ⟨hd, hh, hd0, hd1⟩ : ∃ hd : Int, atI (cs.map V.int ++ [.int 5]) 0 = some (.int hd) ∧ 0 ≤ hd ∧ hd < 1048576 := by
    cases cs with
    | nil => exact ⟨5, rfl, by decide, by decide⟩
    | cons c r =>
      refine ⟨c, atI_nat (n := 0) rfl, sm c List.mem_cons_self⟩
  refine x_ixL (SqL.of upd_same) hh ?_
  walk_at "vz"
  have hm0 : 0 ≤ hd % 13 := Int.emod_nonneg _ (by decide)
  have hm1 : hd % 13 < 13 := Int.emod_lt_of_pos _ (by decide)
  refine x_gRng1 (by omega) (by omega) ?_
  have hmt : ∃ m : Int, (m = 1 ∨ m = 10 ^ 50) ∧ atI [V.int 1, V.int 1, V.int (10 ^ (50 : Int).toNat)] (hd / 39 % 3) = some (.int m) := by
    have e0 : 0 ≤ hd / 39 % 3 := Int.emod_nonneg _ (by decide)
    have e1 : hd / 39 % 3 < 3 := Int.emod_lt_of_pos _ (by decide)
    rcases (by omega : hd / 39 % 3 = 0 ∨ hd / 39 % 3 = 1 ∨ hd / 39 % 3 = 2) with e | e | e <;> rw [e]
    · exact ⟨1, .inl rfl, rfl⟩
    · exact ⟨1, .inl rfl, rfl⟩
    · exact ⟨_, .inr rfl, rfl⟩
  obtain ⟨m, hm, hmx⟩ := hmt
  have hc0 : 0 ≤ hd / 13 % 3 := Int.emod_nonneg _ (by decide)
  have hc1 : hd / 13 % 3 < 3 := Int.emod_lt_of_pos _ (by decide)
  have hn12 : (hd % 13).toNat ≤ 12 := by omega
  refine lc_things (c := hd / 13 % 3) (m := m) (by simp) hn12 (fun j H2 Q2 hjn s3 k => ?_) fun P H2 hP s3 hPl => ?_
  · walk_at "vz"
    refine x_pow ⟨by decide, by decide, by decide⟩ ?_
    walk_at "vz"
    refine ⟨sl (m := 3) (Nat.le_refl _), fun w hw => ?_⟩
    walk_at "vz"
    refine x_ixL (SqL.of upd_same) hmx ?_
    refine x_mulL ⟨by omega, by omega⟩ ?_
    exact k _ (Same.new hw)
  have s4 := Same.trans s2 s3
  walk_at "vz"
  refine x_slL (Same.sql s4 (SqL.of hp)) fun rp hrp => ?_
  obtain ⟨es, e1, e2⟩ := cutV_map cs (some 1) none
  have e3 := cutV_length (cs.map V.int) (some 1) none
  rw [e1] at e3 ⊢
  rw [List.length_map, List.length_map] at e3
  have sme : Small es := fun c hc => sm c (e2 c hc)
  have s5 := Same.trans s4 (Same.new (o := .lst (es.map V.int)) hrp)
  have hP5 := Same.new (o := .lst (es.map V.int)) hrp _ _ hPl
  have hR5 := upd_same (H := H2) (a := rp) (o := .lst (es.map V.int))
  generalize upd H2 rp (.lst (es.map V.int)) = H5 at s5 hP5 hR5
  clear s1 s3 s4 hPl hrp
  walk_at "vz"
  intro fa hfa
  have hfa0 : H fa = none := s5.free hfa
  walk_at "vz"
  refine x_gRng1 (by omega) (by omega) ?_
  have ksl : (ksOf (hd % 13).toNat (hd / 13 % 3) m).length ≤ 12 := by rw [ksOf_len]; exact hn12
  have mpos : 0 < m := by rcases hm with rfl | rfl <;> decide
  have knd : (ksOf (hd % 13).toNat (hd / 13 % 3) m).Nodup := ksOf_nd mpos
  have klt := ksOf_lt hn12 ⟨hc0, by omega⟩ hm
  have klen : (ksOf (hd % 13).toNat (hd / 13 % 3) m).length = (hd % 13).toNat := ksOf_len _ _ _
  generalize ksOf (hd % 13).toNat (hd / 13 % 3) m = ks at hP5 ksl knd klt klen
  refine L_range (FieldsI fa P ks H5 _ _ _ _) ⟨_, _, _, _, _, _, [], H5, rfl, Same.refl _, rfl, rfl, fun e he => (by cases he)⟩ ?_ ?_
  · rintro i σ H' hi ⟨a6, a7, a8, a9, a10, a11, fm, H6, rfl, s6, rfl, kk, fme⟩
    have hi' : i < ks.length := by omega
    have sx := Same.put (o := .dK (kF fm)) s6 hfa
    show tSeq _ _ _ _ _
    walk_at "vz"
    refine ⟨sl (m := 1) (Nat.le_refl _), fun zp hzp => ?_⟩
    walk_at "vz"
    refine ⟨zp, 20, _, rfl, rfl, upd_same, by decide, by decide, by rw [sizeLine_eq]; decide, fun yp hyp => ?_⟩
    have s7 := Same.trans (Same.new (o := .lst [.int 0]) hzp) (Same.new (o := .lst (List.replicate (20 : Int).toNat [V.int 0]).flatten) hyp)
    refine x_cat (SqX.of (s7 _ _ (sx _ _ hR5))) (SqX.of upd_same) (by rw [List.length_map, sizeLine_eq]; show es.length + 20 ≤ _; omega) fun xp hxp => ?_
    have s8 := Same.trans s7 (Same.new (o := .lst (es.map V.int ++ (List.replicate (20 : Int).toNat [V.int 0]).flatten)) hxp)
    obtain ⟨c, hc, hcs⟩ := pick0 es sme i (by omega)
    walk_at "vz"
    refine x_ixL (SqL.of upd_same) (v := .int c) (by rw [Int.zero_add]; exact atI_nat hc) ?_
    walk_at "vz"
    refine ⟨sl (m := 0) (Nat.le_refl _), fun L hL => ?_⟩
    have s9 := Same.trans s8 (Same.new (o := .lst []) hL)
    have hLf : L ≠ fa := (ne_of_none (s8 _ _ upd_same) hL).symm
    walk_at "vz"
    refine x_gRng1 (by omega) (by omega) ?_
    refine picks (n := c % 7) (L := L) (ks := ks) (.inr rfl) rfl (SqL.of (s8 _ _ (sx _ _ hP5))) (by omega) (by omega) (Same.new hL) hL upd_same fun r b7 b9 H7 rk rl s10 hLr keep => ?_
    walk_at "vz"
    have hfa7 : H7 fa = some (.dK (kF fm)) := s10 _ _ (s8 _ _ upd_same)
    have hP7 : H7 P = some (.lst (ks.map V.int)) := s10 _ _ (s8 _ _ (sx _ _ hP5))
    refine x_ixL (SqL.of hP7) (v := .int ks[i]) (by rw [Int.zero_add]; exact atI_nat (by rw [List.getElem?_map, List.getElem?_eq_getElem hi']; rfl)) ?_
    have fl : fm.length ≤ 12 := by
      have e9 := congrArg List.length kk
      rw [List.length_take, keys, List.length_map] at e9
      omega
    refine x_dputK (y := ks[i]) hfa7 (by rw [kF, List.length_map, sizeLine_eq]; omega) ?_
    have nk : ks[i] ∉ keys fm := by
      rw [kk]
      intro z
      have e9 : ks.take (i + 1) = ks.take i ++ [ks[i]] := take_snoc (List.getElem?_eq_getElem hi')
      have e10 : (ks.take (i + 1)).Nodup := knd.sublist (List.take_sublist _ _)
      rw [e9, List.nodup_append] at e10
      exact e10.2.2 _ z _ List.mem_cons_self rfl
    rw [putK_new _ (kF_none nk)]
    refine ⟨_, _, _, _, _, _, fm ++ [(ks[i], L, r)], upd H7 fa (.dK (kF fm)), rfl, ?_, ?_, ?_, ?_⟩
    · exact Same.put (Same.trans sx (Same.trans s8 s10)) hfa
    · rw [upd_upd]; simp [kF]
    · rw [take_snoc (List.getElem?_eq_getElem hi'), ← kk]; simp [keys]
    · intro e he
      rcases List.mem_append.mp he with z | z
      · obtain ⟨q1, q2, q3, q4⟩ := fme e z
        refine ⟨?_, q2, q3, q4⟩
        rw [upd_ne q2]
        exact s10 _ _ (s8 _ _ (by rw [upd_ne q2]; exact q1))
      · rw [List.mem_singleton] at z
        subst z
        refine ⟨by rw [upd_ne hLf]; exact hLr, hLf, rk, by show r.length ≤ 6; omega⟩
  · rintro σ H' ⟨a6, a7, a8, a9, a10, a11, fm, H6, rfl, s6, rfl, kk, fme⟩
    have kk' : keys fm = ks := by rw [kk, List.take_of_length_le (by omega)]
    have fl : fm.length ≤ 12 := by
      have e9 := congrArg List.length kk'
      rw [keys, List.length_map] at e9
      omega
    have sx := Same.put (o := .dK (kF fm)) s6 hfa
    have hF0 : upd H6 fa (.dK (kF fm)) fa = some (.dK (kF fm)) := upd_same
    have hRw : ∀ e ∈ fm, upd H6 fa (.dK (kF fm)) e.2.1 = some (.lst (e.2.2.map oV)) := fun e he => by rw [upd_ne (fme e he).2.1]; exact (fme e he).1
    have hP6 := sx _ _ hP5
    have hR6 := sx _ _ hR5
    have s6' := Same.trans s5 sx
    generalize upd H6 fa (.dK (kF fm)) = H7 at hF0 hRw hP6 hR6 s6'
    walk_at "vz"
    refine ⟨sl (m := 1) (Nat.le_refl _), fun zp hzp => ?_⟩
    walk_at "vz"
    refine ⟨zp, 20, _, rfl, rfl, upd_same, by decide, by decide, by rw [sizeLine_eq]; decide, fun yp hyp => ?_⟩
    have s7 := Same.trans (Same.new (o := .lst [.int 0]) hzp) (Same.new (o := .lst (List.replicate (20 : Int).toNat [V.int 0]).flatten) hyp)
    refine x_cat (SqX.of (s7 _ _ hR6)) (SqX.of upd_same) (by rw [List.length_map, sizeLine_eq]; show es.length + 20 ≤ _; omega) fun xp hxp => ?_
    have s8 := Same.trans s7 (Same.new (o := .lst (es.map V.int ++ (List.replicate (20 : Int).toNat [V.int 0]).flatten)) hxp)
    obtain ⟨c, hc, hcs⟩ := pick0 es sme 13 (by omega)
    walk_at "vz"
    refine x_ixL (SqL.of upd_same) (v := .int c) (atI_nat (n := 13) hc) ?_
    walk_at "vz"
    refine ⟨sl (m := 0) (Nat.le_refl _), fun L hL => ?_⟩
    walk_at "vz"
    refine x_gRng1 (by omega) (by omega) ?_
    refine picks (n := c / 4 % 9) (L := L) (ks := ks) (.inl rfl) rfl (SqL.of (s8 _ _ hP6)) (by omega) (by omega) (Same.new hL) hL upd_same fun rs b7 b9 H8 rk rl s10 hLr keep => ?_
    have s11 := Same.trans s8 s10
    walk_at "vz"
    refine ⟨sl (m := 1) (Nat.le_refl _), fun zp2 hzp2 => ?_⟩
    walk_at "vz"
    refine ⟨zp2, 20, _, rfl, rfl, upd_same, by decide, by decide, by rw [sizeLine_eq]; decide, fun yp2 hyp2 => ?_⟩
    have s12 := Same.trans (Same.new (o := .lst [.int 0]) hzp2) (Same.new (o := .lst (List.replicate (20 : Int).toNat [V.int 0]).flatten) hyp2)
    refine x_cat (SqX.of (s12 _ _ (s11 _ _ hR6))) (SqX.of upd_same) (by rw [List.length_map, sizeLine_eq]; show es.length + 20 ≤ _; omega) fun xp2 hxp2 => ?_
    have s13 := Same.trans s12 (Same.new (o := .lst (es.map V.int ++ (List.replicate (20 : Int).toNat [V.int 0]).flatten)) hxp2)
    obtain ⟨c2, hc2, hcs2⟩ := pick0 es sme 14 (by omega)
    walk_at "vz"
    refine x_ixL (SqL.of upd_same) (v := .int c2) (atI_nat (n := 14) hc2) ?_
    walk_at "vz"
    refine ⟨sl (m := 0) (Nat.le_refl _), fun B hB => ?_⟩
    have s14 := Same.trans s11 s13
    have hLB := s13 _ _ hLr
    generalize upd (upd (upd H8 zp2 (.lst [.int 0])) yp2 (.lst (List.replicate (20 : Int).toNat [V.int 0]).flatten)) xp2 (.lst (es.map V.int ++ (List.replicate (20 : Int).toNat [V.int 0]).flatten)) = H9 at hB s14 hLB
    walk_at "vz"
    refine x_mulL ⟨by omega, by omega⟩ ?_
    walk_at "vz"
    have hN : 0 ≤ c2 % 4 * (if decide (0 < hd % 13) = true then 1 else 0) ∧ c2 % 4 * (if decide (0 < hd % 13) = true then 1 else 0) ≤ 3 ∧ (0 < c2 % 4 * (if decide (0 < hd % 13) = true then 1 else 0) → 0 < hd % 13) := by
      by_cases hp0 : 0 < hd % 13
      · rw [decide_eq_true hp0]; simp; omega
      · rw [decide_eq_false hp0]; simp
    generalize c2 % 4 * (if decide (0 < hd % 13) = true then 1 else 0) = nb at hN
    refine x_gRng1 (by omega) (by omega) ?_
    refine L_range (fun i σ H' => ∃ (bk : List Int) (c : Int) (b9 b11 : Option L2.V) (H10 : Hp), σ = [some (.ref p), some (.int hd), some (.int (hd % 13)), some (.ref P), some (.ref rp), some (.ref fa), a6, some (.int c), some (.ref L), b9, some (.ref B), b11] ∧ (∀ x ∈ bk, x ∈ ks) ∧ bk.length = i ∧ Same H9 H10 ∧ H' = upd H10 B (.lst (bk.map V.int)))
      ⟨[], c2, _, _, H9, rfl, fun x z => (by cases z), rfl, Same.refl _, rfl⟩ ?_ ?_
    · rintro i σ H' hi ⟨bk, c', b9, b11, H10, rfl, bks, bl, s15, rfl⟩
      show tSeq _ _ _ _ _
      walk_at "vz"
      refine ⟨x_tyL upd_same, ?_⟩
      walk_at "vz"
      have pos : 0 < hd % 13 := hN.2.2 (by omega)
      refine x_mod pos ?_
      have e5 : ((c' * 48271 % 2147483647) / 11 % (hd % 13)) = (((c' * 48271 % 2147483647) / 11 % (hd % 13)).toNat : Int) := (Int.toNat_of_nonneg (Int.emod_nonneg _ (by omega))).symm
      have lt5 : ((c' * 48271 % 2147483647) / 11 % (hd % 13)).toNat < ks.length := by
        have := Int.emod_lt_of_pos ((c' * 48271 % 2147483647) / 11) pos
        omega
      rw [e5]
      have sB := Same.put (o := .lst (bk.map V.int)) s15 hB
      refine x_ixL (SqL.of (sB _ _ (s14 _ _ hP6))) (v := .int ks[((c' * 48271 % 2147483647) / 11 % (hd % 13)).toNat]) (atI_nat (by rw [List.getElem?_map, List.getElem?_eq_getElem lt5]; rfl)) ?_
      walk_at "vz"
      refine x_append upd_same (by rw [List.length_map, sizeLine_eq]; omega) ?_
      refine ⟨bk ++ [ks[((c' * 48271 % 2147483647) / 11 % (hd % 13)).toNat]], _, _, _, H10, rfl, fun x hx => ?_, by simp [bl], s15, by rw [upd_upd, List.map_append]; rfl⟩
      rcases List.mem_append.mp hx with z | z
      · exact bks x z
      · rw [List.mem_singleton] at z; rw [z]; exact List.getElem_mem lt5
    · rintro σ H' ⟨bk, c', b9, b11, H10, rfl, bks, bl, s15, rfl⟩
      have sB := Same.put (o := .lst (bk.map V.int)) s15 hB
      walk_at "vz"
      refine ⟨sl (m := 3) (Nat.le_refl _), fun T hT => ?_⟩
      have s16 := Same.new (o := .tup [.ref L, .ref fa, .ref B]) hT
      have s17 := Same.trans (Same.trans s14 sB) s16
      refine h T L fa B fm rs bk _ (Same.trans s6' s17) hfa0 upd_same (s16 _ _ (sB _ _ hLB)) (s17 _ _ hF0) (s16 _ _ upd_same) (fun e he => SqL.of (s17 _ _ (hRw e he))) ⟨kk' ▸ knd, kk' ▸ klt, ⟨fun t ht => kk' ▸ rk t ht, fun e he t ht => kk' ▸ (fme e he).2.2.1 t ht⟩, fun k hk => kk' ▸ bks k hk, fl, by omega, by omega, fun e he => (fme e he).2.2.2⟩
end P70

set_option Elab.async false
set_option linter.all false
set_option maxRecDepth 100000
set_option maxHeartbeats 1000000
namespace P70
open PySem PySem.Spec PyProof.Rows L2 SX0 R_k70
variable {K : PySem.W.Frag} {H : Hp} {Q : VK} {E : XK}
theorem kit_tt : PySem.W.kitOne K (.type "tuple") (.type "tuple") = some true := rfl
theorem kit_ll : PySem.W.kitOne K (.type "list") (.type "list") = some true := rfl
theorem kit_ii : PySem.W.kitOne K (.type "int") (.type "int") = some true := rfl
theorem kit_ib : PySem.W.kitOne K (.type "int") (.type "bool") = some false := rfl
theorem x_isiT {a : Addr} {xs : List V} (e : H a = some (.tup xs)) (h : Q (.bl true) H) : rIsiE K [.ref a, .ty "tuple"] H Q := ⟨_, _, _, _, true, rfl, .ty _, .base (.base (.tup e)), kit_tt, h⟩
theorem x_isiL {a : Addr} {xs : List V} (e : H a = some (.lst xs)) (h : Q (.bl true) H) : rIsiE K [.ref a, .ty "list"] H Q := ⟨_, _, _, _, true, rfl, .ty _, .base (.base (.lst e)), kit_ll, h⟩
theorem x_isiI {i : Int} (h : Q (.bl true) H) : rIsiE K [.int i, .ty "int"] H Q := ⟨_, _, _, _, true, rfl, .ty _, .base (.base (.int i)), kit_ii, h⟩
theorem x_isiB {i : Int} (h : Q (.bl false) H) : rIsiE K [.int i, .ty "bool"] H Q := ⟨_, _, _, _, false, rfl, .ty _, .base (.base (.int i)), kit_ib, h⟩
/-- where a graph stands: its roots' list, its fields' dict -/
structure GW (K : PySem.W.Frag) (H : Hp) (ra fa : Addr) (rs : List (Option Int)) (fm : Fm) : Prop where
  rt : SqL K H ra (rs.map oV)
  fd : Rd H fa (.dK (kF fm))
  rw : Rows K H fm
  nd : (keys fm).Nodup
  ln : fm.length ≤ 100 ∧ rs.length ≤ 100 ∧ ∀ e ∈ fm, e.2.2.length ≤ 100
theorem GW.le {H H' : Hp} {ra fa : Addr} {rs : List (Option Int)} {fm : Fm} (W : GW K H ra fa rs fm) (s : Le H H') : GW K H' ra fa rs fm :=
  ⟨s.sql W.rt, s.dk W.fd, fun e he => s.sql (W.rw e he), W.nd, W.ln⟩
theorem last_split (l : List Int) (h : l ≠ []) : ∃ l' t, l = l' ++ [t] := ⟨l.dropLast, l.getLast h, (List.dropLast_concat_getLast h).symm⟩
theorem c_reached {ra fa : Addr} {rs : List (Option Int)} {fm : Fm} (W : GW K H ra fa rs fm) (ok : OkV rs fm)
    (h : ∀ D H', Same H H' → H D = none → H' D = some (.lst ((srt (pk (lastSteps rs fm))).map V.int)) → Q (.ref D) H') : sp__law_reached K [.ref ra, .ref fa] H Q E := by
  refine i__law_reached ?_
  unfold t__law_reached
  walk_at "vv"
  refine x_gList W.rt ?_
  refine lc_somes (by simp) W.rt (by have := W.ln.2.1; omega) fun D H1 hD s1 hDl => ?_
  walk_at "vv"
  intro M hM
  have s2 : Same H (upd H1 M (.dK [])) := Same.trans s1 (Same.new hM)
  have nDM : D ≠ M := ne_of_none hDl hM
  have hM0 := s1.free hM
  walk_at "vv"
  refine L_while (fun m σ H' => ∃ (line ks : List Int) (a4 a5 : Option L2.V), σ = [some (.ref ra), some (.ref fa), some (.ref D), some (.ref M), a4, a5] ∧ Same H H' ∧ H' D = some (.lst (line.map V.int)) ∧ H' M = some (.dK (tKV ks)) ∧
      ks.Nodup ∧ (∀ x ∈ ks, x ∈ keys fm ∧ Reach rs fm x) ∧ (∀ x ∈ line, x ∈ keys fm ∧ Reach rs fm x) ∧ (∀ t, some t ∈ rs → t ∈ ks ∨ t ∈ line) ∧ (∀ x ∈ ks, ∀ t, some t ∈ rowOf fm x → t ∈ ks ∨ t ∈ line) ∧
      line.length + (fm.length - ks.length) * 101 = m ∧ m ≤ 20000) _
    ⟨somes rs, [], _, _, rfl, s2, by rw [upd_ne nDM]; exact hDl, upd_same, List.nodup_nil, fun x z => (by cases z), fun x hx => ⟨ok.1 x (mem_somes.mp hx), .root (mem_somes.mp hx)⟩, fun t ht => .inr (mem_somes.mpr ht), fun x z => (by cases z), rfl, by
      have := somes_len rs; have := W.ln; simp; omega⟩ ?_
  rintro m σ H2 ⟨line, ks, a4, a5, rfl, s3, hl, hm, nd, hks, hln, c1, c2, em, hm2⟩
  walk_at "vv"
  refine x_lenL (SqL.of hl) ?_
  walk_at "vv"
  rw [List.length_map]
  have kl : ks.length ≤ fm.length := by
    have := nodup_len nd (m := keys fm) fun x hx => (hks x hx).1
    simpa [keys] using this
  refine x_ite (fun hp => ?_) fun hp => ?_
  · refine x_whileGo ?_
    obtain ⟨l', t, rfl⟩ := last_split line (by intro z; subst z; simp at hp)
    walk_at "vv"
    refine ⟨x_tyL hl, ?_⟩
    refine ⟨D, _, .int t, rfl, rfl, hl, by simp, ?_⟩
    have hl2 : upd H2 D (.lst ((l' ++ [t]).map V.int).dropLast) D = some (.lst (l'.map V.int)) := by rw [upd_same]; simp
    have hm3 : upd H2 D (.lst ((l' ++ [t]).map V.int).dropLast) M = some (.dK (tKV ks)) := by rw [upd_ne nDM.symm]; exact hm
    have s4 := Same.put (o := .lst ((l' ++ [t]).map V.int).dropLast) s3 hD
    generalize upd H2 D (.lst ((l' ++ [t]).map V.int).dropLast) = H3 at hl2 hm3 s4
    have ht := hln t (List.mem_append_right _ List.mem_cons_self)
    rw [List.length_append, List.length_singleton] at em
    walk_at "vv"
    refine x_dnotinK (y := t) (.inl hm3) ?_
    walk_at "vv"
    rw [tKV_some]
    refine x_iteN (fun hn => ?_) fun hy => ?_
    · obtain ⟨e, he, rfl⟩ := key_row ht.1
      have nd2 : (ks ++ [e.1]).Nodup := by
        rw [List.nodup_append]
        exact ⟨nd, by simp, fun a ha b hb => by rw [List.mem_singleton] at hb; exact fun z => hn (hb ▸ z ▸ ha)⟩
      have hks2 : ∀ x ∈ ks ++ [e.1], x ∈ keys fm ∧ Reach rs fm x := fun x hx => by
        rcases List.mem_append.mp hx with z | z
        · exact hks x z
        · rw [List.mem_singleton] at z; rw [z]; exact ht
      have kl2 : (ks ++ [e.1]).length ≤ fm.length := by
        have := nodup_len nd2 (m := keys fm) fun x hx => (hks2 x hx).1
        simpa [keys] using this
      rw [List.length_append, List.length_singleton] at kl2
      have wl := W.ln.1
      walk_at "vv"
      refine x_dputK (y := e.1) hm3 (by rw [tKV, List.length_map, sizeLine_eq]; omega) ?_
      rw [tKV_put, if_neg hn]
      have hl4 : upd H3 M (.dK (tKV (ks ++ [e.1]))) D = some (.lst (l'.map V.int)) := by rw [upd_ne nDM]; exact hl2
      have hm4 : upd H3 M (.dK (tKV (ks ++ [e.1]))) M = some (.dK (tKV (ks ++ [e.1]))) := upd_same
      have s5 := Same.put (o := .dK (tKV (ks ++ [e.1]))) s4 hM0
      generalize upd H3 M (.dK (tKV (ks ++ [e.1]))) = H4 at hl4 hm4 s5
      walk_at "vv"
      refine ⟨x_tyL hl4, ?_⟩
      walk_at "vv"
      have W4 := W.le (Same.le s5)
      refine x_dgetK (y := e.1) W4.fd (v := .ref e.2.1) (by rw [val_kF, row_nd W.nd he]; rfl) ?_
      refine x_gList (W4.rw e he) ?_
      have r4 := W.ln.2.2 e he
      refine lc_somes (by simp) (W4.rw e he) (by omega) fun B H5 hB s6 hBl => ?_
      walk_at "vv"
      have r3 := somes_len e.2.2
      refine x_extend (s6 _ _ hl4) hBl (by rw [List.length_map, List.length_map, sizeLine_eq]; omega) ?_
      refine ⟨(l' ++ somes e.2.2).length + (fm.length - (ks ++ [e.1]).length) * 101, ?_, l' ++ somes e.2.2, ks ++ [e.1], _, _, rfl, Same.put (Same.trans s5 s6) hD, by rw [upd_same, List.map_append], by rw [upd_ne nDM.symm]; exact s6 _ _ hm4, nd2, hks2, ?_, ?_, ?_, rfl, ?_⟩
      · rw [List.length_append, List.length_append, List.length_singleton]; omega
      · intro x hx
        rcases List.mem_append.mp hx with z | z
        · exact hln x (List.mem_append_left _ z)
        · have z' := mem_somes.mp z
          exact ⟨ok.2 e he x z', .step ht.2 (by rw [rowOf_mem W.nd he]; exact z')⟩
      · intro t' ht'
        rcases c1 t' ht' with z | z
        · exact .inl (List.mem_append_left _ z)
        · rcases List.mem_append.mp z with y | y
          · exact .inr (List.mem_append_left _ y)
          · exact .inl (List.mem_append_right _ y)
      · intro x hx t' ht'
        rcases List.mem_append.mp hx with z | z
        · rcases c2 x z t' ht' with y | y
          · exact .inl (List.mem_append_left _ y)
          · rcases List.mem_append.mp y with q | q
            · exact .inr (List.mem_append_left _ q)
            · exact .inl (List.mem_append_right _ q)
        · rw [List.mem_singleton] at z
          subst z
          rw [rowOf_mem W.nd he] at ht'
          exact .inr (List.mem_append_right _ (mem_somes.mpr ht'))
      · rw [List.length_append, List.length_append, List.length_singleton]; omega
    · walk_at "vv"
      refine ⟨l'.length + (fm.length - ks.length) * 101, by omega, l', ks, _, _, rfl, s4, hl2, hm3, nd, hks, fun x hx => hln x (List.mem_append_left _ hx), fun t' ht' => ?_, fun x hx t' ht' => ?_, rfl, by omega⟩
      · rcases c1 t' ht' with z | z
        · exact .inl z
        · rcases List.mem_append.mp z with y | y
          · exact .inr y
          · rw [List.mem_singleton] at y; rw [y]; exact .inl hy
      · rcases c2 x hx t' ht' with z | z
        · exact .inl z
        · rcases List.mem_append.mp z with y | y
          · exact .inr y
          · rw [List.mem_singleton] at y; rw [y]; exact .inl hy
  · have e0 : line = [] := by
      cases line with
      | nil => rfl
      | cons a r => simp at hp
    subst e0
    walk_at "vv"
    refine ⟨M, tKV ks, ks, rfl, .inl hm, tKV_keys _, fun ys y h1 h2 hy => ?_⟩
    have ey := srt_of h1 h2
    subst ey
    have cl : Closed rs fm ks := by
      refine ⟨fun t ht => ?_, fun x hx t ht => ?_⟩
      · rcases c1 t ht with z | z
        · exact z
        · cases z
      · rcases c2 x hx t ht with z | z
        · exact z
        · cases z
    have es : srt ks = srt (pk (lastSteps rs fm)) := srt_set nd (last_ok ok).2.2.nd fun x => ⟨fun hx => (mem_last ok x).mpr (hks x hx).2, fun hx => cl.all ((mem_last ok x).mp hx)⟩
    rw [es]
    exact h y _ (Same.trans s3 (Same.new hy)) (s3.free hy) upd_same
theorem c_steps_right {ra fa p : Addr} {rs : List (Option Int)} {fm : Fm} {l : Tst} (W : GW K H ra fa rs fm) (hp : SqL K H p (kT l)) (tr : Trs H l) (g : Gd fm (plT l)) (st : StepsOk rs fm (plT l))
    (h : ∀ H', Same H H' → Q (.bl true) H') : sp__law_steps_right K [.ref ra, .ref fa, .ref p] H Q E := by
  refine i__law_steps_right ?_
  unfold t__law_steps_right
  walk_at "vv"
  intro m hm
  walk_at "vv"
  have s1 : Same H (upd H m (.dK [])) := Same.new hm
  refine x_gList (Same.sql s1 hp) ?_
  refine L_list (xs := kT l) (fun i σ H' => ∃ (a4 a5 : Option L2.V), σ = [some (.ref ra), some (.ref fa), some (.ref p), some (.ref m), a4, a5] ∧ Same H H' ∧ H' m = some (.dK (tKV (pk (plT (l.take i))))))
    ⟨_, _, rfl, s1, upd_same⟩ (fun i σ H' _ ⟨_, _, _, s, _⟩ => Same.sql s hp) ?_ ?_
  · rintro i x σ H' hi ⟨a4, a5, rfl, s3, hmm⟩
    obtain ⟨e, he, rfl⟩ := get_map hi
    have hem : e ∈ l := List.mem_of_getElem? he
    have tl := s3 _ _ (tr e hem)
    have te : SqT K H' e.1 [.int e.2.1, oV e.2.2.1, .int e.2.2.2] := SqT.of tl
    have e1 : (plT l)[i]? = some (e.2.1, e.2.2.1, e.2.2.2) := by unfold plT; rw [List.getElem?_map, he]; rfl
    have ok1 := st i _ _ _ e1
    have e2 : (plT l).take i = plT (l.take i) := by unfold plT; rw [List.map_take]
    rw [e2] at ok1
    have gl := g.len
    have wl := W.ln.1
    have tll : (tKV (pk (plT (l.take i)))).length ≤ (plT l).length := by
      unfold tKV pk plT
      rw [List.length_map, List.length_map, List.length_map, List.length_map, List.length_take]
      omega
    obtain ⟨n, en, hn⟩ := ok1.at_
    have W3 := W.le (Same.le s3)
    -- what follows once the told list is known
    have rest : ∀ (a : Addr) (De : Ends), SqL K H' a ((told rs fm e.2.2.1).map oV) → (∀ H2, H2 = upd H' m (.dK (tKV (pk (plT (l.take (i + 1)))))) → De.nx [some (.ref ra), some (.ref fa), some (.ref p), some (.ref m), some (.ref e.1), some (.ref a)] H2) →
        (tSeq (tIfS (tOr (tNot (tB (tCB (rIsiE K) (tCons (tOp (rIxT K) (tVar 4) (tC (.int 2))) (tCons (tC (.ty "int")) tNil))))) (tOr (tB (tCB (rIsiE K) (tCons (tOp (rIxT K) (tVar 4) (tC (.int 2))) (tCons (tC (.ty "bool")) tNil)))) (tNot (tTest (tChain oLe oLt (tC (.int 0)) (tOp (rIxT K) (tVar 4) (tC (.int 2))) (tCB (cLenSeq K) (tCons (tVar 5) tNil))))))) (tRet (tC (.bl false))) tNext)
 (tSeq (tIfS (tOr (tTest (tOp oIsN (tOp (rIxT K) (tVar 4) (tC (.int 0))) (tC .non))) (tTest (tOp rNe (tOp (rIxL K) (tVar 5) (tOp (rIxT K) (tVar 4) (tC (.int 2)))) (tOp (rIxT K) (tVar 4) (tC (.int 0)))))) (tRet (tC (.bl false))) tNext)
 (sDPut (tVar 3) (tOp (rIxT K) (tVar 4) (tC (.int 0))) (tC (.bl true))))) De [some (.ref ra), some (.ref fa), some (.ref p), some (.ref m), some (.ref e.1), some (.ref a)] H' := by
      intro a De ha hd
      have l1 := lt_of_get hn
      walk_at "vv"
      refine x_ixT te (v := .int e.2.2.2) rfl ?_
      walk_at "vv"
      refine x_isiI ?_
      walk_at "vv"
      refine x_iteF ?_
      walk_at "vv"
      refine x_ixT te (v := .int e.2.2.2) rfl ?_
      walk_at "vv"
      refine x_isiB ?_
      walk_at "vv"
      refine x_ixT te (v := .int e.2.2.2) rfl ?_
      walk_at "vv"
      rw [en, show decide ((0 : Int) ≤ (n : Int)) = true from decide_eq_true (Int.natCast_nonneg n)]
      refine x_iteT ?_
      walk_at "vv"
      refine x_lenL ha ?_
      walk_at "vv"
      rw [show decide ((n : Int) < (((told rs fm e.2.2.1).map oV).length : Int)) = true from decide_eq_true (by rw [List.length_map]; omega)]
      refine x_iteF ?_
      walk_at "vv"
      refine x_ixT te (v := .int e.2.1) rfl ?_
      walk_at "vv"
      refine x_iteF ?_
      walk_at "vv"
      refine x_ixT te (v := .int e.2.2.2) rfl ?_
      rw [en]
      refine x_ixL ha (v := .int e.2.1) (atI_nat (by rw [List.getElem?_map, hn]; rfl)) ?_
      walk_at "vv"
      refine x_ixT te (v := .int e.2.1) rfl ?_
      walk_at "vv"
      rw [show (!decide (V.int e.2.1 = V.int e.2.1)) = false from by simp]
      walk_at "vv"
      refine x_ixT te (v := .int e.2.1) rfl ?_
      refine x_dputK (y := e.2.1) hmm (by rw [sizeLine_eq]; omega) ?_
      rw [tKV_put, if_neg ok1.new]
      refine hd _ ?_
      rw [take_snoc he]
      have e3 : pk (plT (l.take i ++ [e])) = pk (plT (l.take i)) ++ [e.2.1] := by simp [pk, plT]
      rw [e3]
    have nxt : ∀ (a : Addr) H2, H2 = upd H' m (.dK (tKV (pk (plT (l.take (i + 1)))))) → ∃ (a4 a5 : Option L2.V), [some (V.ref ra), some (.ref fa), some (.ref p), some (.ref m), some (.ref e.1), some (.ref a)] = [some (V.ref ra), some (.ref fa), some (.ref p), some (.ref m), a4, a5] ∧ Same H H2 ∧ H2 m = some (.dK (tKV (pk (plT (l.take (i + 1)))))) := by
      rintro a H2 rfl
      exact ⟨_, _, rfl, Same.put s3 hm, upd_same⟩
    show tSeq _ _ _ _ _
    walk_at "vv"
    refine x_isiT tl ?_
    walk_at "vv"
    refine x_iteF ?_
    walk_at "vv"
    refine x_lenT te ?_
    walk_at "vv"
    refine x_iteF ?_
    walk_at "vv"
    refine x_ixT te (v := .int e.2.1) rfl ?_
    walk_at "vv"
    refine x_dinK (y := e.2.1) (.inl hmm) ?_
    walk_at "vv"
    rw [tKV_some, decide_eq_false ok1.new]
    refine x_iteF ?_
    walk_at "vv"
    refine x_ixT te (v := oV e.2.2.1) rfl ?_
    walk_at "vv"
    cases hf : e.2.2.1 with
    | none =>
      refine x_iteF ?_
      refine x_next ?_
      exact rest ra _ (by rw [hf]; exact W3.rt) (nxt ra)
    | some x =>
      refine x_iteT ?_
      have hx := ok1.src x hf
      obtain ⟨e', he', rfl⟩ := key_row (g.sub x (by rw [← e2, pk_take] at hx; exact List.mem_of_mem_take hx))
      rw [hf] at te
      walk_at "vv"
      refine x_ixT te (v := oV (some e'.1)) rfl ?_
      walk_at "vv"
      refine x_dnotinK (y := e'.1) (.inl hmm) ?_
      walk_at "vv"
      rw [tKV_some]
      refine x_iteN (fun z => absurd hx z) fun _ => ?_
      walk_at "vv"
      refine x_ixT te (v := oV (some e'.1)) rfl ?_
      refine x_dgetK (y := e'.1) W3.fd (v := .ref e'.2.1) (by rw [val_kF, row_nd W.nd he']; rfl) ?_
      rw [← hf] at te
      refine rest e'.2.1 _ ?_ (nxt e'.2.1)
      rw [hf]
      show SqL K H' e'.2.1 ((rowOf fm e'.1).map oV)
      rw [rowOf_mem W.nd he']
      exact W3.rw e' he'
  · rintro σ H' ⟨a4, a5, rfl, s3, hmm⟩
    walk_at "vv"
    exact h _ s3
end P70

set_option Elab.async false
set_option linter.all false
set_option maxRecDepth 100000
set_option maxHeartbeats 1000000
namespace P70
open PySem PySem.Spec PyProof.Rows L2 SX0 R_k70
variable {K : PySem.W.Frag} {H : Hp} {Q : VK} {E : XK}
theorem x_tryT {c : Value} {i : Nat} {tb : WX → TS} {ts : TS} {Wout : WX} {D : Ends} {σ : L2.St} (h : tb (wAsT K c i ts Wout D) D σ H) : tTryT K c i tb ts Wout D σ H := h
theorem dp_bools {K : PySem.W.Frag} {H : Hp} {p : Addr} {bs : List Bool} (h : SqL K H p (bs.map V.bl)) : Dp K H (.ref p) (.list (bs.map PyData.bool)) := by
  refine .lst h ?_
  clear h
  induction bs with
  | nil => exact .nil
  | cons a r ih => exact .cons (.bl a) ih
theorem x_isiX {a D : Addr} {c : V} {u : Value} (C : ExcC K D) (e : H a = some (xob a (.ref D) none)) (k : ClsV c u) (kk : PySem.W.kitOne K (.ref D) u = some true) (h : Q (.bl true) H) : rIsiE K [.ref a, c] H Q := ⟨_, _, _, _, true, rfl, k, .exc C e, kk, h⟩
theorem c_refused (pf : PF K) {v ra fa b T : Addr} {D G : V} {rs : List (Option Int)} {fm : Fm} {ns : List Int} (W : VW K H v ra fa rs fm) (hb : SqL K H b (ns.map V.int)) (hl : rs.length + ns.length ≤ 100)
    (hT : SqT K H T [D, G]) (nok : ¬ OkV (rs ++ (srt (dd ns)).map some) fm) (h : ∀ H', Lf H H' → Q (.bl true) H') : sp__law_refused K [.ref v, .ref b, .ref T] H Q E := by
  refine i__law_refused ?_
  unfold t__law_refused
  walk_at "vv"
  refine ⟨sl (m := 0) (Nat.le_refl _), fun L hL => ?_⟩
  have s0 : Same H (upd H L (.lst [])) := Same.new hL
  walk_at "vv"
  refine x_gRng1 (by decide) (by decide) ?_
  refine L_range (fun i σ H' => ∃ (a4 a5 a6 : Option L2.V), σ = [some (.ref v), some (.ref b), some (.ref T), some (.ref L), a4, a5, a6] ∧ Lf H H' ∧ H' L = some (.lst ((List.replicate i true).map V.bl)))
    ⟨_, _, _, rfl, Same.lf s0, upd_same⟩ ?_ ?_
  · rintro i σ H' hi ⟨a4, a5, a6, rfl, s1, hLl⟩
    have hi' : i < 2 := hi
    show tSeq _ _ _ _ _
    walk_at "vv"
    have W1 := W.le s1.le
    have hx : ∀ (De : Ends) (H2 : Hp), (∀ a, H2 a = none → De.nx [some (.ref v), some (.ref b), some (.ref T), some (.ref L), some (.int (0 + (i : Int))), some (.ref a), none] (upd H2 a (xob a (BV K) none))) →
        wAsT K (.ref (He.ga K "HeapError")) 6 (tAsg (tVar 6) (gName 5)) (WD E) De (BV K) none [some (.ref v), some (.ref b), some (.ref T), some (.ref L), some (.int (0 + (i : Int))), some .non, a6] H2 := by
      intro De H2 hd
      refine ⟨true, pf.exm_BadView_HeapError, fun _ a ha => ?_, fun z => by cases z⟩
      walk_at "vv"
      exact hd a ha
    -- what follows the try
    have after : ∀ (De : Ends) (a : Addr) (H2 : Hp), Lf H' H2 → H2 a = none → (∀ σ H3, (∃ (a4 a5 a6 : Option L2.V), σ = [some (.ref v), some (.ref b), some (.ref T), some (.ref L), a4, a5, a6] ∧ Lf H H3 ∧ H3 L = some (.lst ((List.replicate (i + 1) true).map V.bl))) → De.nx σ H3) →
        (tDrop (tBM K "list" rAppend (tVar 3) (tCons (tAndV (tCB (rIsiE K) (tCons (tVar 5) (tCons (tC (.ref (He.ga K "BadView"))) tNil))) (tCB (rIsiE K) (tCons (tVar 5) (tCons (tC (.ty "ValueError")) tNil)))) tNil))) De
          [some (.ref v), some (.ref b), some (.ref T), some (.ref L), some (.int (0 + (i : Int))), some (.ref a), none] (upd H2 a (xob a (BV K) none)) := by
      intro De a H2 s2 ha hd
      have nLa : L ≠ a := ne_of_none (s2.lst hLl) ha
      have hl3 : upd H2 a (xob a (BV K) none) L = some (.lst ((List.replicate i true).map V.bl)) := by rw [upd_ne nLa]; exact s2.lst hLl
      walk_at "vv"
      refine ⟨x_tyL hl3, ?_⟩
      walk_at "vv"
      refine x_isiX pf.excC_BadView upd_same (.own _) pf.kit_BadView_BadView ?_
      refine ⟨true, rfl, x_iteT ?_⟩
      walk_at "vv"
      refine x_isiX pf.excC_BadView upd_same (.ty _) pf.kit_BadView_ValueError ?_
      walk_at "vv"
      refine x_append hl3 (by rw [List.length_map, List.length_replicate, sizeLine_eq]; omega) ?_
      refine hd _ _ ⟨_, _, _, rfl, Lf.put (Lf.put (Lf.trans s1 s2) (Lf.free (Lf.trans s1 s2) ha)) hL, ?_⟩
      rw [upd_same, List.replicate_succ', List.map_append]
      rfl
    refine x_tryT ?_
    walk_at "vv"
    refine x_ite (fun _ => ?_) fun _ => ?_
    · walk_at "vv"
      refine c_round_paper W1 (Le.sql s1.le hb) hl (fun ok => absurd ok nok) fun _ H2 s2 => ?_
      refine hx _ H2 fun a ha => ?_
      exact after _ a H2 s2 ha fun σ H3 h => h
    · walk_at "vv"
      refine c_round_judged_bad W1 (Le.sql s1.le hb) hl (Le.sqt s1.le hT) nok fun H2 s2 => ?_
      refine hx _ H2 fun a ha => ?_
      exact after _ a H2 s2 ha fun σ H3 h => h
  · rintro σ H' ⟨a4, a5, a6, rfl, s1, hLl⟩
    walk_at "vv"
    refine ⟨sl (m := 2) (Nat.le_refl _), fun q hq => ?_⟩
    have sq := Same.new (o := .lst [.bl true, .bl true]) hq
    refine .inl ⟨_, _, dp_bools (SqL.of (sq _ _ hLl)), dp_bools (bs := [true, true]) (SqL.of upd_same), rfl, rfl, ?_⟩
    exact h _ (Lf.trans s1 (Same.lf sq))
end P70

set_option Elab.async false
set_option linter.all false
set_option maxRecDepth 100000
set_option maxHeartbeats 1000000
namespace P70
open PySem PySem.Spec PyProof.Rows L2 SX0 R_k70
variable {K : PySem.W.Frag} {H : Hp} {Q : VK} {E : XK}
/-! ### dict([(t, list(fields[t])) for t in fields]) -/
theorem merge_kF : ∀ (f g : Fm), (keys (g ++ f)).Nodup → mergeK (kF g) (kF f) = kF (g ++ f)
  | [], g, _ => by rw [List.append_nil]; rfl
  | e :: f, g, nd => by
    have ne : e.1 ∉ keys g := by
      unfold keys at nd ⊢
      rw [List.map_append, List.nodup_append] at nd
      intro z
      exact nd.2.2 _ z _ (by simp) rfl
    have e1 : mergeK (kF g) (kF (e :: f)) = mergeK (putK (kF g) (Sum.inl e.1) (.ref e.2.1)) (kF f) := rfl
    rw [e1, putK_new _ (kF_none ne)]
    have e2 : kF g ++ [((Sum.inl e.1 : Key), V.ref e.2.1)] = kF (g ++ [e]) := by simp [kF]
    rw [e2, merge_kF f (g ++ [e]) (by rw [List.append_assoc]; exact nd), List.append_assoc]
    rfl
theorem ct_snoc (f : Fm) (e : Int × Addr × List (Option Int)) : ct (f ++ [e]) = ct f ++ [(e.1, e.2.2)] := by simp [ct]
theorem kF_snoc (f : Fm) (e : Int × Addr × List (Option Int)) : kF (f ++ [e]) = kF f ++ [((Sum.inl e.1 : Key), V.ref e.2.1)] := by simp [kF]
theorem c_copy {f i : Nat} {fa : Addr} {fm : Fm} {σ : L2.St} (hf : σ[f]? = some (some (.ref fa))) (hi : i < σ.length) (hfi : f ≠ i) (hd : Rd H fa (.dK (kF fm))) (hr : Rows K H fm) (nd : (keys fm).Nodup) (ln : fm.length ≤ 100)
    (h : ∀ F2 fm2 H', Same H H' → H F2 = none → H' F2 = some (.dK (kF fm2)) → ct fm2 = ct fm → (∀ e ∈ fm2, H' e.2.1 = some (.lst (e.2.2.map oV)) ∧ H e.2.1 = none) → Q (.ref F2) H') :
    tCB (cDictP K) (tCons (tLockE2 (tLc (iKeys (tVar f)) (gName i) tYes (tTup (tCons (tVar i) (tCons (tCB (cListOf K) (tCons (tDGet (tVar f) (tVar i)) tNil)) tNil))) [i])) tNil) σ H Q := by
  walk_at "vv"
  refine x_lockE2 hd fun od H1 U L => ?_
  walk_at "vv"
  refine x_var hf ?_
  refine x_gKeys L.at_ ?_
  refine L_lcW walk_keys (fun D j acc H' => Same H1 H' ∧ ∃ (fm2 : Fm) (as : List Addr), acc = as.map V.ref ∧ Paired (fun a kv => H' a = some (.tup [kV kv.1, kv.2])) as (kF fm2) ∧ ct fm2 = (ct fm).take j ∧ (∀ e ∈ fm2, H' e.2.1 = some (.lst (e.2.2.map oV)) ∧ H1 e.2.1 = none ∧ e.2.1 ≠ D))
    (fun D hD => ⟨Same.new hD, [], [], rfl, .nil, rfl, fun e he => (by cases he)⟩) (fun D j acc H' h => h.1 _ _ L.at_) ?_ ?_
  · rintro D j x acc H4 H5 hD hj ⟨s4, fm2, as, rfl, pr, ce, hl⟩ hDl ⟨rfl, k, v', hk, rfl⟩ R hR _
    obtain ⟨en, hen, rfl, rfl⟩ := at_kF hk
    have hm : en ∈ fm := List.mem_of_getElem? hen
    refine x_own hi fun hown => ?_
    have hf2 : (List.set σ i (some (kV (Sum.inl en.1 : Key))))[f]? = some (some (.ref fa)) := by rw [List.getElem?_set_ne (fun z => hfi z.symm)]; exact hf
    walk_at "vv"
    refine x_var hown ?_
    walk_at "vv"
    refine x_var hf2 ?_
    refine x_var hown ?_
    refine x_dgetK (y := en.1) (.inr ⟨od, s4 _ _ L.at_⟩) (v := .ref en.2.1) (by rw [val_kF, row_nd nd hm]; rfl) ?_
    walk_at "vv"
    have s14 : Le H H5 := Le.trans L.le (Same.le s4)
    refine ⟨en.2.1, en.2.2.map oV, rfl, .inl (s14.sql (hr en hm)), fun l hl0 => ?_⟩
    walk_at "vv"
    refine ⟨sl (m := 2) (Nat.le_refl _), fun q hq => ?_⟩
    have sl5 := Same.new (o := .lst (en.2.2.map oV)) hl0
    have nlD : l ≠ D := (ne_of_none hDl hl0).symm
    have nqD : q ≠ D := (ne_of_none (sl5 _ _ hDl) hq).symm
    have nlq : l ≠ q := ne_of_none upd_same hq
    have s6 := Same.trans sl5 (Same.new (o := .tup [.int en.1, .ref l]) hq)
    have al : as.length = fm2.length := by rw [Paired.length pr]; simp [kF]
    have fl : fm2.length ≤ j := by
      have e9 := congrArg List.length ce
      rw [List.length_take] at e9
      simp [ct] at e9
      omega
    have jl : j < (kF fm).length := hj
    rw [kF, List.length_map] at jl
    refine hR _ _ (s6 _ _ hDl) (by rw [List.length_map, sizeLine_eq]; omega) ⟨Same.put (Same.trans s4 s6) hD, fm2 ++ [(en.1, l, en.2.2)], as ++ [q], by simp, ?_, ?_, ?_⟩
    · rw [kF_snoc]
      refine Paired.snoc (L2.Paired.mapP pr fun a kv h => ?_) ?_
      · have ne : a ≠ D := ne_of h hDl (by intro z; cases z)
        rw [upd_ne ne]; exact s6 _ _ h
      · rw [upd_ne nqD, upd_same]
    · rw [ct_snoc, ce]
      have e8 : (ct fm)[j]? = some (en.1, en.2.2) := by unfold ct; rw [List.getElem?_map, hen]; rfl
      exact (take_snoc e8).symm
    · intro e he
      rcases List.mem_append.mp he with z | z
      · obtain ⟨q1, q2, ne⟩ := hl e z
        exact ⟨by rw [upd_ne ne]; exact s6 _ _ q1, q2, ne⟩
      · rw [List.mem_singleton] at z
        subst z
        exact ⟨by rw [upd_ne nlD, upd_ne nlq, upd_same], s4.free hl0, nlD⟩
  · rintro D acc H4 hD ⟨s4, fm2, as, rfl, pr, ce, hl⟩ hDl
    have e1 : (kF fm).length = (ct fm).length := by simp [kF, ct]
    rw [e1, List.take_length] at ce
    have k2 := ct_keys ce
    have hfr := s4 _ _ L.at_
    refine ⟨hfr, ?_⟩
    have su := L.back _ s4
    have at4 : ∀ a o, H4 a = some o → (∀ z, o ≠ .frz od z) → U H4 a = some o := fun a o e ne => by
      rw [L.else_ _ _ (fun z => by rw [z, hfr] at e; exact ne _ (Option.some.inj e).symm)]; exact e
    walk_at "vv"
    refine ⟨D, as, kF fm2, rfl, SqL.of (at4 _ _ hDl (by intro z w; cases w)), L2.Paired.mapP pr fun a kv e => SqT.of (at4 _ _ e (by intro z w; cases w)), fun p hp => ?_⟩
    have em : mergeK [] (kF fm2) = kF fm2 := by
      have := merge_kF fm2 [] (by rw [List.nil_append, k2]; exact nd)
      exact this
    rw [em]
    refine h p fm2 _ (Same.trans su (Same.new hp)) (su.free hp) upd_same ce fun e he => ?_
    obtain ⟨q1, q2, _⟩ := hl e he
    have q3 := at4 _ _ q1 (by intro z w; cases w)
    exact ⟨Same.new hp _ _ q3, L.new _ q2⟩
end P70

set_option Elab.async false
set_option linter.all false
set_option maxRecDepth 100000
set_option maxHeartbeats 1000000
namespace P70
open PySem PySem.Spec PyProof.Rows L2 SX0 R_k70
variable {K : PySem.W.Frag} {H : Hp} {Q : VK} {E : XK}
/-! ### [triple[0] for triple in triples] -/
theorem lc_firsts {p : Addr} {l : Tst} {i : Nat} {σ : L2.St} (hi : i < σ.length) (hp : SqL K H p (kT l)) (tr : ∀ e ∈ l, SqT K H e.1 [.int e.2.1, oV e.2.2.1, .int e.2.2.2]) (hl : l.length ≤ 1000)
    (h : ∀ D H2, H D = none → Same H H2 → H2 D = some (.lst ((pk (plT l)).map V.int)) → Q (.ref D) H2) : LcG (Itl K p) (gName i) tYes (tOp (rIxT K) (tVar i) (tC (.int 0))) [i] σ H Q := by
  refine L_lcW (walk_list (xs := kT l)) (fun D j acc H' => Same H H' ∧ acc = (pk (plT (l.take j))).map V.int) (fun D hD => ⟨Same.new hD, rfl⟩) (fun D j acc H' h => Same.sql h.1 hp) ?_ ?_
  · rintro D j x acc H2 H3 hD hj ⟨s, rfl⟩ hDl ⟨rfl, hx⟩ R hR _
    obtain ⟨e, he, rfl⟩ := get_map hx
    refine x_own hi fun hown => ?_
    walk_at "vv"
    refine x_var hown ?_
    walk_at "vv"
    refine x_ixT (Same.sqt s (tr e (List.mem_of_getElem? he))) (v := .int e.2.1) rfl ?_
    have tl : (pk (plT (l.take j))).length ≤ l.length := by
      unfold pk plT
      rw [List.length_map, List.length_map, List.length_take]
      omega
    refine hR _ _ hDl (by rw [List.length_map, sizeLine_eq]; omega) ⟨Same.put s hD, ?_⟩
    rw [take_snoc he]
    simp [pk, plT]
  · rintro D acc H2 hD ⟨s, rfl⟩ hDl
    have e1 : (kT l).length = l.length := by simp [kT]
    rw [e1, List.take_length] at hDl
    exact h D H2 hD s hDl
theorem inV_ints (t : Int) (ns : List Int) : inV (.int t) (ns.map V.int) = decide (t ∈ ns) := by
  unfold inV
  induction ns with
  | nil => rfl
  | cons a r ih =>
    rw [List.map_cons, List.any_cons, ih]
    have e : eqV (.int a) (.int t) = decide (a = t) := by by_cases h : a = t <;> simp [eqV, h]
    rw [e]
    by_cases h : a = t
    · simp [h]
    · have h2 : ¬ t = a := fun z => h z.symm
      simp [h, h2]
theorem flat_ints (ns : List Int) : (ns.map V.int).all flatV = true := by
  rw [List.all_eq_true]
  intro x hx
  obtain ⟨t, _, rfl⟩ := List.mem_map.mp hx
  rfl
/-! ### the papers as data -/
def oD : Option Int → PyData
  | none => .none
  | some i => .int i
def tD (e : Int × Option Int × Int) : PyData := .tuple [.int e.1, oD e.2.1, .int e.2.2]
def paperD (s : Pst) (g : List Int) : PyData := .tuple [.list (s.map tD), .list (g.map PyData.int)]
theorem dp_o (o : Option Int) : Dp K H (oV o) (oD o) := by
  cases o with
  | none => exact .non
  | some i => exact .int i
theorem dp_triples {p : Addr} {l : Tst} (hp : SqL K H p (kT l)) (tr : ∀ e ∈ l, SqT K H e.1 [.int e.2.1, oV e.2.2.1, .int e.2.2.2]) : Dp K H (.ref p) (.list ((plT l).map tD)) := by
  refine .lst hp ?_
  clear hp
  induction l with
  | nil => exact .nil
  | cons e r ih => exact .cons (.tup (tr e List.mem_cons_self) (.cons (.int _) (.cons (dp_o _) (.cons (.int _) .nil)))) (ih fun e he => tr e (List.mem_cons_of_mem _ he))
theorem dp_paper {T D G : Addr} {l : Tst} {g : List Int} (hT : SqT K H T [.ref D, .ref G]) (hp : SqL K H D (kT l)) (hG : SqL K H G (g.map V.int)) (tr : ∀ e ∈ l, SqT K H e.1 [.int e.2.1, oV e.2.2.1, .int e.2.2.2]) : Dp K H (.ref T) (paperD (plT l) g) :=
  .tup hT (.cons (dp_triples hp tr) (.cons (dp_ints hG) .nil))
theorem lay_o (o : Option Int) : (oD o).canLay0 = true ∧ (oD o).depth ≤ 1 := by cases o <;> simp [oD, PyData.canLay0, PyData.depth]
theorem lay_list {α : Type} (f : α → PyData) (n : Nat) (h : ∀ a, (f a).canLay0 = true ∧ (f a).depth ≤ n) : ∀ l : List α, PyData.canLayAll0 (l.map f) = true ∧ PyData.depthAll (l.map f) ≤ n
  | [] => by simp [PyData.canLayAll0, PyData.depthAll]
  | a :: r => by
    have ih := lay_list f n h r
    have h1 := h a
    rw [List.map_cons]
    simp only [PyData.canLayAll0, PyData.depthAll, h1.1, ih.1, Bool.and_self, true_and]
    omega
theorem lay_t (e : Int × Option Int × Int) : (tD e).canLay0 = true ∧ (tD e).depth ≤ 2 := by
  have h := lay_o e.2.1
  unfold tD
  simp only [PyData.canLay0, PyData.canLayAll0, PyData.depth, PyData.depthAll, h.1, Bool.and_self, true_and]
  omega
theorem lay_paper (s : Pst) (g : List Int) : (paperD s g).canLay0 = true ∧ (paperD s g).depth ≤ 10 := by
  have h1 := lay_list tD 2 lay_t s
  have h2 := lay_list PyData.int 1 (fun i => by simp [PyData.canLay0, PyData.depth]) g
  unfold paperD
  simp only [PyData.canLay0, PyData.canLayAll0, PyData.depth, PyData.depthAll, h1.1, h2.1, Bool.and_self, true_and]
  omega
theorem shaped_paper (s : Pst) (g : List Int) : SeqAt.shaped (paperD s g) = true := by
  have h := lay_paper s g
  unfold SeqAt.shaped
  rw [h.1, decide_eq_true (by omega)]; rfl
end P70

set_option Elab.async false
set_option linter.all false
set_option maxRecDepth 100000
set_option maxHeartbeats 1000000
namespace P70
open PySem PySem.Spec PyProof.Rows L2 SX0 R_k70
variable {K : PySem.W.Frag} {H : Hp} {Q : VK} {E : XK}
def t_tail (K : PySem.W.Frag) (E : XK) : TS :=
 (tSeq (tAsg (tOp oAdd (tOp oMul (tOp oMod (tCB (rSum K) (tCons (tVar 0) tNil)) (tOp oPow (tC (.int 10)) (tC (.int 40)))) (tC (.int 3))) (tOp oPow (tC (.int 10)) (tC (.int 55)))) (gName 12))
 (tSeq (tAsg (tLst (tCons (tTup (tCons (tOp (rCatS K) (tVar 1) (tLst (tCons (tVar 12) tNil))) (tCons (tVar 2) tNil))) tNil)) (gName 13))
 (tSeq (tFor (iList K (tSl (rSlL K) (tCB cSortedDk (tCons (tVar 2) tNil)) tNoPart (tPart (tC (.int 1))))) (gName 14) (tSeq (tAsg (tCB (cDictP K) (tCons (tLockE2 (tLc (iKeys (tVar 2)) (gName 17) tYes (tTup (tCons (tVar 17) (tCons (tCB (cListOf K) (tCons (tDGet (tVar 2) (tVar 17)) tNil)) tNil))) [17])) tNil)) (gName 16))
 (tSeq (sDPut (tVar 16) (tVar 14) (tOp (rCatS K) (tLst (tCons (tVar 12) tNil)) (tSl (rSlL K) (tDGet (tVar 16) (tVar 14)) (tPart (tC (.int 1))) tNoPart)))
 (tDrop (tBM K "list" rAppend (tVar 13) (tCons (tTup (tCons (tCB (cListOf K) (tCons (tVar 1) tNil)) (tCons (tVar 16) tNil))) tNil))))))
 (tSeq (tFor (iList K (tVar 13)) (gName 15) (tIfS (tNot (tB (tCallS (sp__law_refused K) (WE (WD E)) (tCons (tVar 15) (tCons (tCB (cListOf K) (tCons (tVar 3) tNil)) (tCons (tVar 11) tNil)))))) (tRet (tC (.bl false))) tNext))
 (tRet (tAndV (tCallS (sp__law_refused K) (WE (WD E)) (tCons (tVar 4) (tCons (tOp (rCatS K) (tVar 3) (tLst (tCons (tVar 12) tNil))) (tCons (tVar 11) tNil)))) (tCallS (sp__law_refused K) (WE (WD E)) (tCons (tVar 4) (tCons (tOp (rCatS K) (tLst (tCons (tVar 12) tNil)) (tVar 3)) (tCons (tVar 11) tNil))))))))))
structure BadV (K : PySem.W.Frag) (H : Hp) (bk : List Int) (p : Addr) : Prop where
  ex : ∃ ra fa rs fm, VW K H p ra fa rs fm ∧ rs.length ≤ 50 ∧ ¬ OkV (rs ++ (srt (dd bk)).map some) fm
theorem BadV.le {H' : Hp} {bk : List Int} {p : Addr} (b : BadV K H bk p) (s : Le H H') : BadV K H' bk p := by
  obtain ⟨ra, fa, rs, fm, W, h1, h2⟩ := b.ex
  exact ⟨ra, fa, rs, fm, W.le s, h1, h2⟩
theorem big_out {fm : Fm} {z : Int} (h : ∀ k ∈ keys fm, k < BIG) (hz : BIG ≤ z) : z ∉ keys fm := fun q => by
  have := h z q
  omega
theorem cut_o (l : List (Option Int)) (lo hi : Option Int) : ∃ l' : List (Option Int), cutV (l.map oV) lo hi = l'.map oV ∧ (∀ o ∈ l', o ∈ l) ∧ l'.length ≤ l.length := by
  refine ⟨(l.drop (HT.sIx l.length 0 lo)).take (HT.sIx l.length l.length hi - HT.sIx l.length 0 lo), ?_, fun e he => List.mem_of_mem_drop (List.mem_of_mem_take he), ?_⟩
  · unfold cutV
    rw [List.length_map, List.map_take, List.map_drop]
  · rw [List.length_take, List.length_drop]; omega
def swapF (fm : Fm) (t : Int) (q : Addr) (r : List (Option Int)) : Fm := fm.map fun e => if e.1 = t then (t, q, r) else e
theorem swap_keys (fm : Fm) (t : Int) (q : Addr) (r : List (Option Int)) : keys (swapF fm t q r) = keys fm := by
  unfold swapF keys
  rw [List.map_map]
  refine List.map_congr_left fun e _ => ?_
  show (if e.1 = t then (t, q, r) else e).1 = e.1
  split
  · rename_i h; exact h.symm
  · rfl
theorem swap_put {fm : Fm} {t : Int} {q : Addr} {r : List (Option Int)} (h : t ∈ keys fm) : putK (kF fm) (Sum.inl t : Key) (.ref q) = kF (swapF fm t q r) := by
  obtain ⟨e, he, rfl⟩ := key_row h
  unfold putK
  have ha : (kF fm).any (fun kv => decide (kv.1 = (Sum.inl e.1 : Key))) = true := by
    rw [List.any_eq_true]
    exact ⟨_, List.mem_map.mpr ⟨e, he, rfl⟩, by simp⟩
  rw [if_pos ha]
  unfold kF swapF
  rw [List.map_map, List.map_map]
  refine List.map_congr_left fun x _ => ?_
  show (if (Sum.inl x.1 : Key) = Sum.inl e.1 then ((Sum.inl x.1 : Key), V.ref q) else (Sum.inl x.1, V.ref x.2.1)) = (Sum.inl (if x.1 = e.1 then (e.1, q, r) else x).1, V.ref (if x.1 = e.1 then (e.1, q, r) else x).2.1)
  by_cases hx : x.1 = e.1
  · rw [if_pos hx, if_pos (by rw [hx]), hx]
  · rw [if_neg hx, if_neg (fun z => hx (Sum.inl.inj z))]
theorem not_dd {rs : List (Option Int)} {fm : Fm} {bk : List Int} {z : Int} (hz : z ∉ keys fm) (h : some z ∈ rs ∨ z ∈ bk) : ¬ OkV (rs ++ (srt (dd bk)).map some) fm := fun ok => hz (ok.1 z (by
  rcases h with h | h
  · exact List.mem_append_left _ h
  · exact List.mem_append_right _ (List.mem_map.mpr ⟨z, (srt_perm _).mem_iff.mpr ((dd_mem bk z).mpr h), rfl⟩)))
def del (H : Hp) (B : Addr) : Hp := fun p => if p = B then none else H p
theorem del_at {H : Hp} {B p : Addr} {o : HO} (h : H p = some o) (n : p ≠ B) : del H B p = some o := by unfold del; rw [if_neg n]; exact h
theorem del_of {H : Hp} {B p : Addr} {o : HO} (h : del H B p = some o) : H p = some o ∧ p ≠ B := by
  unfold del at h
  by_cases e : p = B
  · rw [if_pos e] at h; cases h
  · rw [if_neg e] at h; exact ⟨h, e⟩
theorem del_same {H H' : Hp} {B : Addr} (s : Same H H') : Same (del H B) (del H' B) := fun p o e => del_at (s _ _ (del_of e).1) (del_of e).2
theorem del_put {H H' : Hp} {B : Addr} {o : HO} (s : Same H H') : Same (del H B) (del (upd H' B o) B) := fun p u e => del_at (by rw [upd_ne (del_of e).2]; exact s _ _ (del_of e).1) (del_of e).2
theorem del_le {H : Hp} {B : Addr} : Same (del H B) H := fun p o e => (del_of e).1
theorem del_new {H H' : Hp} {B : Addr} (s : Same H H') (h : H B = none) : Same H (del H' B) := fun p o e => del_at (s _ _ e) (ne_of_none e h)
theorem c_tail (pf : PF K) {a ra fa ba v L1 F2 T2 : Addr} {D2 G2 : V} {ns : List Int} {fm fm2 : Fm} {rs : List (Option Int)} {bk : List Int} {a5 a6 a7 a8 a9 a10 : Option L2.V} (hs : SqL K H a (ns.map V.int)) (hra : H ra = some (.lst (rs.map oV))) (hfa : H fa = some (.dK (kF fm)))
    (hba : H ba = some (.lst (bk.map V.int))) (hrw : Rows K H fm) (M : Made fm rs bk) (W : VW K H v L1 F2 rs fm2) (ce : ct fm2 = ct fm) (hT2 : SqT K H T2 [D2, G2]) (h : ∀ H', Q (.bl true) H') :
    t_tail K E { nx := fun _ H' => Q .non H', rt := Q } [some (.ref a), some (.ref ra), some (.ref fa), some (.ref ba), some (.ref v), a5, a6, a7, a8, a9, a10, some (.ref T2), none, none, none, none, none, none, none] H := by
  unfold t_tail
  walk_at "vz"
  refine ⟨a, ns, rfl, hs, ?_⟩
  walk_at "vz"
  refine x_pow ⟨by decide, by decide, by decide⟩ ?_
  refine x_mod (by decide) ?_
  walk_at "vz"
  refine x_pow ⟨by decide, by decide, by decide⟩ ?_
  walk_at "vz"
  have hz : BIG ≤ ns.sum % 10 ^ (40 : Int).toNat * 3 + 10 ^ (55 : Int).toNat := by
    have h0 : 0 ≤ ns.sum % 10 ^ (40 : Int).toNat := Int.emod_nonneg _ (by decide)
    unfold BIG
    have h1 : (10 : Int) ^ (55 : Int).toNat = 10 ^ 55 := rfl
    rw [h1]
    omega
  generalize ns.sum % 10 ^ (40 : Int).toNat * 3 + 10 ^ (55 : Int).toNat = z at hz
  have zk : z ∉ keys fm := big_out M.kl hz
  have kk := ct_keys ce
  have zk2 : z ∉ keys fm2 := kk ▸ zk
  have m1 := M.l1; have m2 := M.l2; have m3 := M.l3
  refine ⟨sl (m := 1) (Nat.le_refl _), fun q1 hq1 => ?_⟩
  have u1 := Same.new (o := .lst [.int z]) hq1
  refine x_cat (SqX.of (u1 _ _ hra)) (SqX.of upd_same) (by rw [List.length_map, sizeLine_eq, List.length_singleton]; omega) fun q2 hq2 => ?_
  have u2 := Same.trans u1 (Same.new (o := .lst (rs.map oV ++ [.int z])) hq2)
  walk_at "vz"
  refine ⟨sl (m := 2) (Nat.le_refl _), fun q3 hq3 => ?_⟩
  have u3 := Same.trans u2 (Same.new (o := .tup [.ref q2, .ref fa]) hq3)
  have n23 : q2 ≠ q3 := ne_of_none upd_same hq3
  walk_at "vz"
  have bad0 : BadV K (upd (upd (upd H q1 (.lst [.int z])) q2 (.lst (rs.map oV ++ [.int z]))) q3 (.tup [.ref q2, .ref fa])) bk q3 := by
    refine ⟨q2, fa, rs ++ [some z], fm, ⟨SqT.of upd_same, SqL.of (by rw [upd_ne n23, upd_same, List.map_append]; rfl), .inl (u3 _ _ hfa), Rows.same u3 hrw, M.nd, by omega, by rw [List.length_append, List.length_singleton]; omega, fun e he => by have := M.l4 e he; omega⟩, by rw [List.length_append, List.length_singleton]; omega, not_dd zk (.inl (by simp))⟩
  generalize upd (upd (upd H q1 (.lst [.int z])) q2 (.lst (rs.map oV ++ [.int z]))) q3 (.tup [.ref q2, .ref fa]) = H3 at u3 bad0
  refine ⟨sl (m := 1) (Nat.le_refl _), fun B hB => ?_⟩
  have u4 := Same.trans u3 (Same.new (o := .lst [.ref q3]) hB)
  walk_at "vz"
  refine ⟨fa, kF fm, keys fm, rfl, .inl (u4 _ _ hfa), kF_keys fm, fun ys y h1 h2 hy => ?_⟩
  walk_at "vz"
  refine x_slL (SqL.of upd_same) fun sp hsp => ?_
  obtain ⟨es, e1, e2⟩ := cutV_map ys none (some 1)
  have e3 := cutV_length (ys.map V.int) none (some 1)
  rw [e1] at e3 ⊢
  rw [List.length_map, List.length_map, h1.length_eq, keys, List.length_map] at e3
  have u5 := Same.trans (Same.new (H := upd H3 B (.lst [.ref q3])) (o := .lst (ys.map V.int)) hy) (Same.new (o := .lst (es.map V.int)) hsp)
  have esk : ∀ t ∈ es, t ∈ keys fm := fun t ht => h1.mem_iff.mp (e2 t ht)
  refine x_gList (SqL.of upd_same) ?_
  have hspl : upd (upd (upd H3 B (.lst [.ref q3])) y (.lst (ys.map V.int))) sp (.lst (es.map V.int)) sp = some (.lst (es.map V.int)) := upd_same
  have hBl := u5 _ _ (upd_same (H := H3) (a := B) (o := .lst [.ref q3]))
  have u6 := Same.trans u4 u5
  have hBn := u3.free hB
  have bad1 := bad0.le (Same.le (del_new (Same.trans (Same.new (o := .lst [.ref q3]) hB) u5) hB))
  have nsB : sp ≠ B := fun zz => by rw [zz] at hsp; rw [Same.new (o := .lst (ys.map V.int)) hy _ _ (upd_same (H := H3) (a := B) (o := .lst [.ref q3]))] at hsp; cases hsp
  generalize upd (upd (upd H3 B (.lst [.ref q3])) y (.lst (ys.map V.int))) sp (.lst (es.map V.int)) = H6 at hspl hBl u6 bad1
  refine L_list (xs := es.map V.int) (fun i σ H' => ∃ (bs : List Addr) (a14 a16 a17 a18 : Option L2.V), σ = [some (.ref a), some (.ref ra), some (.ref fa), some (.ref ba), some (.ref v), a5, a6, a7, a8, a9, a10, some (.ref T2), some (.int z), some (.ref B), a14, none, a16, a17, a18] ∧
      Same H H' ∧ H' sp = some (.lst (es.map V.int)) ∧ H' B = some (.lst (bs.map V.ref)) ∧ (∀ b ∈ bs, BadV K (del H' B) bk b) ∧ bs.length ≤ i + 1)
    ⟨[q3], _, _, _, _, rfl, u6, hspl, hBl, fun b hb => by rw [List.mem_singleton] at hb; rw [hb]; exact bad1, by simp⟩ (fun i σ H' _ ⟨bs, _, _, _, _, _, _, q, _⟩ => SqL.of q) ?_ ?_
  · rintro i x σ H' hi ⟨bs, a14, a16, a17, a18, rfl, s1, hsp', hBl, hbs, bl⟩
    obtain ⟨t, ht, rfl⟩ := get_map hi
    have il := lt_of_get ht
    have htk := esk t (List.mem_of_getElem? ht)
    show tSeq _ _ _ _ _
    refine x_seq ?_
    refine x_asgN ?_
    refine c_copy (fm := fm) (fa := fa) rfl (by simp) (by decide) (.inl (s1 _ _ hfa)) (Rows.same s1 hrw) M.nd (by omega) fun F3 fm3 H7 s2 hF3 hF3l ce3 rw3 => ?_
    have kk3 := ct_keys ce3
    have fl3 := ct_len ce3
    have nd3 : (keys fm3).Nodup := kk3 ▸ M.nd
    obtain ⟨en, hen, rfl⟩ := key_row (fm := fm3) (kk3 ▸ htk)
    walk_at "vz"
    refine ⟨sl (m := 1) (Nat.le_refl _), fun w1 hw1 => ?_⟩
    have v1' := Same.new (o := .lst [.int z]) hw1
    walk_at "vz"
    refine x_dgetK (y := en.1) (.inl (v1' _ _ hF3l)) (v := .ref en.2.1) (by rw [val_kF, row_nd nd3 hen]; rfl) ?_
    walk_at "vz"
    refine x_slL (SqL.of (v1' _ _ (rw3 en hen).1)) fun w2 hw2 => ?_
    obtain ⟨r', er, erm, erl⟩ := cut_o en.2.2 (some 1) none
    rw [er]
    have v2 := Same.trans v1' (Same.new (o := .lst (r'.map oV)) hw2)
    have n12 : w1 ≠ w2 := ne_of_none upd_same hw2
    have rl6 : en.2.2.length ≤ 6 := by
      have hmm : (en.1, en.2.2) ∈ ct fm := by rw [← ce3]; exact List.mem_map.mpr ⟨en, hen, rfl⟩
      obtain ⟨e', he', q'⟩ := List.mem_map.mp hmm
      have := M.l4 e' he'
      rw [(Prod.mk.inj q').2] at this
      exact this
    refine x_cat (SqX.of (by rw [upd_ne n12]; exact upd_same)) (SqX.of upd_same) (by rw [List.length_map, sizeLine_eq, List.length_singleton]; omega) fun w3 hw3 => ?_
    have v3 := Same.trans v2 (Same.new (o := .lst ([.int z] ++ r'.map oV)) hw3)
    walk_at "vz"
    refine x_dputK (y := en.1) (v3 _ _ hF3l) (by rw [kF, List.length_map, sizeLine_eq]; omega) ?_
    rw [swap_put (r := some z :: r') (List.mem_map.mpr ⟨en, hen, rfl⟩)]
    have n3F : w3 ≠ F3 := (ne_of_none (v2 _ _ hF3l) hw3).symm
    have hw3l : upd (upd (upd (upd H7 w1 (.lst [.int z])) w2 (.lst (r'.map oV))) w3 (.lst ([.int z] ++ r'.map oV))) F3 (.dK (kF (swapF fm3 en.1 w3 (some z :: r')))) w3 = some (.lst ((some z :: r').map oV)) := by
      rw [upd_ne n3F, upd_same]; rfl
    have rw4 : ∀ e ∈ fm3, upd (upd (upd (upd H7 w1 (.lst [.int z])) w2 (.lst (r'.map oV))) w3 (.lst ([.int z] ++ r'.map oV))) F3 (.dK (kF (swapF fm3 en.1 w3 (some z :: r')))) e.2.1 = some (.lst (e.2.2.map oV)) := fun e he => by
      have q := v3 _ _ (rw3 e he).1
      rw [upd_ne]
      · exact q
      · intro zz; rw [zz, v3 _ _ hF3l] at q; cases q
    have hF4 : upd (upd (upd (upd H7 w1 (.lst [.int z])) w2 (.lst (r'.map oV))) w3 (.lst ([.int z] ++ r'.map oV))) F3 (.dK (kF (swapF fm3 en.1 w3 (some z :: r')))) F3 = some (.dK (kF (swapF fm3 en.1 w3 (some z :: r')))) := upd_same
    have s3 : Same H' (upd (upd (upd (upd H7 w1 (.lst [.int z])) w2 (.lst (r'.map oV))) w3 (.lst ([.int z] ++ r'.map oV))) F3 (.dK (kF (swapF fm3 en.1 w3 (some z :: r'))))) := Same.put (Same.trans s2 v3) hF3
    generalize upd (upd (upd (upd H7 w1 (.lst [.int z])) w2 (.lst (r'.map oV))) w3 (.lst ([.int z] ++ r'.map oV))) F3 (.dK (kF (swapF fm3 en.1 w3 (some z :: r')))) = H8 at hw3l rw4 hF4 s3
    walk_at "vz"
    refine ⟨x_tyL (s3 _ _ hBl), ?_⟩
    walk_at "vz"
    refine ⟨ra, rs.map oV, rfl, .inl (SqL.of (s3 _ _ (s1 _ _ hra))), fun l1 hl1 => ?_⟩
    have v4 := Same.new (o := .lst (rs.map oV)) hl1
    walk_at "vz"
    refine ⟨sl (m := 2) (Nat.le_refl _), fun q4 hq4 => ?_⟩
    have v5 := Same.trans v4 (Same.new (o := .tup [.ref l1, .ref F3]) hq4)
    have n14 : l1 ≠ q4 := ne_of_none upd_same hq4
    walk_at "vz"
    have s4 := Same.trans s3 v5
    refine x_append (s4 _ _ hBl) (by rw [List.length_map, sizeLine_eq]; omega) ?_
    have nB : ∀ {p : Addr} {o : HO}, upd (upd H8 l1 (.lst (rs.map oV))) q4 (.tup [.ref l1, .ref F3]) p = some o → (∀ xs, o ≠ .lst xs) → p ≠ B := fun {p o} e ne zz => by
      rw [zz, s4 _ _ hBl] at e
      exact ne _ (Option.some.inj e).symm
    have s5 : Same H (upd (upd (upd H8 l1 (.lst (rs.map oV))) q4 (.tup [.ref l1, .ref F3])) B (.lst (bs.map V.ref ++ [.ref q4]))) := Same.put (Same.trans s1 s4) hBn
    refine ⟨bs ++ [q4], _, _, _, _, rfl, s5, by rw [upd_ne nsB]; exact s4 _ _ hsp', by rw [upd_same, List.map_append]; rfl, fun b hb => ?_, by rw [List.length_append, List.length_singleton]; omega⟩
    rcases List.mem_append.mp hb with zz | zz
    · exact (hbs b zz).le (Same.le (del_put s4))
    · rw [List.mem_singleton] at zz
      subst zz
      have at9 : ∀ {p : Addr} {o : HO}, upd (upd H8 l1 (.lst (rs.map oV))) b (.tup [.ref l1, .ref F3]) p = some o → p ≠ B → del (upd (upd (upd H8 l1 (.lst (rs.map oV))) b (.tup [.ref l1, .ref F3])) B (.lst (bs.map V.ref ++ [.ref b]))) B p = some o := fun {p o} e n => del_at (by rw [upd_ne n]; exact e) n
      have tq : upd (upd H8 l1 (.lst (rs.map oV))) b (.tup [.ref l1, .ref F3]) b = some (.tup [.ref l1, .ref F3]) := upd_same
      have tl : upd (upd H8 l1 (.lst (rs.map oV))) b (.tup [.ref l1, .ref F3]) l1 = some (.lst (rs.map oV)) := by rw [upd_ne n14, upd_same]
      have nl1 : l1 ≠ B := (ne_of_none (s3 _ _ hBl) hl1).symm
      have nw3 : w3 ≠ B := (ne_of_none (v2 _ _ (s2 _ _ hBl)) hw3).symm
      have rln : ∀ e ∈ swapF fm3 en.1 w3 (some z :: r'), e = (en.1, w3, some z :: r') ∨ e ∈ fm3 := fun e he => by
        obtain ⟨e0, he0, rfl⟩ := List.mem_map.mp he
        by_cases h0 : e0.1 = en.1
        · rw [if_pos h0]; exact .inl rfl
        · rw [if_neg h0]; exact .inr he0
      refine ⟨l1, F3, rs, swapF fm3 en.1 w3 (some z :: r'), ⟨SqT.of (at9 tq (nB tq (fun xs q => by cases q))), SqL.of (at9 tl nl1), .inl (at9 (v5 _ _ hF4) (nB (v5 _ _ hF4) (fun xs q => by cases q))), fun e he => ?_, by rw [swap_keys]; exact nd3, by rw [swapF, List.length_map]; omega, by omega, fun e he => ?_⟩, by omega, fun okv => ?_⟩
      · rcases rln e he with rfl | he0
        · exact SqL.of (at9 (v5 _ _ hw3l) nw3)
        · exact SqL.of (at9 (v5 _ _ (rw4 e he0)) (fun zz => by have := (rw3 e he0).2; rw [zz, hBl] at this; cases this))
      · rcases rln e he with rfl | he0
        · show (some z :: r').length ≤ 100
          rw [List.length_cons]; omega
        · have hmm : (e.1, e.2.2) ∈ ct fm := by rw [← ce3]; exact List.mem_map.mpr ⟨e, he0, rfl⟩
          obtain ⟨e', he', q'⟩ := List.mem_map.mp hmm
          have := M.l4 e' he'
          rw [(Prod.mk.inj q').2] at this
          omega
      · have hin : (en.1, w3, some z :: r') ∈ swapF fm3 en.1 w3 (some z :: r') := List.mem_map.mpr ⟨en, hen, if_pos rfl⟩
        have := okv.2 _ hin z List.mem_cons_self
        rw [swap_keys, kk3] at this
        exact zk this
  · rintro σ H' ⟨bs, a14, a16, a17, a18, rfl, s1, hsp', hBl, hbs, bl⟩
    walk_at "vz"
    refine x_gList (SqL.of hBl) ?_
    refine L_list (xs := bs.map V.ref) (fun i σ H'' => ∃ (a15 : Option L2.V), σ = [some (.ref a), some (.ref ra), some (.ref fa), some (.ref ba), some (.ref v), a5, a6, a7, a8, a9, a10, some (.ref T2), some (.int z), some (.ref B), a14, a15, a16, a17, a18] ∧ Lf H' H'')
      ⟨_, rfl, Lf.refl _⟩ (fun i σ H'' _ ⟨_, _, q⟩ => SqL.of (q.lst hBl)) ?_ ?_
    · rintro i x σ H'' hi ⟨a15, rfl, lf⟩
      obtain ⟨b, hb, rfl⟩ := get_map hi
      obtain ⟨ra', fa', rs', fm', W', h50, nok⟩ := ((hbs b (List.mem_of_getElem? hb)).le (Le.trans (Same.le del_le) lf.le)).ex
      show tIfS _ _ _ _ _ _
      walk_at "vz"
      refine ⟨ba, bk.map V.int, rfl, .inl (SqL.of (lf.lst (s1 _ _ hba))), fun lb hlb => ?_⟩
      have sb := Same.new (o := .lst (bk.map V.int)) hlb
      walk_at "vz"
      refine c_refused pf (W'.le (Same.le sb)) (SqL.of upd_same) (by omega) (Same.sqt sb (lf.le.sqt (Same.sqt s1 hT2))) nok fun H9 lf9 => ?_
      walk_at "vz"
      exact ⟨_, rfl, Lf.trans lf (Lf.trans (Same.lf sb) lf9)⟩
    · rintro σ H'' ⟨a15, rfl, lf⟩
      walk_at "vz"
      refine ⟨sl (m := 1) (Nat.le_refl _), fun w1 hw1 => ?_⟩
      have v1' := Same.new (o := .lst [.int z]) hw1
      have lfH : Lf H H'' := Lf.trans (Same.lf s1) lf
      refine x_cat (SqX.of (v1' _ _ (lfH.lst hba))) (SqX.of upd_same) (by rw [List.length_map, sizeLine_eq, List.length_singleton]; omega) fun w2 hw2 => ?_
      have v2 := Same.trans v1' (Same.new (o := .lst (bk.map V.int ++ [.int z])) hw2)
      walk_at "vz"
      have nokA : ∀ ms : List Int, z ∈ ms → ¬ OkV (rs ++ (srt (dd ms)).map some) fm2 := fun ms hm => not_dd zk2 (.inr hm)
      refine c_refused pf (ns := bk ++ [z]) ((W.le lfH.le).le (Same.le v2)) (SqL.of (by rw [upd_same, List.map_append]; rfl)) (by rw [List.length_append, List.length_singleton]; omega) (Same.sqt v2 (lfH.le.sqt hT2)) (nokA _ (by simp)) fun H9 lf9 => ?_
      refine ⟨true, rfl, x_iteT ?_⟩
      walk_at "vz"
      have lfH9 := Lf.trans lfH (Lf.trans (Same.lf v2) lf9)
      refine ⟨sl (m := 1) (Nat.le_refl _), fun w3 hw3 => ?_⟩
      have v3' := Same.new (o := .lst [.int z]) hw3
      walk_at "vz"
      refine x_cat (SqX.of upd_same) (SqX.of (v3' _ _ (lfH9.lst hba))) (by rw [List.length_map, sizeLine_eq, List.length_singleton]; omega) fun w4 hw4 => ?_
      have v4' := Same.trans v3' (Same.new (o := .lst ([.int z] ++ bk.map V.int)) hw4)
      walk_at "vz"
      refine c_refused pf (ns := [z] ++ bk) ((W.le lfH9.le).le (Same.le v4')) (SqL.of (by rw [upd_same, List.map_append]; rfl)) (by rw [List.length_append, List.length_singleton]; omega) (Same.sqt v4' (lfH9.le.sqt hT2)) (nokA _ (by simp)) fun H10 lf10 => ?_
      exact h H10
end P70

set_option Elab.async false
set_option linter.all false
set_option maxRecDepth 100000
set_option maxHeartbeats 2000000
namespace P70
open PySem PySem.Spec PyProof.Rows L2 SX0 R_k70
variable {K : PySem.W.Frag} {H : Hp} {Q : VK} {E : XK}
theorem oV_map (ns : List Int) : ns.map V.int = (ns.map some).map oV := by rw [List.map_map]; rfl
theorem strict_srt {ys ns : List Int} (h1 : ys.Pairwise (· < ·)) (h2 : ∀ k, k ∈ ys ↔ k ∈ ns) : ys = srt (dd ns) := by
  have nd : ys.Nodup := h1.imp fun h => Int.ne_of_lt h
  have le : ys.Pairwise (· ≤ ·) := h1.imp fun h => Int.le_of_lt h
  refine srt_of ?_ le
  exact (List.perm_ext_iff_of_nodup nd (dd_nodup ns)).mpr fun x => (h2 x).trans (dd_mem ns x).symm
theorem okv_wide {fm : Fm} {rs : List (Option Int)} {bk : List Int} (M : Made fm rs bk) : OkV (rs ++ (srt (dd bk)).map some) fm := by
  refine ⟨fun t ht => ?_, M.ok.2⟩
  rcases List.mem_append.mp ht with z | z
  · exact M.ok.1 t z
  · obtain ⟨k, hk, e⟩ := List.mem_map.mp z
    cases e
    exact M.bk_ _ ((dd_mem bk _).mp ((srt_perm _).mem_iff.mp hk))
theorem eqv_rows {xs ys : List V} {n : Nat} (h : ∀ x ∈ xs, flatB x = true) : Paired (EqV K H (n + 1)) xs xs := by
  clear ys
  induction xs with
  | nil => exact .nil
  | cons a r ih => exact .cons (.inl ⟨rfl, h a List.mem_cons_self⟩) (ih fun x hx => h x (List.mem_cons_of_mem _ hx))
theorem flat_o (l : List (Option Int)) : ∀ x ∈ l.map oV, flatB x = true := fun x hx => by
  obtain ⟨o, _, rfl⟩ := List.mem_map.mp hx
  cases o <;> rfl
theorem eqv_list {a b : Addr} {l : List (Option Int)} {n : Nat} (ha : SqL K H a (l.map oV)) (hb : SqL K H b (l.map oV)) : EqV K H (n + 2) (.ref a) (.ref b) :=
  .inr (.inr (.inl ⟨a, b, _, _, rfl, rfl, ha, hb, eqv_rows (ys := []) (flat_o l)⟩))
theorem ct_row_some {f g : Fm} (h : ct f = ct g) {e} (he : e ∈ f) : ∃ e', e' ∈ g ∧ e'.1 = e.1 ∧ e'.2.2 = e.2.2 := by
  have hm : (e.1, e.2.2) ∈ ct g := by rw [← h]; exact List.mem_map.mpr ⟨e, he, rfl⟩
  obtain ⟨e', he', q⟩ := List.mem_map.mp hm
  exact ⟨e', he', (Prod.mk.inj q).1, (Prod.mk.inj q).2⟩
theorem view_same {v w L1 ra F2 fa : Addr} {rs : List (Option Int)} {fm2 fm : Fm} (hv : SqT K H v [.ref L1, .ref F2]) (hw : SqT K H w [.ref ra, .ref fa]) (h1 : SqL K H L1 (rs.map oV)) (h2 : SqL K H ra (rs.map oV)) (h3 : H F2 = some (.dK (kF fm2))) (h4 : H fa = some (.dK (kF fm)))
    (r2 : Rows K H fm2) (r1 : Rows K H fm) (ce : ct fm2 = ct fm) (nd : (keys fm).Nodup) : TupSame K H (.ref v) (.ref w) := by
  refine ⟨5, by decide, v, w, _, _, rfl, rfl, hv, hw, .cons (eqv_list h1 h2) (.cons (.inr (.inr (.inr ⟨F2, fa, _, _, rfl, rfl, h3, h4, ?_, ?_⟩))) .nil)⟩
  · simp only [kF, List.length_map]; exact ct_len ce
  · intro p hp
    obtain ⟨e, he, rfl⟩ := List.mem_map.mp hp
    obtain ⟨e', he', k1, k2⟩ := ct_row_some ce he
    refine ⟨.ref e'.2.1, ?_, ?_⟩
    · show valV (kF fm) (Sum.inl e.1 : Key) = _
      rw [← k1, val_kF, row_nd nd he']; rfl
    · refine eqv_list (l := e.2.2) (r2 e he) ?_
      rw [← k2]; exact r1 e' he'
theorem x_sset {σ : L2.St} {ta : TE} (h : ta σ H fun x H1 => ∃ (a : Addr) (ns : List Int), x = .ref a ∧ SqL K H1 a (ns.map V.int) ∧ ns.length < 60 ∧
  ∀ (ys : List Int) (q p : Addr) (o : HO), ys.Pairwise (· < ·) → (∀ k, k ∈ ys ↔ k ∈ ns) → H1 q = none → (∀ z, o ≠ .tup z) → q ≠ p → H1 p = none → Q (.ref p) (upd (upd H1 q o) p (.lst (ys.map V.int)))) : tSortedSet K ta σ H Q := h
theorem c_law (pf : PF K) {a : Addr} {ns : List Int} (hs : SqX K H a (ns.map V.int)) (hl : ns.length ≤ 63) (h : ∀ H', Q (.bl true) H') : sp_law K [.ref a] H Q E := by
  have hs' := hs.sql
  refine i_law ?_
  unfold t_law
  walk_at "vv"
  refine c_codes hs' hl fun p cs H1 s1 hp hpl sm cl => ?_
  walk_at "vv"
  refine c_law_view hpl sm (by omega) fun T ra fa ba fm rs bk H2 s2 hfan hT hra hfa hba hrw M => ?_
  have m1 := M.l1; have m2 := M.l2; have m3 := M.l3
  walk_at "vv"
  refine x_unpack (SqT.of hT) rfl ?_
  have s12 := Same.trans s1 s2
  walk_at "vv"
  refine ⟨ra, rs.map oV, rfl, .inl (SqL.of hra), fun L1 hL1 => ?_⟩
  have u1 := Same.new (o := .lst (rs.map oV)) hL1
  walk_at "vv"
  refine c_copy (fm := fm) (fa := fa) rfl (by simp) (by decide) (.inl (u1 _ _ hfa)) (Rows.same u1 hrw) M.nd (by omega) fun F2 fm2 H3 s3 hF2n hF2 ce rw2 => ?_
  walk_at "vv"
  refine ⟨sl (m := 2) (Nat.le_refl _), fun v hv => ?_⟩
  have u3 := Same.new (o := .tup [.ref L1, .ref F2]) hv
  have kk := ct_keys ce
  have fl := ct_len ce
  have t23 := Same.trans u1 (Same.trans s3 u3)
  have W : VW K (upd H3 v (.tup [.ref L1, .ref F2])) v L1 F2 rs fm2 := by
    refine ⟨SqT.of upd_same, SqL.of (u3 _ _ (s3 _ _ upd_same)), .inl (u3 _ _ hF2), fun e he => SqL.of (u3 _ _ (rw2 e he).1), kk ▸ M.nd, by omega, by omega, fun e he => ?_⟩
    obtain ⟨e', he', k1, k2⟩ := ct_row_some ce he
    have := M.l4 e' he'
    rw [k2] at this
    omega
  have hF2' := u3 _ _ hF2
  have hra3 := t23 _ _ hra
  have hfa3 := t23 _ _ hfa
  have hba3 := t23 _ _ hba
  have hrw3 := Rows.same t23 hrw
  have s0 := Same.trans s12 t23
  generalize upd H3 v (.tup [.ref L1, .ref F2]) = H4 at W hF2' hra3 hfa3 hba3 hrw3 s0
  clear t23 u3 hv hF2 rw2 hF2n s3 u1 hL1 hT hra hfa hba hrw
  walk_at "vv"
  refine ⟨ba, bk.map V.int, rfl, .inl (SqL.of hba3), fun hd hhd => ?_⟩
  have u4 := Same.new (o := .lst (bk.map V.int)) hhd
  have hdl := upd_same (H := H4) (a := hd) (o := .lst (bk.map V.int))
  generalize upd H4 hd (.lst (bk.map V.int)) = H5 at u4 hdl
  have W5 := W.le (Same.le u4)
  have okw : OkV (rs ++ (srt (dd bk)).map some) fm := okv_wide M
  have okw2 := ct_okv ce.symm okw
  walk_at "vv"
  refine c_round_paper W5 (SqL.of hdl) (by omega) (fun _ T D G l H6 s6 hTn hDn hGn nDG hT hD tr el g hG => ?_) fun nok => absurd okw2 nok
  walk_at "vv"
  refine x_isiT hT ?_
  walk_at "vv"
  refine x_iteF ?_
  walk_at "vv"
  refine x_lenT (SqT.of hT) ?_
  walk_at "vv"
  refine x_iteF ?_
  walk_at "vv"
  refine x_unpack (SqT.of hT) rfl ?_
  walk_at "vv"
  refine x_sset ?_
  walk_at "vv"
  have hba6 := s6 _ _ (u4 _ _ hba3)
  have hra6 := s6 _ _ (u4 _ _ hra3)
  have hfa6 := s6 _ _ (u4 _ _ hfa3)
  have hrw6 := Rows.same s6 (Rows.same u4 hrw3)
  have hdl6 := s6 _ _ hdl
  have W6 := W5.le (Same.le s6)
  have hF26 := s6 _ _ (u4 _ _ hF2')
  refine ⟨ba, bk, rfl, SqL.of hba6, by omega, fun ys q y o h1 h2 hq ho hqy hy => ?_⟩
  have ey := strict_srt h1 h2
  subst ey
  have v1' : Same H6 (upd (upd H6 q o) y (.lst ((srt (dd bk)).map V.int))) := Same.put (Same.new hq) hy
  have dl : (srt (dd bk)).length ≤ 3 := by rw [(srt_perm _).length_eq]; have := dd_len bk; omega
  refine x_cat (SqX.of (v1' _ _ hra6)) (SqX.of upd_same) (by rw [List.length_map, List.length_map, sizeLine_eq]; omega) fun w hw => ?_
  have v2 := Same.trans v1' (Same.new (o := .lst (rs.map oV ++ (srt (dd bk)).map V.int)) hw)
  have hwl := upd_same (H := upd (upd H6 q o) y (.lst ((srt (dd bk)).map V.int))) (a := w) (o := .lst (rs.map oV ++ (srt (dd bk)).map V.int))
  have ew : rs.map oV ++ (srt (dd bk)).map V.int = (rs ++ (srt (dd bk)).map some).map oV := by rw [List.map_append, oV_map]
  rw [ew] at hwl v2 ⊢
  generalize upd (upd (upd H6 q o) y (.lst ((srt (dd bk)).map V.int))) w (.lst ((rs ++ (srt (dd bk)).map some).map oV)) = H7 at v2 hwl
  have GW7 : GW K H7 w fa (rs ++ (srt (dd bk)).map some) fm := ⟨SqL.of hwl, .inl (v2 _ _ hfa6), Rows.same v2 hrw6, M.nd, by omega, by rw [List.length_append, List.length_map]; omega, fun e he => by have := M.l4 e he; omega⟩
  walk_at "vv"
  refine c_reached GW7 okw fun due H8 s8 hdn hdue => ?_
  walk_at "vv"
  have hD8 := s8 _ _ (v2 _ _ hD)
  have tr8 := (tr.same v2).same s8
  have g1 : Gd fm (plT l) := ⟨g.nd, fun t ht => kk ▸ g.sub t ht⟩
  have st2 : StepsOk (rs ++ (srt (dd bk)).map some) fm2 (plT l) := el ▸ (last_ok okw2).1
  have cl2 : Closed (rs ++ (srt (dd bk)).map some) fm2 (pk (plT l)) := el ▸ (last_ok okw2).2.1
  have st1 := ct_steps ce st2
  have el1 : plT l = lastSteps (rs ++ (srt (dd bk)).map some) fm := el.trans (ct_last ce _)
  refine x_isiL hD8 ?_
  walk_at "vv"
  refine x_iteF ?_
  walk_at "vv"
  refine c_steps_right (GW7.le (Same.le s8)) (SqL.of hD8) tr8 g1 st1 fun H9 s9 => ?_
  walk_at "vv"
  refine x_iteF ?_
  walk_at "vv"
  have s79 := Same.trans v2 (Same.trans s8 s9)
  have hD9 := s9 _ _ hD8
  have tr9 := tr8.same s9
  have ll : l.length ≤ 12 := by have := g1.len; rw [len_plT] at this; omega
  refine x_gList (SqL.of hD9) ?_
  refine lc_firsts (by simp) (SqL.of hD9) tr9.sq (by omega) fun f1 H10 hf1 s10 hf1l => ?_
  walk_at "vv"
  refine ⟨f1, _, rfl, SqL.of hf1l, fun ns' f2 p1 p2 hf2 => ?_⟩
  have e5 := srt_of p1 p2
  subst e5
  have s11 := Same.trans s10 (Same.new (o := .lst ((srt (pk (plT l))).map V.int)) hf2)
  walk_at "vv"
  refine .inl ⟨_, _, dp_ints (SqL.of upd_same), dp_ints (SqL.of (s11 _ _ (s9 _ _ hdue))), shaped_ints _, shaped_ints _, ?_⟩
  rw [eqv_ints, decide_eq_true (by rw [el1])]
  walk_at "vv"
  refine x_iteF ?_
  walk_at "vv"
  have s9x := Same.trans s79 s11
  have hGx := s9x _ _ hG
  refine x_isiL hGx ?_
  walk_at "vv"
  refine x_iteF ?_
  have hDx := s9x _ _ hD
  have hTx := s9x _ _ hT
  have trx := tr.same s9x
  have Wx := W6.le (Same.le s9x)
  have hbax := s9x _ _ hba6
  have hrax := s9x _ _ hra6
  have hfax := s9x _ _ hfa6
  have hrwx := Rows.same s9x hrw6
  have hdlx := s9x _ _ hdl6
  have hF2x := s9x _ _ hF26
  have hduex := s11 _ _ (s9 _ _ hdue)
  have s5x := Same.trans s6 s9x
  generalize upd H10 f2 (.lst ((srt (pk (plT l))).map V.int)) = Hx at hGx hDx hTx trx Wx hbax hrax hfax hrwx hdlx hF2x hduex s5x
  walk_at "vv"
  refine ⟨fa, kF fm, keys fm, rfl, .inl hfax, kF_keys fm, fun ys' y' p1' p2' hy' => ?_⟩
  have e6 := srt_of p1' p2'
  subst e6
  have s12' := Same.new (o := .lst ((srt (keys fm)).map V.int)) hy'
  have skl : (srt (keys fm)).length ≤ 12 := by rw [(srt_perm _).length_eq, keys, List.length_map]; exact m1
  refine x_gList (SqL.of upd_same) ?_
  refine L_lcI (fun t => if (!decide (t ∈ srt (pk (lastSteps (rs ++ (srt (dd bk)).map some) fm)))) = true then some (.int t) else none) (ns := srt (keys fm)) (SqL.of upd_same) (by omega) (fun t H11 _ s R hR => ?_) (fun g2 H11 hg2 s13 eg2 => ?_)
  · refine x_own (by simp) fun hown => ?_
    walk_at "vv"
    refine ⟨due, _, rfl, .inl (SqL.of (s _ _ (s12' _ _ hduex))), rfl, flat_ints _, ?_⟩
    rw [inV_ints]
    have hR' := hR H11 (Same.refl _)
    revert hR'
    cases decide (t ∈ srt (pk (lastSteps (rs ++ (srt (dd bk)).map some) fm))) with
    | true => exact fun hR' => ⟨false, rfl, x_iteF hR'⟩
    | false =>
      intro hR'
      refine ⟨true, rfl, x_iteT ?_⟩
      walk_at "vv"
      exact hR'
  rw [fm_if (fun t => !decide (t ∈ srt (pk (lastSteps (rs ++ (srt (dd bk)).map some) fm))))] at eg2
  have eg : (srt (keys fm)).filter (fun t => !decide (t ∈ srt (pk (lastSteps (rs ++ (srt (dd bk)).map some) fm)))) = gone fm2 (plT l) := by
    unfold gone
    rw [kk, ← el1]
    refine List.filter_congr fun t _ => ?_
    rw [show decide (t ∈ srt (pk (plT l))) = decide (t ∈ pk (plT l)) from by simp only [(srt_perm _).mem_iff]]
  rw [eg] at eg2
  have sg := Same.trans s12' s13
  walk_at "vv"
  refine .inl ⟨_, _, dp_ints (SqL.of (sg _ _ hGx)), dp_ints (SqL.of eg2), shaped_ints _, shaped_ints _, ?_⟩
  rw [eqv_ints, decide_eq_true rfl]
  walk_at "vv"
  refine x_iteF ?_
  walk_at "vv"
  refine c_round_judged (Wx.le (Same.le sg)) (SqL.of (sg _ _ hdlx)) (by omega) (SqT.of (sg _ _ hTx)) (SqL.of (sg _ _ hDx)) (SqL.of (sg _ _ hGx)) (trx.same sg).sq okw2 g st2 cl2 fun H12 s14 => ?_
  have sj := Same.trans sg s14
  walk_at "vv"
  refine ⟨true, true, rfl, rfl, ?_⟩
  walk_at "vv"
  refine x_iteF ?_
  walk_at "vv"
  refine ⟨D, kT l, rfl, .inl (SqL.of (sj _ _ hDx)), fun D2 hD2 => ?_⟩
  have w1 := Same.new (o := .lst (kT l)) hD2
  walk_at "vv"
  refine ⟨G, (gone fm2 (plT l)).map V.int, rfl, .inl (SqL.of (w1 _ _ (sj _ _ hGx))), fun G2 hG2 => ?_⟩
  have w2 := Same.new (o := .lst ((gone fm2 (plT l)).map V.int)) hG2
  walk_at "vv"
  refine ⟨sl (m := 2) (Nat.le_refl _), fun T2 hT2 => ?_⟩
  have w3 := Same.new (o := .tup [.ref D2, .ref G2]) hT2
  have n2D : D2 ≠ D := (ne_of_none (sj _ _ hDx) hD2).symm
  have n2G : D2 ≠ G := (ne_of_none (sj _ _ hGx) hD2).symm
  have g2D : G2 ≠ D := (ne_of_none (w1 _ _ (sj _ _ hDx)) hG2).symm
  have g2G : G2 ≠ G := (ne_of_none (w1 _ _ (sj _ _ hGx)) hG2).symm
  have kD2 := w3 _ _ (w2 _ _ (upd_same (H := H12) (a := D2) (o := .lst (kT l))))
  have kG2 := w3 _ _ (upd_same (H := upd H12 D2 (.lst (kT l))) (a := G2) (o := .lst ((gone fm2 (plT l)).map V.int)))
  have kT2 := upd_same (H := upd (upd H12 D2 (.lst (kT l))) G2 (.lst ((gone fm2 (plT l)).map V.int))) (a := T2) (o := .tup [.ref D2, .ref G2])
  have sk := Same.trans sj (Same.trans w1 (Same.trans w2 w3))
  generalize upd (upd (upd H12 D2 (.lst (kT l))) G2 (.lst ((gone fm2 (plT l)).map V.int))) T2 (.tup [.ref D2, .ref G2]) = Hk at kD2 kG2 kT2 sk
  have kD := sk _ _ hDx
  have kG := sk _ _ hGx
  have trk := trx.same sk
  have s5k := Same.trans s5x sk
  walk_at "vv"
  refine ⟨x_tyL kD, ?_⟩
  walk_at "vv"
  refine ⟨sl (m := 3) (Nat.le_refl _), fun q1 hq1 => ?_⟩
  have w4 := Same.new (o := .tup [.int 0, .non, .int 0]) hq1
  walk_at "vv"
  refine x_append (w4 _ _ kD) (by rw [kT, List.length_map, sizeLine_eq]; omega) ?_
  walk_at "vv"
  have kG1 : upd (upd Hk q1 (.tup [.int 0, .non, .int 0])) D (.lst (kT l ++ [.ref q1])) G = some (.lst ((gone fm2 (plT l)).map V.int)) := by rw [upd_ne nDG.symm]; exact w4 _ _ kG
  refine ⟨x_tyL kG1, ?_⟩
  walk_at "vv"
  have gl1 : (gone fm2 (plT l)).length ≤ 12 := by
    have e7 : (gone fm2 (plT l)).length ≤ (srt (keys fm2)).length := List.length_filter_le _ _
    rw [kk] at e7
    omega
  refine x_append kG1 (by rw [List.length_map, sizeLine_eq]; omega) ?_
  have keep : ∀ {p : Addr} {o : HO}, Hk p = some o → p ≠ D → p ≠ G → upd (upd (upd Hk q1 (.tup [.int 0, .non, .int 0])) D (.lst (kT l ++ [.ref q1]))) G (.lst ((gone fm2 (plT l)).map V.int ++ [.int 0])) p = some o := fun {p o} e n1 n2 => by
    rw [upd_ne n2, upd_ne n1]; exact w4 _ _ e
  have lD2 := keep kD2 n2D n2G
  have lG2 := keep kG2 g2D g2G
  have lT2 := keep kT2 (fun z => by rw [z, kD] at kT2; cases kT2) (fun z => by rw [z, kG] at kT2; cases kT2)
  have trl : Trs (upd (upd (upd Hk q1 (.tup [.int 0, .non, .int 0])) D (.lst (kT l ++ [.ref q1]))) G (.lst ((gone fm2 (plT l)).map V.int ++ [.int 0]))) l := fun e he => by
    have q := trk e he
    exact keep q (fun z => by rw [z, kD] at q; cases q) (fun z => by rw [z, kG] at q; cases q)
  have s5l : Same H5 (upd (upd (upd Hk q1 (.tup [.int 0, .non, .int 0])) D (.lst (kT l ++ [.ref q1]))) G (.lst ((gone fm2 (plT l)).map V.int ++ [.int 0]))) := Same.put (Same.put (Same.trans s5k w4) hDn) hGn
  generalize upd (upd (upd Hk q1 (.tup [.int 0, .non, .int 0])) D (.lst (kT l ++ [.ref q1]))) G (.lst ((gone fm2 (plT l)).map V.int ++ [.int 0])) = Hl at lD2 lG2 lT2 trl s5l
  walk_at "vv"
  refine c_round_paper (W5.le (Same.le s5l)) (SqL.of (s5l _ _ hdl)) (by omega) (fun _ T3 D3 G3 l3 H13 s15 _ _ _ _ hT3 hD3 tr3 el3 g3 hG3 => ?_) fun nok => absurd okw2 nok
  walk_at "vv"
  have el4 : plT l3 = plT l := el3.trans el.symm
  rw [el4] at hG3
  refine .inl ⟨_, _, dp_paper (SqT.of hT3) (SqL.of hD3) (SqL.of hG3) tr3.sq, dp_paper (SqT.of (s15 _ _ lT2)) (SqL.of (s15 _ _ lD2)) (SqL.of (s15 _ _ lG2)) (trl.same s15).sq, shaped_paper _ _, shaped_paper _ _, ?_⟩
  rw [el4, PySem.SeqAt.eqv_refl _ (lay_paper _ _).1]
  walk_at "vv"
  refine x_iteF ?_
  walk_at "vv"
  refine ⟨sl (m := 2) (Nat.le_refl _), fun w6 hw6 => ?_⟩
  have s16 := Same.new (o := .tup [.ref ra, .ref fa]) hw6
  have s17 := Same.trans s5l (Same.trans s15 s16)
  have Wz := W5.le (Same.le s17)
  have hraz := s17 _ _ (u4 _ _ hra3)
  have hfaz := s17 _ _ (u4 _ _ hfa3)
  have hbaz := s17 _ _ (u4 _ _ hba3)
  have hrwz := Rows.same s17 (Rows.same u4 hrw3)
  refine .inr ⟨view_same (rs := rs) (fm2 := fm2) (fm := fm) (L1 := L1) (F2 := F2) (ra := ra) (fa := fa) Wz.tv (SqT.of upd_same) Wz.rt (SqL.of hraz) (s17 _ _ (u4 _ _ hF2')) hfaz Wz.rw hrwz ce M.nd, ?_⟩
  walk_at "vv"
  refine .inl ⟨_, _, dp_ints (SqL.of (s17 _ _ hdl)), dp_ints (SqL.of hbaz), shaped_ints _, shaped_ints _, ?_⟩
  rw [eqv_ints, decide_eq_true rfl]
  refine x_bl ?_
  refine x_iteF ?_
  refine x_next ?_
  have s0z := Same.trans s0 (Same.trans u4 s17)
  exact c_tail pf (Same.sql s0z hs') hraz hfaz hbaz hrwz M Wz ce (SqT.of (s16 _ _ (s15 _ _ lT2))) h
end P70

set_option maxRecDepth 100000
theorem PySem.Challenge.cw_stillheap_k70_round_papers_holds : PySem.Challenge.rw_stillheap_k70_round_papers.Holds := by
  exact D_k70.holds_of fun K pf H a ns h1 h2 h3 h4 => P70.c_law pf h4 h1 fun _ => rfl

