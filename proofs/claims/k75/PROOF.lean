import PyProof.Rows.All
import HandS.ForMost
import HandS.Exc
import HandS.ExcOwn
import HandS.ExcField
import HandS.ExcInit
import HandS.ExcIs
import HandS.IsInst
import HandS.TryOnly
import HandS.TryElse
import HandS.WordsExc
import HandS.Wide
import HandS.Conv
import HandS.SortInts
import HandS.Defaults
import HandS.CallSlots
import HandS.HotCalls
import HandS.Style
import HandS.Deep
import HandS.HeadHook3
import HandS.SortOrd
import HandS.SetFor
import HandS.Strs
import HandS.HeadHook4
import HandS.DeepEq
import KE.KEqNest
import HandS.ClsMeth
import HandS.Text
import HandS.More
import PyProof.StrOps2
import PyProof.StrCalls6
import HandS.Replace
import HandS.Walk
import HandS.EndBits
import HandS.HeadEnd
import HandS.Head2
import PySem.Challenge.RW_stillheap_k75_no_logs_texts
import PyProof.Rows.Walk
set_option Elab.async false
set_option linter.all false
set_option maxRecDepth 100000
set_option maxHeartbeats 2000000
namespace SX0
open PySem PySem.Spec PyProof.Rows L2
/-- a def that keeps its promise, however its function object is called -/
def GoodF (P : Program) (w : World) (K : PySem.W.Frag) (mg : Str → Option Value) (base : Heap) (k : Nat) (f : Addr) (fd : FuncData) (ps : List Str) (sp : Sp) : Prop :=
  FnOk P w K mg base (L2.CX P w) k f fd ps sp ∧ Binds K fd ps [] ∧ PySem.W.keepIn K (.ref f) = true
def Good (P : Program) (w : World) (K : PySem.W.Frag) (mg : Str → Option Value) (base : Heap) (k : Nat) (f : Addr) (ps : List Str) (sp : Sp) : Prop :=
  ∃ fd, GoodF P w K mg base k f fd ps sp
theorem Good.mono {P : Program} {w : World} {K : PySem.W.Frag} {mg : Str → Option Value} {base : Heap} {j k : Nat} {f : Addr} {ps : List Str} {sp : Sp} (g : Good P w K mg base j f ps sp) (h : j ≤ k) : Good P w K mg base k f ps sp := by
  obtain ⟨fd, F, b, kp⟩ := g
  exact ⟨fd, F.mono h, b, kp⟩
/-- what leaves a def, at any slots -/
abbrev WD (E : XK) : WX := fun cls d _ H => E cls d H
abbrev W0 : WX := fun _ _ _ _ => False
section
variable {X : Cx} {W : WX} {k : Nat} {f C : Addr} {ps : List Str} {sp : Sp} {x m : Str} {p pos apos : Pos} {e o : Expr} {es : List Expr} {ta : TE} {t : TA}
theorem pe_cU (G : Good X.prog X.w X.K X.mg X.base k f ps sp) (hr : Room k X.A) (tk : Takes X W) (hg : Gl X x) (hm : X.mg x = some (.ref f))
    (ha : PA X (e :: es) t) (hdb : (x == ("__debug__" : Str)) = false := by decide) (he : starEach (e :: es) X.env = (false, eval e X.env) :: starEach es X.env := by rfl) (hpl : (backTo pos (starEach es X.env)).any (·.1) = false := by rfl) :
    PE X (.Call (.Name x p) (e :: es) [] pos) (tCallS sp (WE W) t) := by
  obtain ⟨fd, F, b, kp⟩ := G
  exact pe_callS F hr hg hm kp b (fun σ => passAt tk σ) ha hdb he hpl
theorem pe_cU0 (G : Good X.prog X.w X.K X.mg X.base k f ps sp) (hr : Room k X.A) (tk : Takes X W) (hg : Gl X x) (hm : X.mg x = some (.ref f))
    (hdb : (x == ("__debug__" : Str)) = false := by decide) :
    PE X (.Call (.Name x p) [] [] pos) (tCallS sp (WE W) tNil) := by
  obtain ⟨fd, F, b, kp⟩ := G
  refine ⟨fun pins s σ H Q I h => ?_⟩
  refine wpAny_Call_Name_kw (ld_glob I hg hm ?_ hdb)
  exact PySem.W.callWith_K0 I.kIn kp (run_fnS (us := []) F hr b (passAt tk σ) I .nil h)
/-- a choice of classes for a method's receiver -/
abbrev Alt := Addr × Addr × Sp
def AltOk (X : Cx) (k : Nat) (ps : List Str) (m : Str) (a : Alt) : Prop := Cls X.K a.1 ∧ Meth X.K a.1 m a.2.1 ∧ Good X.prog X.w X.K X.mg X.base k a.2.1 ps a.2.2
theorem altok_nil {X : Cx} {k : Nat} {ps : List Str} {m : Str} : ∀ al ∈ ([] : List Alt), AltOk X k ps m al := fun _ h => nomatch h
theorem altok_cons {X : Cx} {k : Nat} {ps : List Str} {m : Str} {C f : Addr} {sp : Sp} {r : List Alt} (h : Cls X.K C ∧ Meth X.K C m f ∧ Good X.prog X.w X.K X.mg X.base k f ps sp) (hr : ∀ al ∈ r, AltOk X k ps m al) : ∀ al ∈ (C, f, sp) :: r, AltOk X k ps m al := fun al hm => by
  rcases List.mem_cons.mp hm with e | e
  · rw [e]; exact h
  · exact hr al e
/-- o.m(..), o of one of some classes -/
def tMU (alts : List Alt) (m : Str) (W : WX) (ta : TE) (t : TA) : TE := fun σ H Q => ta σ H fun x H1 => ∃ al ∈ alts, ∃ a dx fs, x = .ref a ∧ H1 a = some (.ins al.1 dx fs) ∧ fs.lookup m = none ∧
  t σ H1 fun vs H2 => al.2.2 (x :: vs) H2 Q (WE W σ)
theorem pe_mU {alts : List Alt} {pl : Sem Bool} (he : PE X o ta) (hal : ∀ al ∈ alts, AltOk X k ps m al) (hr : Room k X.A) (tk : Takes X W) (ha : PA X (e :: es) t)
    (hst : starEach (e :: es) X.env = (false, eval e X.env) :: starEach es X.env := by rfl) (hpl : (backTo pos (starEach es X.env)).any (·.1) = false := by rfl)
    (ht : eval (.Call (.Attribute o m apos) (e :: es) [] pos) X.env = (do
      let ov ← eval o X.env
      standAt apos.atName
      let (f, first) ← holding [ov] (getMethod ov m pl)
      callWith pos f first (backTo pos (starEach (e :: es) X.env)) (backToKw pos (keywordEach [] X.env))) := by rfl) :
    PE X (.Call (.Attribute o m apos) (e :: es) [] pos) (tMU alts m W ta t) := by
  refine ⟨fun pins s σ H Q I h => ?_⟩
  refine PySem.W.methodCall_KW (pl := pl) (thn (he.run pins s σ H _ I h) fun u s1 ⟨x, H1, I1, rx, al, hm, a, dx, fs, ex, ea, l, q⟩ => ?_) ht
  obtain ⟨c, hm, fd, F, b, kp⟩ := hal al hm
  subst ex
  obtain rfl : u = Value.ref a := rx
  refine getmeth_ok I1 ea c hm l ?_
  refine PySem.W.callWith_K (first := [.ref a]) (h₀ := X.base) I.ok.mod.kin hm.kp (thn (ha.run pos pins s1 σ H1 _ I1 q) fun us s2 ⟨vs, H2, I2, r, q2⟩ => ⟨I2.kIn, ?_⟩) hst hpl
  exact run_fnS (us := .ref a :: us) (vs := .ref a :: vs) F hr b (passAt tk σ) I2 (.cons rfl r) q2
theorem pe_mU0 {alts : List Alt} {pl : Sem Bool} (he : PE X o ta) (hal : ∀ al ∈ alts, AltOk X k ps m al) (hr : Room k X.A) (tk : Takes X W)
    (ht : eval (.Call (.Attribute o m apos) [] [] pos) X.env = (do
      let ov ← eval o X.env
      standAt apos.atName
      let (f, first) ← holding [ov] (getMethod ov m pl)
      callWith pos f first (backTo pos (starEach [] X.env)) (backToKw pos (keywordEach [] X.env))) := by rfl) :
    PE X (.Call (.Attribute o m apos) [] [] pos) (tMU alts m W ta tNil) := by
  refine ⟨fun pins s σ H Q I h => ?_⟩
  refine PySem.W.methodCall_KW (pl := pl) (thn (he.run pins s σ H _ I h) fun u s1 ⟨x, H1, I1, rx, al, hm, a, dx, fs, ex, ea, l, q⟩ => ?_) ht
  obtain ⟨c, hm, fd, F, b, kp⟩ := hal al hm
  subst ex
  obtain rfl : u = Value.ref a := rx
  refine getmeth_ok I1 ea c hm l ?_
  exact PySem.W.callWith_K0 (first := [.ref a]) I1.kIn hm.kp (run_fnS (us := [.ref a]) (vs := [.ref a]) F hr b (passAt tk σ) I1 (.cons rfl .nil) q)
/-- C(..) -/
def tMkS (C : Addr) (sp : Sp) (W : WX) (t : TA) : TE := fun σ H Q => t σ H fun vs H1 => ∀ x dx, H1 x = none → H1 dx = none → dx ≠ x →
  sp (.ref x :: vs) (upd (upd H1 dx (.own x)) x (.ins C dx [])) (fun v H2 => v = .non ∧ Q (.ref x) H2) (WE W σ)
theorem inv_made_eq {pins : List (Addr × Obj)} {σ : L2.St} {H : Hp} {s : Shared} (I : Inv X pins σ H s) (C : Addr) : True := True.intro
theorem run_mkS {pins : List (Addr × Obj)} {σ : L2.St} {H : Hp} {s : Shared} {Q : VK} {us : List Value} {vs : List V} (M : Mk X.K C f) (G : Good X.prog X.w X.K X.mg X.base k f ps sp) (hr : Room (k + 1) X.A)
    (tk : Takes X W) (I : Inv X pins σ H s) (r : Vals vs us)
    (h : ∀ x dx, H x = none → H dx = none → dx ≠ x → sp (.ref x :: vs) (upd (upd H dx (.own x)) x (.ins C dx [])) (fun v H2 => v = .non ∧ Q (.ref x) H2) (WE W σ)) :
    wpAny (model X.prog X.w) X.A (call (.ref C) us) (EP X pins σ Q) X.xe s := by
  obtain ⟨fd, F, hb, kp⟩ := G
  have hq := h (s.heap.objs.size + 1) s.heap.objs.size (I.hok.fresh (Nat.le_succ _)) (I.hok.fresh (Nat.le_refl _)) (Nat.ne_of_lt (Nat.lt_succ_self _))
  have I2 := Inv.made (C := C) I
  have r2 : Vals (V.ref (s.heap.objs.size + 1) :: vs) (Value.ref (s.heap.objs.size + 1) :: us) := .cons rfl r
  have hl : (Value.ref (s.heap.objs.size + 1) :: us).length = ps.length := by
    have e := r2.length
    rw [F.len _ _ _ _ hq] at e
    exact e.symm
  have b := hb _ (Value.ref (s.heap.objs.size + 1) :: us) I2.kIn (by rw [List.append_nil]; exact hl)
  rw [List.append_nil] at b
  refine wpAny_call (make_map (f := f) I.kIn M.makes M.init (beq_iff_eq.mp M.fn) (codeAny_mono (F.run _ X.stack _ _ ⟨Value.ref (s.heap.objs.size + 1) :: us, []⟩ (Value.ref (s.heap.objs.size + 1) :: us) _ _ (WE W σ) (hr.make C us [])
    (I2.env0.make C us []) b r2 hq) fun r s' hq' => ?_))
  cases r with
  | error e => exact passAt tk σ pins _ _ e s' I2 hq'
  | ok fl =>
    cases fl with
    | ret u =>
      obtain ⟨v, H', I3, rv, ev, q3⟩ := I2.after hq'
      subst ev
      exact ⟨rv, ⟨V.ref (s.heap.objs.size + 1), H', I3, rfl, q3⟩⟩
    | next => exact False.elim hq'
    | brk => exact False.elim hq'
    | cont => exact False.elim hq'
theorem pe_mkU (M : Mk X.K C f) (G : Good X.prog X.w X.K X.mg X.base k f ps sp) (hr : Room (k + 1) X.A) (tk : Takes X W) (hg : Gl X x) (hm : X.mg x = some (.ref C))
    (ha : PA X (e :: es) t) (hdb : (x == ("__debug__" : Str)) = false := by decide) (he : starEach (e :: es) X.env = (false, eval e X.env) :: starEach es X.env := by rfl) (hpl : (backTo pos (starEach es X.env)).any (·.1) = false := by rfl) :
    PE X (.Call (.Name x p) (e :: es) [] pos) (tMkS C sp W t) := by
  refine ⟨fun pins s σ H Q I h => ?_⟩
  refine wpAny_Call_Name_kw (ld_glob I hg hm ?_ hdb)
  refine PySem.W.callWith_K (h₀ := X.base) I.ok.mod.kin M.kp (thn (ha.run pos pins s σ H _ I h) fun us s1 ⟨vs, H1, I1, r, q⟩ => ⟨I1.kIn, ?_⟩) he hpl
  exact run_mkS M G hr tk I1 r q
theorem pe_mkU0 (M : Mk X.K C f) (G : Good X.prog X.w X.K X.mg X.base k f ps sp) (hr : Room (k + 1) X.A) (tk : Takes X W) (hg : Gl X x) (hm : X.mg x = some (.ref C))
    (hdb : (x == ("__debug__" : Str)) = false := by decide) :
    PE X (.Call (.Name x p) [] [] pos) (tMkS C sp W tNil) := by
  refine ⟨fun pins s σ H Q I h => ?_⟩
  refine wpAny_Call_Name_kw (ld_glob I hg hm ?_ hdb)
  exact PySem.W.callWith_K0 I.kIn M.kp (run_mkS (us := []) M G hr tk I .nil h)
end

/-! ### list + list, whatever holds them -/
/-- a list to be read whose object is known to the letter: tracked, locked, or one of the module's -/
def SqX (K : PySem.W.Frag) (H : Hp) (a : Addr) (xs : List V) : Prop :=
  Rd H a (.lst xs) ∨ ∃ its : List Value, K.lookup a = some { cls := .type "list", data := .seq its.toArray } ∧ its.length ≤ sizeLine ∧ Vals xs its
theorem SqX.sql {K : PySem.W.Frag} {H : Hp} {a : Addr} {xs : List V} (h : SqX K H a xs) : SqL K H a xs := by
  rcases h with h | ⟨its, h, z, r⟩
  · exact .inl h
  · exact .inr ⟨_, its.toArray, _, h, rfl, rfl, rfl, by rw [List.size_toArray]; exact z, by simpa using r⟩
theorem SqX.of {K : PySem.W.Frag} {H : Hp} {a : Addr} {xs : List V} (h : H a = some (.lst xs)) : SqX K H a xs := .inl (.inl h)
theorem Same.sqx {K : PySem.W.Frag} {H H' : Hp} {a : Addr} {xs : List V} (s : Same H H') (h : SqX K H a xs) : SqX K H' a xs := by
  rcases h with (h | ⟨o, h⟩) | h
  · exact .inl (.inl (s _ _ h))
  · exact .inl (.inr ⟨o, s _ _ h⟩)
  · exact .inr h
def rCatS (K : PySem.W.Frag) : R2 := fun x y H Q => ∃ l b xs zs, x = .ref l ∧ y = .ref b ∧ SqX K H l xs ∧ SqX K H b zs ∧ xs.length + zs.length ≤ sizeLine ∧ ∀ p, H p = none → Q (.ref p) (upd H p (.lst (xs ++ zs)))
section
variable {X : Cx}
theorem sqx_at {pins : List (Addr × Obj)} {σ : L2.St} {H : Hp} {s : Shared} {a : Addr} {xs : List V} (I : Inv X pins σ H s) (h : SqX X.K H a xs) :
    ∃ (its : List Value) (n : Nat), Vals xs its ∧ s.heap.get? a = some { cls := .type "list", data := .seq its.toArray n } := by
  rcases h with h | ⟨its, h, z, r⟩
  · obtain ⟨_, its, n, r, e⟩ := h.ok I.hok
    exact ⟨its, n, r, e⟩
  · exact ⟨its, 0, r, I.kIn _ _ h⟩
theorem op_catS : OpR X (binaryOp .Add) (rCatS X.K) := by
  intro pins s σ H x y v u Q I rx ry h
  obtain ⟨l, b, xs, zs, rfl, rfl, hH, hB, hz, q⟩ := h
  cases rx
  cases ry
  obtain ⟨its, n, r, e⟩ := sqx_at I hH
  obtain ⟨its2, n2, r2, e2⟩ := sqx_at I hB
  have l1 := r.length
  have l2 := r2.length
  refine PySem.P.add_list e e2 ?_ (by rw [List.size_toArray, List.size_toArray]; omega)
  have ea : its.toArray ++ its2.toArray = (its ++ its2).toArray := by simp
  rw [ea]
  exact ⟨.ref _, _, I.lnew (t' := s.toks) (r.append r2) (by rw [List.length_append]; omega), rfl, q _ I.fresh⟩
end
end SX0

set_option Elab.async false
set_option linter.all false
set_option maxRecDepth 100000
set_option maxHeartbeats 4000000
namespace SX0
open PySem PySem.Spec PyProof.Rows L2
/-- a caught exception that is kept: its class, its own dict -/
def xob (a : Addr) (cls : Value) (d : Option Addr) : HO := .ext fun h => ∃ o vs, h.get? a = some o ∧ o.cls = cls ∧ o.dict = d ∧ o.data = .fields vs
theorem xob_ok {P : Program} {w : World} {H : Hp} {h : Heap} {a : Addr} {cls : Value} {d : Option Addr} {oe : Obj} {vs : Array Value} (e : h.get? a = some oe) (z : Zc cls d oe) (hd : oe.data = .fields vs) : ObjOk P w H h a (xob a cls d) :=
  ⟨⟨oe, vs, e, z.1, z.2, hd⟩, ⟨_, e⟩, fun h1 h2 q k => by
    obtain ⟨o, vs, e, q⟩ := q
    exact ⟨o, vs, k _ e, q⟩⟩
theorem xob_at {P : Program} {w : World} {H : Hp} {h : Heap} {a : Addr} {cls : Value} {d : Option Addr} (hok : HOk P w H h) (e : H a = some (xob a cls d)) : ∃ o vs, h.get? a = some o ∧ o.cls = cls ∧ o.dict = d ∧ o.data = .fields vs := by
  have x : ObjOk P w H h a (.ext fun h => ∃ o vs, h.get? a = some o ∧ o.cls = cls ∧ o.dict = d ∧ o.data = .fields vs) := hok a _ e
  exact x.1
section
variable {X : Cx} {pins : List (Addr × Obj)} {σ : L2.St} {H : Hp} {s : Shared}
theorem Inv.track {a : Addr} {o : HO} (I : Inv X pins σ H s) (hn : X.s_0.heap.get? a = none) (na : H a = none) (nL : a ≠ X.env.locals) (nC : ∀ x c, X.env.cells.lookup x = some c → c ≠ a)
    (np : ∀ p ∈ X.pn ++ pins, p.1 ≠ a) (ok : ObjOk X.prog X.w (upd H a o) s.heap a o) : Inv X pins σ (upd H a o) s := by
  refine ⟨I.ok, I.os, I.bare, ⟨I.base.keep, I.base.slot, fun b o' e n hx => ?_, I.base.there, fun b xs e => ?_, fun b o' u e => ?_, fun b ps e => ?_⟩, I.loc, I.cell, ?_, fun x c e => ?_, fun p hp => ?_, fun b u e => ?_, I.len⟩
  · rw [upd_ne (fun z => by rw [z, hn] at e; cases e)]
    exact I.base.free b o' e n hx
  · have q := I.base.tups b xs e
    rw [upd_ne (ne_of_none q na)]; exact q
  · have q := I.base.frzs b o' u e
    rw [upd_ne (ne_of_none q na)]; exact q
  · obtain ⟨m, q⟩ := I.base.tbls b ps e
    exact ⟨m, by rw [upd_ne (ne_of_none q na)]; exact q⟩
  · rw [upd_ne (Ne.symm nL)]; exact I.free
  · rw [upd_ne (nC x c e)]; exact I.freeC x c e
  · obtain ⟨e, n, r⟩ := I.pin p hp
    exact ⟨e, by rw [upd_ne (np p hp)]; exact n, r⟩
  · by_cases hb : b = a
    · subst hb
      rw [upd_same] at e; cases e; exact ok
    · rw [upd_ne hb] at e
      exact (I.hok b u e).stay (fun _ _ _ q => q) (fun c q => by rw [upd_ne (ne_of_none q na)]; exact q) fun c xs q => by rw [upd_ne (ne_of_none q na)]; exact q
theorem Inv.suite0 (I : Inv X pins σ H s) (a : Addr) : Inv (X.suite a (X.pn ++ pins)) [] σ H s :=
  ⟨I.ok.suite _ _, I.os, I.bare, I.base, I.loc, I.cell, I.free, I.freeC, fun p hp => by
    rw [List.append_nil] at hp
    exact I.pin p hp, I.hok, I.len⟩
theorem Inv.unsuite0 {a : Addr} {pn' : List (Addr × Obj)} (I : Inv (X.suite a (X.pn ++ pins)) pn' σ H s) (ok : X.Ok) : Inv X pins σ H s :=
  ⟨ok, I.os, I.bare, I.base, I.loc, I.cell, I.free, I.freeC, fun p hp => I.pin p (List.mem_append_left _ hp), I.hok, I.len⟩
end
/-- what the clause 'except x as n' wishes, where the caught exception is kept in the heap -/
def wAsT (K : PySem.W.Frag) (c : Value) (i : Nat) (ts : TS) (Wout : WX) (D : Ends) : WX := fun cls d σ H =>
  ∃ b, PySem.W.exmOne K cls c = some b ∧ (b = true → ∀ a, H a = none → ts { nx := fun σ' H' => D.nx (σ'.set i none) H', rt := D.rt, bk := fun σ' H' => D.bk (σ'.set i none) H', ct := fun σ' H' => D.ct (σ'.set i none) H' } (σ.set i (some (.ref a))) (upd H a (xob a cls d))) ∧
    (b = false → Wout cls d σ H)
section
variable {X : Cx} {x n : Str} {c : Value} {i : Nat} {body suite : List Stmt} {b₀ : Stmt} {np pos pos' : Pos} {tb : WX → TS} {ts : TS} {Wout : WX}
theorem ps_try_asT (hs : X.stack = X.env :: X.outer) (hf : X.env.frame = some X.env.locals) (hex : X.ex = []) (hN : X.N.Nodup) (hi : X.N[i]? = some n) (hln : X.env.kindOf n = some .local) (hc : Names X x c) (tk : Takes X Wout)
    (hb : ∀ (W : WX) (pn : List (Addr × Obj)) (xe : Value → Shared → Prop), Takes (X.tr pn xe) W → PassesOwn (model X.prog X.w) X.A X.env xe → PSs (X.tr pn xe) body (tb W))
    (hsu : ∀ (a : Addr) (pn : List (Addr × Obj)), PSs (X.suite a pn) (b₀ :: suite) ts) :
    PS X (.Try body [.ExceptHandler (some (.Name x np)) (some n) (b₀ :: suite) pos'] [] [] pos) (fun D σ H => tb (wAsT X.K c i ts Wout D) D σ H) := by
  refine ⟨fun pins s σ H D I h => ?_⟩
  have ok := I.ok
  have hfr : X.A.frames = some (X.env :: X.outer) := by rw [ok.frames, hs]
  have hloc : Loc X.env.scope n := .inl hln
  refine wpAny_Try_except ?_
  refine wpAny_mono ((hb (wAsT X.K c i ts Wout D) (X.pn ++ pins) (fun e s₁ => wpAny (model X.prog X.w) X.A (noteFrame e X.env) (fun _ s₂ => wpAny (model X.prog X.w) X.A (setFlight e none) (fun _ s₃ =>
    wpAny (model X.prog X.w) X.A (handleBy e X.env [.ExceptHandler (some (.Name x np)) (some n) (b₀ :: suite) pos']) (SP X pins D) X.xe s₃) X.xe s₂) X.xe s₁) (fun u s' xx => ?_) PassesOwn.looking).run [] s σ H D (I.toTry _) h) (fun f s1 hsp => ?_) (fun e s1 he => he)
  · -- the catch
    obtain ⟨a, B, sI, pins', σ', H', cls, d, rfl, J', nb, up, sky, na, os, ag, b, hb1, hyes, hno⟩ := xx
    have J : Inv X pins σ' H' sI := J'.ofTry ok
    have sky' : Sky B (X.env :: X.outer) a (Zc cls d) X.env.locals s'.heap := by rw [← hs]; exact sky
    show wpAny (model X.prog X.w) X.A (noteFrame (.ref a) X.env) _ _ _
    refine Sky.land Zc.steady hfr hf sky' fun h3 fl3 up3 => ?_
    have J3 : Inv X pins σ' H' { s' with heap := h3 } := J.landed nb fl3.1 (up.trans up3) os ag
    obtain ⟨oe3, vs3, he3, hz3, hd3⟩ := fl3.there
    have notFr : ∀ {h : Heap} {o : Obj} {vs : Array Value}, h.FunFrames B (X.env :: X.outer) → h.get? a = some o → o.data = .fields vs → a ∉ frs (X.env :: X.outer) := fun {h o vs} ff e dd hm => by
      obtain ⟨_, o', e', hnf⟩ := ff.mem hm
      rw [e] at e'; cases e'
      exact hnf _ dd
    have nfr := notFr fl3.2.2.1 he3 hd3
    have nL : a ≠ X.env.locals := fun z => nfr (List.mem_filterMap.mpr ⟨X.env, List.mem_cons_self, by rw [hf, z]⟩)
    have nF : a ∉ X.fs := fun hm => by
      obtain ⟨e, he, q⟩ := List.mem_filterMap.mp hm
      exact nfr (List.mem_filterMap.mpr ⟨e, List.mem_cons_of_mem _ he, q⟩)
    have hBa : B.get? a = none := fl3.2.1
    have hIa : sI.heap.get? a = none := by
      cases q : sI.heap.get? a with
      | none => rfl
      | some o =>
        have z := nb a o q (by rw [hs]; exact nfr)
        rw [hBa] at z; cases z
    have h0a : X.s_0.heap.get? a = none := by
      cases q : X.s_0.heap.get? a with
      | none => rfl
      | some o =>
        obtain ⟨o', z⟩ := J.base.there a o q (by rw [hex]; simp)
        rw [hIa] at z; cases z
    have nC : ∀ x c, X.env.cells.lookup x = some c → c ≠ a := fun x c e z => by
      obtain ⟨v, o, ho, hdt⟩ := J.cell x c e
      rw [z, hIa] at ho; cases ho
    have npin : ∀ p ∈ X.pn ++ pins, p.1 ≠ a := fun p hp z => by
      obtain ⟨e, _⟩ := J.pin p hp
      rw [z, hIa] at e; cases e
    have S3 := J3.suite he3 hd3 na nL nF
    refine wpAny_handleBy_cons (codeAny_handlers_test ?_) (by intro q; cases q)
    have LT : PySem.W.Looks (model X.prog X.w) h3 (typeOf (.ref a)) cls := fun A Q E s k q => wpAny_typeOf_ref (k _ _ he3) (by rw [hz3.1]; exact q)
    have LM := PySem.W.exm_one (M := model X.prog X.w) (J3.kIn) LT hb1
    have test : ∀ {Q : Value → Shared → Prop} {E : Value → Shared → Prop}, Q c { s' with heap := h3 } → wpAny (model X.prog X.w) (X.A.mark (some (.ref a))) (eval (.Name x np) X.env) Q E { s' with heap := h3 } := fun {Q E} q => by
      obtain ⟨hg, hdbg, hm | ⟨hm, hv, hnn⟩⟩ := hc
      · exact ld_glob (X := X.suite a ((a, oe3) :: (X.pn ++ pins))) S3 hg hm q hdbg
      · exact ld_blt (X := X.suite a ((a, oe3) :: (X.pn ++ pins))) S3 hg hm hv q hnn hdbg
    refine test (LM.here ?_)
    cases b with
    | true =>
      refine codeAny_handlers_suite_as ?_
      refine HandSPX.lands_againZ fl3 fun h4 fl4 up4 => ?_
      have J4 : Inv X pins σ' H' { s' with heap := h4 } := J.landed nb fl4.1 ((up.trans up3).trans up4) os ag
      obtain ⟨oe4, vs4, he4, hz4, hd4⟩ := fl4.there
      have J5 : Inv X pins σ' (upd H' a (xob a cls d)) { s' with heap := h4 } := Inv.track J4 h0a na nL nC npin (xob_ok he4 hz4 hd4)
      have S4 := Inv.suite0 J5 a
      refine store_ok (X := X.suite a (X.pn ++ pins)) (v := .ref a) S4 hN hi hloc rfl (fun s5 S5 => ?_) (.inr hln)
      refine wpAny_mono ((hsu a (X.pn ++ pins)).run [] s5 _ _ _ S5 (hyes rfl a na)) (fun f s6 hsp => ?_) (fun _ _ z => False.elim z)
      have end_ : ∀ {σ6 : L2.St} {H6 : Hp} {Q : Shared → Prop}, Inv (X.suite a (X.pn ++ pins)) [] σ6 H6 s6 → (∀ s7, Inv X pins (σ6.set i none) H6 s7 → Q s7) →
          wpAny (model X.prog X.w) X.A (do bindName X.env n .none; unbindBehindTheSuite X.env n pos') (fun _ s7 => Q s7) X.xe s6 := fun {σ6 H6 Q} S6 hq => gone_ok (Inv.unsuite0 S6 ok) hN hi hln hq
      cases f with
      | next =>
        obtain ⟨σ6, H6, S6, q6⟩ := hsp
        exact end_ S6 fun s7 J7 => ⟨_, _, J7, q6⟩
      | brk =>
        obtain ⟨σ6, H6, S6, q6⟩ := hsp
        exact end_ S6 fun s7 J7 => ⟨_, _, J7, q6⟩
      | cont =>
        obtain ⟨σ6, H6, S6, q6⟩ := hsp
        exact end_ S6 fun s7 J7 => ⟨_, _, J7, q6⟩
      | ret u =>
        obtain ⟨v6, σ6, H6, S6, r6, q6⟩ := hsp
        exact end_ S6 fun s7 J7 => ⟨_, _, _, J7, r6, q6⟩
    | false =>
      show wpAny _ X.A (handleBy (.ref a) X.env []) _ _ _
      refine wpAny_handleBy_nil ?_
      obtain ⟨k1, k2, k3, oe, vs, T, oT, ts', he, hz, hd, h1, hr⟩ := id fl3
      unfold PySem.passOn
      refine wpAny_bind (wpAny_field he hd h1 ?_)
      rw [if_neg (show ¬ ((Value.ref T == Value.none) = true) from by simp)]
      have fin : wpAny (model X.prog X.w) X.A (setFlight (.ref a) X.env.frame) (fun _ s4 => wpAny (model X.prog X.w) X.A (throw (.ref a) : Sem Flow) (SP X pins D) X.xe s4) X.xe { s' with heap := h3 } := by
        rw [hf]
        refine HandSPX.setFlight_upZ fl3 fun h4 hh4 up4 => wpAny_throw (tk _ _ ?_)
        exact ⟨a, B, sI, pins, σ', H', cls, d, rfl, J, nb, (up.trans up3).trans up4, .inr (.inr (by rw [hs]; exact hh4)), na, os, ag, hno rfl⟩
      first
        | exact wpAny_bind (wpAny_pure (wpAny_bind fin))
        | exact wpAny_bind fin
  · cases f with
    | next =>
      obtain ⟨σ', H', J', q⟩ := hsp
      exact wpAny_execs_nil ⟨σ', H', J'.ofTry ok, q⟩
    | brk =>
      obtain ⟨σ', H', J', q⟩ := hsp
      exact ⟨σ', H', J'.ofTry ok, q⟩
    | cont =>
      obtain ⟨σ', H', J', q⟩ := hsp
      exact ⟨σ', H', J'.ofTry ok, q⟩
    | ret u =>
      obtain ⟨v, σ', H', J', r, q⟩ := hsp
      exact ⟨v, σ', H', J'.ofTry ok, r, q⟩
end
/-! ### a kept exception is asked -/
/-- a value's type, kept exceptions too -/
inductive TyE (K : PySem.W.Frag) (H : Hp) : V → Value → Prop where
  | base {x : V} {t : Value} (h : TyX K H x t) : TyE K H x t
  | exc {a D : Addr} (C : ExcC K D) (e : H a = some (xob a (.ref D) none)) : TyE K H (.ref a) (.ref D)
section
variable {X : Cx} {pins : List (Addr × Obj)} {σ : L2.St} {H : Hp} {s : Shared}
theorem kit_ofE {x : V} {u t : Value} (I : Inv X pins σ H s) (rx : RelV x u) (ty : TyE X.K H x t) : ∃ P : Heap → Prop, PySem.W.KitX X.K u t P ∧ P s.heap ∧ u ≠ .builtin "__main__.__loader__#opaque" := by
  cases ty with
  | base h => exact kit_of I rx h
  | @exc a D C e =>
    cases (show u = Value.ref a from rx)
    obtain ⟨o, vs, e1, e2, e3, e4⟩ := xob_at I.hok e
    obtain ⟨oc, od, ot, os⟩ := o
    simp only at e2 e3 e4
    subst e2 e3 e4
    exact ⟨_, PySem.W.handS_kitx_exc C.hg C.hk C.hs C.hd C.ha C.hn C.ht C.hm, ⟨e1, rfl, rfl, trivial⟩, fun z => nomatch z⟩
end
def rIsiE (K : PySem.W.Frag) : List V → Hp → VK → Prop := fun xs H Q => ∃ (x c : V) (t u : Value) (b : Bool), xs = [x, c] ∧ ClsV c u ∧ TyE K H x t ∧ PySem.W.kitOne K t u = some b ∧ Q (.bl b) H
def rIsiTE (K : PySem.W.Frag) : List V → Hp → VK → Prop := fun xs H Q => ∃ (x : V) (tp : Addr) (cs : List V) (t : Value) (us : List Value) (b : Bool), xs = [x, .ref tp] ∧ H tp = some (.tup cs) ∧ Paired ClsV cs us ∧ TyE K H x t ∧ PySem.W.kitAny K t us = some b ∧ Q (.bl b) H
section
variable {X : Cx}
theorem call_isiE : CallR X (.builtin "isinstance") (rIsiE X.K) := by
  intro pins s σ H xs us Q I r h
  obtain ⟨x, c, t, u, b, rfl, k, ty, e, q⟩ := h
  obtain ⟨u1, u2, rfl, r1, r2⟩ := vals2 r
  have e2 := k.eq r2
  subst e2
  obtain ⟨P, Z, p, hx⟩ := kit_ofE I r1 ty
  exact PySem.W.kia_one Z I.kIn p e hx fun tk => ⟨.bl b, H, I.tok tk, rfl, q⟩
theorem call_isiTE : CallR X (.builtin "isinstance") (rIsiTE X.K) := by
  intro pins s σ H xs us Q I r h
  obtain ⟨x, tp, cs, t, ws, b, rfl, hT, k, ty, e, q⟩ := h
  obtain ⟨u1, u2, rfl, r1, r2⟩ := vals2 r
  cases (show u2 = Value.ref tp from r2)
  obtain ⟨P, Z, p, hx⟩ := kit_ofE I r1 ty
  obtain ⟨_, its, rv, o, h1, h2, n, h3⟩ := (show ObjOk X.prog X.w H s.heap tp (.tup cs) from I.hok tp _ hT)
  have e3 := ClsV.all k rv
  subst e3
  obtain ⟨oc, od, dt, sl⟩ := o
  simp only at h2 h3
  subst h2 h3
  exact PySem.W.kia_tup Z I.kIn p h1 e hx fun tk => ⟨.bl b, H, I.tok tk, rfl, q⟩
end
end SX0

set_option Elab.async false
set_option linter.all false
set_option maxRecDepth 100000
set_option maxHeartbeats 4000000
namespace SX0
open PySem PySem.Spec PyProof.Rows L2
/-! ### short names of readings -/
abbrev oAdd : R2 := rI0 fun i j => .int (i + j)
abbrev oSub : R2 := rI0 fun i j => .int (i - j)
abbrev oMul : R2 := rI CMul fun i j => .int (i * j)
abbrev oFdv : R2 := rI CDivW fun i j => .int (i / j)
abbrev oMod : R2 := rI (fun _ j => 0 < j) fun i j => .int (i % j)
abbrev oPow : R2 := rI CPow fun i j => .int (i ^ j.toNat)
abbrev oNeg : V → Hp → VK → Prop := rU fun i => .int (-i)
abbrev oLt : R2 := rI0 fun i j => .bl (decide (i < j))
abbrev oLe : R2 := rI0 fun i j => .bl (decide (i ≤ j))
abbrev oGt : R2 := rI0 fun i j => .bl (decide (j < i))
abbrev oGe : R2 := rI0 fun i j => .bl (decide (j ≤ i))
abbrev oIsN : R2 := fun x y H Q => y = .non ∧ Q (.bl (decide (x = .non))) H
abbrev oNotN : R2 := fun x y H Q => y = .non ∧ Q (.bl (!decide (x = .non))) H
abbrev oAddStr : R2 := fun x y H Q => ∃ i j, x = .str i ∧ y = .str j ∧ i.length + j.length ≤ sizeLine ∧ Q (.str (i ++ j)) H
abbrev oInSign : R2 := fun x y H Q => ∃ (c : Nat) (z : Str), x = .str ⟨#[c]⟩ ∧ y = .str z ∧ Q (.bl (decide (c ∈ z.cps.toList))) H
abbrev oNotInSign : R2 := fun x y H Q => ∃ (c : Nat) (z : Str), x = .str ⟨#[c]⟩ ∧ y = .str z ∧ Q (.bl (!decide (c ∈ z.cps.toList))) H
abbrev cLenD : List V → Hp → VK → Prop := fun xs H Q => ∃ a kvs, xs = [V.ref a] ∧ H a = some (.dK kvs) ∧ Q (.int kvs.length) H
abbrev cLenStr : List V → Hp → VK → Prop := fun xs H Q => ∃ z, xs = [.str z] ∧ z.length ≤ sizeLine ∧ Q (.int z.length) H
abbrev cLenSeq (K : PySem.W.Frag) : List V → Hp → VK → Prop := fun xs H Q => ∃ p ys, xs = [.ref p] ∧ (SqL K H p ys ∨ SqT K H p ys) ∧ Q (.int ys.length) H
abbrev cAbs : List V → Hp → VK → Prop := fun xs H Q => ∃ i, xs = [.int i] ∧ Q (.int (if i < 0 then -i else i)) H
abbrev cMax2 : List V → Hp → VK → Prop := fun xs H Q => ∃ i j, xs = [.int i, .int j] ∧ Q (.int (if j > i then j else i)) H
abbrev cMin2 : List V → Hp → VK → Prop := fun xs H Q => ∃ i j, xs = [.int i, .int j] ∧ Q (.int (if j < i then j else i)) H
abbrev cListOf (K : PySem.W.Frag) : List V → Hp → VK → Prop := fun xs H Q => ∃ p ys, xs = [.ref p] ∧ (SqL K H p ys ∨ SqT K H p ys) ∧ ∀ l, H l = none → Q (.ref l) (upd H l (.lst ys))
abbrev cTupleOf (K : PySem.W.Frag) : List V → Hp → VK → Prop := fun xs H Q => ∃ p ys, xs = [.ref p] ∧ ((SqL K H p ys ∧ ∀ l, H l = none → Q (.ref l) (upd H l (.tup ys))) ∨ (SqT K H p ys ∧ Q (.ref p) H))
abbrev cListDk : List V → Hp → VK → Prop := fun xs H Q => ∃ (a : Addr) (kvs : List (Key × V)), xs = [.ref a] ∧ Rd H a (.dK kvs) ∧ ∀ p, H p = none → Q (.ref p) (upd H p (.lst (kvs.map fun kv => kV kv.1)))
abbrev cDictD : List V → Hp → VK → Prop := fun xs H Q => ∃ (a : Addr) (kvs : List (Key × V)), xs = [.ref a] ∧ Rd H a (.dK kvs) ∧ ∀ p, H p = none → Q (.ref p) (upd H p (.dK kvs))
abbrev cDictP (K : PySem.W.Frag) : List V → Hp → VK → Prop := fun xs H Q => ∃ (a : Addr) (ps : List Addr) (kvs : List (Key × V)), xs = [.ref a] ∧ SqL K H a (ps.map V.ref) ∧ Paired (fun p kv => SqT K H p [kV kv.1, kv.2]) ps kvs ∧ ∀ p, H p = none → Q (.ref p) (upd H p (.dK (mergeK [] kvs)))
abbrev cInt1 : List V → Hp → VK → Prop := fun xs H Q => (∃ i, xs = [.int i] ∧ Q (.int i) H) ∨ ∃ k, xs = [.bl k] ∧ Q (.int (if k then 1 else 0)) H
abbrev cIntStr : List V → Hp → VK → Prop := fun xs H Q => ∃ a n, xs = [.str a] ∧ PySem.intText? a = some n ∧ a.length ≤ 640 ∧ Q (.int n) H
abbrev cStrInt : List V → Hp → VK → Prop := fun xs H Q => ∃ i, xs = [.int i] ∧ i.natAbs.log2 < 1920 ∧ Q (.str (toString i)) H
abbrev cSplit : V → List V → Hp → VK → Prop := fun x xs H Q => ∃ a b, x = .str a ∧ xs = [.str b] ∧ (b.length == 0) = false ∧ a.length + 2 ≤ sizeLine ∧ rNewStrs (Txt.split a b) H Q
abbrev cJoin (K : PySem.W.Frag) : V → List V → Hp → VK → Prop := fun x xs H Q => ∃ a p, ∃ ys : List Str, x = .str a ∧ xs = [.ref p] ∧ (SqL K H p (ys.map V.str) ∨ SqT K H p (ys.map V.str)) ∧
      (ys.map (·.length)).sum + ys.length * a.length ≤ 16777216 ∧ Q (.str (Txt.join a ys)) H
abbrev cUpper : V → List V → Hp → VK → Prop := fun x xs H Q => ∃ a, x = .str a ∧ xs = [] ∧ a.length ≤ 5592405 ∧ Q (.str (Txt.upper a)) H
def tTru (K : PySem.W.Frag) (ta : TE) : TT := fun σ H Q => ta σ H fun x H' => ∃ k, TruV K x H' k ∧ Q k H'
def tRz (C : Addr) (W : WX) : TS := fun _ σ H => W (.ref C) none σ H
def tTryT (K : PySem.W.Frag) (c : Value) (i : Nat) (tb : WX → TS) (ts : TS) (Wout : WX) : TS := fun D σ H => tb (wAsT K c i ts Wout D) D σ H
/-! ### the module's constants -/
section
variable {X : Cx}
theorem pe_globI {x : Str} {i : Int} {pos : Pos} (hg : Gl X x) (hm : ∃ t, X.mg x = some (.int i t)) (hd : (x == ("__debug__" : Str)) = false := by decide) : PE X (.Name x pos) (tC (.int i)) := by
  obtain ⟨t, e⟩ := hm
  exact pe_glob hg e ⟨_, rfl⟩ hd
theorem pe_globS {x z : Str} {pos : Pos} (hg : Gl X x) (hm : ∃ t, X.mg x = some (.str z t)) (hd : (x == ("__debug__" : Str)) = false := by decide) : PE X (.Name x pos) (tC (.str z)) := by
  obtain ⟨t, e⟩ := hm
  exact pe_glob hg e ⟨_, rfl⟩ hd
/-! ### fields of instances of some classes -/
def FdOk (K : PySem.W.Frag) (Cs : List Addr) (f : Str) : Prop := ∀ C ∈ Cs, Cls K C ∧ NoAttr K C f
theorem fdok_nil {K : PySem.W.Frag} {f : Str} : FdOk K [] f := fun _ h => nomatch h
theorem fdok_cons {K : PySem.W.Frag} {f : Str} {C : Addr} {Cs : List Addr} (h1 : Cls K C) (h2 : NoAttr K C f) (h : FdOk K Cs f) : FdOk K (C :: Cs) f := fun D hD => by
  rcases List.mem_cons.mp hD with e | e
  · rw [e]; exact ⟨h1, h2⟩
  · exact h D e
def tFd (Cs : List Addr) (f : Str) (ta : TE) : TE := fun σ H Q => ta σ H fun x H1 => ∃ a C dx fs v, x = .ref a ∧ H1 a = some (.ins C dx fs) ∧ C ∈ Cs ∧ fs.lookup f = some v ∧ Q v H1
def sFd (Cs : List Addr) (ta tv : TE) (f : Str) : TS := fun D σ H => tv σ H fun y H1 => ta σ H1 fun x H2 => ∃ a C dx fs, x = .ref a ∧ H2 a = some (.ins C dx fs) ∧ C ∈ Cs ∧ fs.length < 1000 ∧
  D.nx σ (upd H2 a (.ins C dx (putF f y fs)))
def sFdAug (Cs : List Addr) (ta tv : TE) (rd : V → V → Hp → VK → Prop) (f : Str) : TS := fun D σ H => ta σ H fun x H1 => ∃ a C dx fs v, x = .ref a ∧ H1 a = some (.ins C dx fs) ∧ C ∈ Cs ∧ fs.lookup f = some v ∧
  tv σ H1 fun y H2 => rd v y H2 fun z H3 => ∃ dx' fs', H3 a = some (.ins C dx' fs') ∧ fs'.length < 1000 ∧ D.nx σ (upd H3 a (.ins C dx' (putF f z fs')))
theorem pe_fd {Cs : List Addr} {f : Str} {e : Expr} {ta : TE} {pos : Pos} (ok : FdOk X.K Cs f) (he : PE X e ta) (hb : attributeBase e f X.env (eval e X.env) = eval e X.env) : PE X (.Attribute e f pos) (tFd Cs f ta) := by
  refine ⟨fun pins s σ H Q I h => ?_⟩
  refine attr_of hb (thn (he.run pins s σ H _ I h) fun u s1 ⟨x, H1, I1, rx, a, C, dx, fs, v, ex, ea, hC, l, q⟩ => ?_)
  subst ex
  obtain rfl : u = Value.ref a := rx
  exact getattr_ok I1 ea (ok C hC).1 (ok C hC).2 l fun u' s2 I2 ru => ⟨v, H1, I2, ru, q⟩
theorem ps_fd {Cs : List Addr} {f : Str} {o value : Expr} {ta tv : TE} {pos pos' : Pos} (ok : FdOk X.K Cs f) (ha : PE X o ta) (hv : PE X value tv) (hs : swapsWith value (some (.Attribute o f pos')) pos.line X.env = pure false) : PS X (.Assign [.Attribute o f pos'] value pos) (sFd Cs ta tv f) := by
  refine ⟨fun pins s σ H D I h => ?_⟩
  refine plainObj_wpAny_Assign_Attribute (thn (hv.run pins s σ H _ I h) fun u s1 ⟨y, H1, I1, ry, q⟩ => thn (ha.run pins s1 σ H1 _ I1 q) fun ov s2 ⟨x, H2, I2, rx, a, C, dx, fs, ex, ea, hC, l, q2⟩ => ?_) hs
  subst ex
  obtain rfl : ov = Value.ref a := rx
  exact setattr_ok I2 ea (ok C hC).1 (ok C hC).2 l ry fun s3 I3 => ⟨σ, _, I3, q2⟩
theorem ps_fdaug {Cs : List Addr} {f : Str} {o value : Expr} {ta tv : TE} {pos tpos : Pos} {op : Operator} {rd : V → V → Hp → VK → Prop} (ok : FdOk X.K Cs f) (ha : PE X o ta) (hv : PE X value tv) (hop : InOp X op rd) : PS X (.AugAssign (.Attribute o f tpos) op value pos) (sFdAug Cs ta tv rd f) := by
  refine ⟨fun pins s σ H D I h => ?_⟩
  refine wpAny_AugAssign_AttributeAny (thn (ha.run pins s σ H _ I h) fun ov s1 ⟨x, H1, I1, rx, a, C, dx, fs, v, ex, ea, hC, l, q⟩ => ?_)
  subst ex
  obtain rfl : ov = Value.ref a := rx
  refine getattr_ok I1 ea (ok C hC).1 (ok C hC).2 l fun u s2 I2 ru => thn (hv.run pins s2 σ H1 _ I2 q) fun w3 s3 ⟨y, H2, I3, ry, q3⟩ => thn (hop pins s3 σ H2 v y u w3 _ I3 ru ry q3) fun w4 s4 ⟨z, H3, I4, rz, dx', fs', ea', l', q4⟩ => ?_
  exact setattr_ok I4 ea' (ok C hC).1 (ok C hC).2 l' rz fun s5 I5 => ⟨σ, _, I5, q4⟩
end
/-! ### a walk over a dict, locked here or locked already -/
def tLock2 (t : TS) : TS := fun D σ H => tLock t D σ H ∨ ∃ d od u, H d = some (.frz od u) ∧ t ⟨fun σ' H' => H' d = some (.frz od u) ∧ D.nx σ' H', fun v H' => H' d = some (.frz od u) ∧ D.rt v H', fun σ' H' => H' d = some (.frz od u) ∧ D.bk σ' H', fun σ' H' => H' d = some (.frz od u) ∧ D.ct σ' H'⟩ σ H
def tLockE2 (t : TE) : TE := fun σ H Q => tLockE t σ H Q ∨ ∃ d od u, H d = some (.frz od u) ∧ t σ H fun v H' => H' d = some (.frz od u) ∧ Q v H'
section
variable {X : Cx}
theorem ps_lock2 {st : Stmt} {t : TS} (h : PS X st t) : PS X st (tLock2 t) := by
  refine ⟨fun pins s σ H D I hw => ?_⟩
  rcases hw with hw | ⟨d, od, u, hd, hw⟩
  · exact (ps_lock h).run pins s σ H D I hw
  · refine thn (h.run pins s σ _ _ I hw) fun f s1 q => ?_
    cases f with
    | next => obtain ⟨σ', H', I2, e, q⟩ := q; exact ⟨σ', _, I2, q⟩
    | brk => obtain ⟨σ', H', I2, e, q⟩ := q; exact ⟨σ', _, I2, q⟩
    | cont => obtain ⟨σ', H', I2, e, q⟩ := q; exact ⟨σ', _, I2, q⟩
    | ret v => obtain ⟨x, σ', H', I2, r, e, q⟩ := q; exact ⟨x, σ', _, I2, r, q⟩
theorem pe_lock2 {e : Expr} {t : TE} (h : PE X e t) : PE X e (tLockE2 t) := by
  refine ⟨fun pins s σ H Q I hw => ?_⟩
  rcases hw with hw | ⟨d, od, u, hd, hw⟩
  · exact (pe_lock h).run pins s σ H Q I hw
  · exact thn (h.run pins s σ _ _ I hw) fun v s1 ⟨x, H1, I2, r, e2, q⟩ => ⟨x, _, I2, r, q⟩
end
section
variable {X : Cx} {x n : Str} {c : Value} {i : Nat} {body suite : List Stmt} {b₀ : Stmt} {np pos pos' : Pos} {tb : WX → TS} {ts : TS} {Wout : WX}
theorem ps_tryT (hs : X.stack = X.env :: X.outer) (hf : X.env.frame = some X.env.locals) (hex : X.ex = []) (hN : X.N.Nodup) (hi : X.N[i]? = some n) (hln : X.env.kindOf n = some .local) (hm : X.mg x = some c) (tk : Takes X Wout)
    (hb : ∀ (W : WX) (pn : List (Addr × Obj)) (xe : Value → Shared → Prop), Takes (X.tr pn xe) W → PassesOwn (model X.prog X.w) X.A X.env xe → PSs (X.tr pn xe) body (tb W))
    (hsu : ∀ (a : Addr) (pn : List (Addr × Obj)), PSs (X.suite a pn) (b₀ :: suite) ts) (hg : Gl X x := by rfl) (hd : (x == ("__debug__" : Str)) = false := by decide) :
    PS X (.Try body [.ExceptHandler (some (.Name x np)) (some n) (b₀ :: suite) pos'] [] [] pos) (tTryT X.K c i tb ts Wout) :=
  ps_try_asT hs hf hex hN hi hln ⟨hg, hd, Or.inl hm⟩ tk hb hsu
end
section
variable {X : Cx} {W : WX}
/-- raise C('m'), C an own class without __init__ -/
theorem ps_rz {x m : Str} {C : Addr} {j : Nat} {p p2 pos pos2 : Pos} (hc : X.calm = true) (tk : Takes X W) (gC : X.mg x = some (.ref C))
    (q : PySem.W.excIn X.K C He.veBase "ValueError.__new__" = true ∧ PySem.W.keepIn X.K (.ref C) = true ∧ PySem.W.subIn X.K (.ref C) (.type "BaseException") = some true ∧ PySem.W.typeIn X.K (.ref C) = some (.type "type"))
    (hg : Gl X x := by rfl) (hdb : (x == ("__debug__" : Str)) = false := by decide) :
    PS X (.Raise (some (.Call (.Name x p) [.Constant (.str m) j p2] [] pos)) none pos2) (tRz C W) :=
  ps_raise hc tk (pmk_own PySem.F.excBase_ValueError q.1 gC q.2.1 (raises_own q.2.2.1 q.2.2.2) hg hdb)
end
/-! ### sorted(d), a dict of ints, any number of them -/
def cSortedDk : List V → Hp → VK → Prop := fun xs H Q => ∃ (a : Addr) (kvs : List (Key × V)) (ks : List Int), xs = [.ref a] ∧ Rd H a (.dK kvs) ∧ kvs.map (·.1) = ks.map Sum.inl ∧
    ∀ (ys : List Int) (p : Addr), ys.Perm ks → ys.Pairwise (· ≤ ·) → H p = none → Q (.ref p) (upd H p (.lst (ys.map V.int)))
section
variable {X : Cx}
theorem cr_sortedDk (hcalm : X.calm = true) : CallR X (.builtin "sorted") cSortedDk := by
  intro pins s σ H xs us Q I r q
  obtain ⟨a, kvs, ks, ex, hd, hks, q⟩ := q
  subst ex
  obtain ⟨u, eu, rx⟩ := vals1 r
  subst eu
  cases rx
  obtain ⟨z, lo, vs, rel, dd⟩ := dk_rd I.hok hd
  obtain ⟨ep, hat⟩ := dd.dictAt
  have hkeys : vs.map (·.1) = ks.map Sum.inl := rel.keys.symm.trans hks
  have hl : vs.length = ks.length := by
    have e := congrArg List.length hkeys
    rw [List.length_map, List.length_map] at e
    exact e
  have h16 : vs.length ≤ sizeLine := by rw [← rel.length]; exact z
  refine Calls.call_function_entry PyProof.Rows.kind_sorted PyProof.Rows.plain_sorted PyProof.Rows.entry_sorted (PyProof.Rows.args_sorted1 _) ?_
  unfold Builtin.«sorted»
  refine wpAny_bind (m := checkCount "sorted" 1 1 _) (wpAny_pure ?_)
  refine wpAny_bind (PySem.W.kdu_collect (A := X.A.in1) (PySem.W.kdl_dict (knd := mixKind X.prog X.w) (kvs := vs) (ep := ep) lo) (I.ok.hd hcalm) hat h16 fun h' tk acc hk hacc => ?_)
  have hal : acc.toList.length = ks.length := by rw [Array.length_toList, hacc.1, hl]
  have hS : IntsAre acc.toList ks := ints_each hal fun j v e => by
    obtain ⟨k, x, e1, e2⟩ := hacc.2 j v (by rw [← Array.getElem?_toList]; exact e)
    have e3 : (vs.map (·.1))[j]? = some k := by rw [List.getElem?_map, e1]; rfl
    rw [hkeys, List.getElem?_map] at e3
    cases e4 : ks[j]? with
    | none => rw [e4] at e3; cases e3
    | some y =>
      rw [e4] at e3
      have e5 : Sum.inl y = k := Option.some.inj e3
      subst e5
      rcases keyIs_shape (show keyIs (Sum.inl y) v = true from e2) with ⟨i, t, ek, ev⟩ | ⟨z, t, ek, ev⟩
      · cases ek
        exact ⟨y, t, rfl, ev⟩
      · cases ek
  have I1 : Inv X pins σ H { s with heap := h', toks := tk } := I.kept hk
  have hz : acc.toList.length ≤ sizeLine := by rw [hal, ← hl]; exact h16
  refine wpAny_bind (wpAny_newList ?_ hz)
  have hoL : (h'.push (seqObj "list" acc.toList.toArray 0)).get? h'.objs.size = some (seqObj "list" acc.toList.toArray 0) := Heap.get?_push_size _ rfl
  show wpAny _ _ _ _ _ { s with heap := h'.push (seqObj "list" acc.toList.toArray 0), toks := tk }
  refine wpAny_bind (wpAny_holding (wpAny_call_entry PyProof.Rows.slot_list_sort ⟨_, hoL, rfl⟩ PyProof.Rows.entry_list_sort
    (SrtO.list_sort_ord (s := { s with heap := h'.push (seqObj "list" acc.toList.toArray 0), toks := tk }) SrtO.swo_int hoL hz (fun h2 => SrtO.ints_sortable hS h2) fun out h1 h2 => ⟨_, rfl, ?_⟩) (PyProof.Rows.args_list_sort _)))
  obtain ⟨g1, g2, g3⟩ := SrtO.ints_out hS h1 h2
  obtain ⟨e', he'⟩ := PyProof.Rows.sortedHeap_at (vs := acc.toList) (out := out.toArray) hoL
  have hlen : ((out.map SrtO.iv).map V.int).length ≤ sizeLine := by
    rw [List.length_map, g2.length_eq]
    rw [hal] at hz
    exact hz
  refine wpAny_pure ⟨_, rfl, .ref h'.objs.size, upd H h'.objs.size (.lst ((out.map SrtO.iv).map V.int)), I1.laid (t' := tk) (fun b u e => ?_) (Nat.le_refl _)
    (show ObjOk X.prog X.w _ _ _ (.lst ((out.map SrtO.iv).map V.int)) from ⟨hlen, out, e', vals_of_ints g1, he'⟩), rfl, q _ _ g2 g3 (I1.hok.fresh (Nat.le_refl _))⟩
  have hb : b < h'.objs.size := Heap.lt_size e
  rw [PyProof.Rows.sortedHeap_old (Nat.ne_of_lt hb) (by rw [size_push']; exact Nat.lt_succ_of_lt hb)]
  exact Heap.get?_push_of_some _ e
end
end SX0

set_option Elab.async false
set_option linter.all false
set_option maxRecDepth 100000
set_option maxHeartbeats 4000000
namespace L2
open PySem PySem.Spec PyProof.Rows
section
variable {P : Program} {w : World} {A : Around} {E : Value → Shared → Prop} {s : Shared}
theorem call_set_lstI {l : Addr} {items : Array Value} (ns : List Int) {Q : Value → Shared → Prop} (hh : A.handled = none) (hl : s.heap.IsList l items) (hit : IntsAre items.toList ns) (hb : ns.length + 1 < scanBound)
    (h : ∀ (h' : Heap) (tk c : Nat), SetR w h' s.heap.objs.size (fun j => decide (j ∈ ns)) c → c ≤ ns.length → (∀ b o, s.heap.get? b = some o → h'.get? b = some o) → Q (.ref s.heap.objs.size) { s with heap := h', toks := tk }) :
    wpAny (model P w) A (call (.type "set") [.ref l]) Q E s := by
  have hisz : items.size = ns.length := by
    have q := IntsAre.length hit
    rw [Array.length_toList] at q
    exact q
  obtain ⟨c, tl, hmro⟩ := F.called_set.mro
  have hmade := F.called_set.made
  have hsub := F.called_set.sub
  refine wpAny_call (codeAny_of_tree ?_)
  show wpAny _ _ (callAny (.type "set") _) _ _ _
  refine wpAny_pure ⟨Code.quiet_builtin _ (by decide +kernel), codeAny_builtin F.entry_type_call ?_⟩
  rw [Around.under_plain (weight_type_call_type "set" [.ref l] []) rfl]
  have h1 := F.called_set.notType
  have h2 := F.called_set.canCreate
  have hct := F.typeCall_set_1 (.ref l)
  repeat (any_goals (first | assumption | wp_step))

  refine codeAny_mono (code_set_led1 (.ref l) (E := E) (Q₁ := fun obj s₁ => obj = .ref s.heap.objs.size ∧ s₁ = { s with heap := s.heap.push { cls := .type "set", dict := none, data := .set #[] 0 (.fresh 0 0 (!w.params.followText "set-order")) } }) ⟨rfl, rfl⟩) fun r s₁ hr => ?_
  cases r with
  | error e => exact hr
  | ok fl =>
    cases fl with
    | ret obj =>
      obtain ⟨rfl, rfl⟩ := hr
      have hS : (s.heap.push { cls := .type "set", dict := none, data := .set #[] 0 (.fresh 0 0 (!w.params.followText "set-order")) }).get? s.heap.objs.size = some { cls := .type "set", dict := none, data := .set #[] 0 (.fresh 0 0 (!w.params.followText "set-order")) } := Heap.get?_push_size _ rfl
      have hT : Shared.TypeIs { s with heap := s.heap.push { cls := .type "set", dict := none, data := .set #[] 0 (.fresh 0 0 (!w.params.followText "set-order")) } } (.ref s.heap.objs.size) "set" := ⟨_, hS, rfl⟩
      have hli := F.called_set.init.lookup
      have hbi := F.called_set.init.bind (.ref s.heap.objs.size)
      repeat (any_goals (first | assumption | wp_step))

      refine codeAny_mono (codeAny_call_builtin (R := wants (fun r s₂ => r = .none ∧ ∃ h' tk c, s₂ = { s with heap := h', toks := tk } ∧ SetR w h' s.heap.objs.size (fun j => decide (j ∈ ns)) c ∧ c ≤ ns.length ∧
          (∀ b o, s.heap.get? b = some o → h'.get? b = some o)) E) F.called_set.init.plain F.entry_set_init (check_set_init_1 hT ?_)) fun r₂ s₂ hr₂ => ?_
      · obtain ⟨ol, hol, hcl, nl, hdl⟩ := hl
        obtain ⟨ocls, odict, odata, oslots⟩ := ol
        simp only at hcl hdl
        subst hcl; subst hdl
        have hol' : (s.heap.push { cls := .type "set", dict := none, data := .set #[] 0 (.fresh 0 0 (!w.params.followText "set-order")) }).get? l = some { cls := .type "list", dict := odict, data := .seq items nl, slots := oslots } := Heap.get?_push_of_some _ hol
        have hsls := F.sub_list_set
        have hslf := F.sub_list_frozenset
        have hne : (Value.type "list" == Value.type "dict") = false := by decide
        have hl1 : (s.heap.push { cls := .type "set", dict := none, data := .set #[] 0 (.fresh 0 0 (!w.params.followText "set-order")) }).IsList l items := ⟨_, hol', rfl, nl, rfl⟩
        unfold Builtin.«set.__init__» noKeywords Builtin.Frozenset.updateFrom
        generalize hPI : pyIter = PI
        wp_walk
        subst hPI

        refine wpAny_pyIter_list hl1 ?_
        refine wpAny_bind (wpAny_runValue ?_)
        have hlS : l < s.heap.objs.size := Heap.lt_size hol
        have hh3 : A.in1.in1.in1.handled = none := by simp [hh]
        have hz1 : (s.heap.push { cls := .type "set", dict := none, data := .set #[] 0 (.fresh 0 0 (!w.params.followText "set-order")) }).objs.size = s.heap.objs.size + 1 := Heap.size_push ..
        have hneI : l ≠ (s.heap.push { cls := .type "set", dict := none, data := .set #[] 0 (.fresh 0 0 (!w.params.followText "set-order")) }).objs.size := by
          rw [Heap.size_push]; exact Nat.ne_of_lt (Nat.lt_succ_of_lt hlS)
        have hSf : s.heap.objs.size ∉ [(s.heap.push { cls := .type "set", dict := none, data := .set #[] 0 (.fresh 0 0 (!w.params.followText "set-order")) }).objs.size, l] := by
          rw [Heap.size_push]; simp only [List.mem_cons, List.mem_singleton, List.not_mem_nil, or_false, not_or]
          exact ⟨Nat.ne_of_lt (Nat.lt_succ_self _), Nat.ne_of_gt hlS⟩
        have hval : ∀ (i : Nat) (v : Value), items[i]? = some v → ∃ k t, ns[i]? = some k ∧ v = .int k t := fun i v hv => by
          have hi : i < ns.length := by rw [← hisz]; exact (Array.getElem?_eq_some_iff.mp hv).1
          obtain ⟨t, e⟩ := PyProof.Rows.IntsAre.int_at hit i v (by rw [Array.getElem?_toList]; exact hv)
          refine ⟨ns[i], t, List.getElem?_eq_getElem hi, ?_⟩
          rw [e, List.getD_eq_getElem?_getD, List.getElem?_eq_getElem hi] <;> rfl
        refine set_update_ints ((Walks.list hh3 _ l hneI items).toS) s.heap.objs.size
          hSf ns hisz hb hval (items.size - 0) 0 _ (by omega) (Nat.zero_le _)
          ⟨⟨_, Heap.get?_push_size _ rfl, rfl, rfl⟩, (hl1.push _)⟩ ?hS0 ?hR
        case hS0 =>
          have hget : ((s.heap.push { cls := .type "set", dict := none, data := .set #[] 0 (.fresh 0 0 (!w.params.followText "set-order")) }).push { cls := .type "list_iterator", data := .fields #[.ref l, .int 0 0] }).get? s.heap.objs.size
              = some { cls := .type "set", dict := none, data := .set #[] 0 (.fresh 0 0 (!w.params.followText "set-order")) } := Heap.get?_push_of_some _ hS
          exact ⟨0, Nat.le_refl 0, setR_new_at hget⟩
        case hR =>
          intro s' c' hm hc' hS'
          obtain ⟨h', g2, d', tk', os'⟩ := s'
          have eg : g2 = s.gens := hm.gens
          have ed : d' = s.drawn := hm.drawn
          have eo : os' = s.os := hm.os
          subst eg; subst ed; subst eo
          show wpAny _ _ _ _ _ _
          refine wpAny_pure ?_
          show wpAny _ _ (ret Value.none) _ _ _
          rw [hisz] at hc'
          refine wpAny_pure ⟨rfl, h', tk', c', rfl, hS', hc', fun b o e => ?_⟩
          have hb0 : b < s.heap.objs.size := Heap.lt_size e
          have hb1 : b ≠ s.heap.objs.size := Nat.ne_of_lt hb0
          have hb2 : b ≠ (s.heap.push { cls := .type "set", dict := none, data := .set #[] 0 (.fresh 0 0 (!w.params.followText "set-order")) }).objs.size := by
            rw [Heap.size_push]; exact Nat.ne_of_lt (Nat.lt_succ_of_lt hb0)
          exact hm.heap b o (by simp only [List.mem_cons, List.mem_singleton, List.not_mem_nil, or_false, not_or]; exact ⟨hb1, hb2⟩) (Heap.get?_push_of_some _ (Heap.get?_push_of_some _ e))

      · cases r₂ with
        | error e => exact hr₂
        | ok fl₂ =>
          cases fl₂ with
          | ret r =>
            obtain ⟨rfl, h', tk, c', rfl, hS', hc', hk'⟩ := hr₂
            repeat (any_goals (first | assumption | wp_step))
            exact h _ _ _ hS' hc' hk'
          | _ => exact hr₂.elim
    | _ => exact hr.elim

end
end L2
namespace SX0
open PySem PySem.Spec PyProof.Rows L2
/-- sorted(set(xs)), ints, fewer than 60 of them -/
def tSortedSet (K : PySem.W.Frag) (ta : TE) : TE := fun σ H Q => ta σ H fun x H1 => ∃ (a : Addr) (ns : List Int), x = .ref a ∧ SqL K H1 a (ns.map V.int) ∧ ns.length < 60 ∧
  ∀ (ys : List Int) (q p : Addr) (o : HO), ys.Pairwise (· < ·) → (∀ k, k ∈ ys ↔ k ∈ ns) → H1 q = none → (∀ z, o ≠ .tup z) → q ≠ p → H1 p = none → Q (.ref p) (upd (upd H1 q o) p (.lst (ys.map V.int)))
section
variable {X : Cx}
def cSetL (K : PySem.W.Frag) (w : World) : List V → Hp → VK → Prop := fun vs H Q => ∃ (a : Addr) (ns : List Int), vs = [.ref a] ∧ SqL K H a (ns.map V.int) ∧ ns.length < 60 ∧
  ∀ (p : Addr) (n : Nat), H p = none → n ≤ ns.length → Q (.ref p) (upd H p (SetO w p (fun j => decide (j ∈ ns)) n))
theorem call_setL (hc : X.calm = true) : CallR X (.type "set") (cSetL X.K X.w) := by
  intro pins s σ H vs us Q I r h
  obtain ⟨a, ns, rfl, hs, hlen, q⟩ := h
  obtain ⟨its, rv, hl, hz⟩ := I.list hs
  rw [Vals.ref1 r]
  refine call_set_lstI ns (I.ok.hd hc) hl.isList (by simpa using rv.ints) (by unfold scanBound; omega) fun h' tk c hS hc hk => ?_
  exact ⟨.ref s.heap.objs.size, _, I.laid (t' := tk) hk (Nat.le_refl _) (setO_new hS), rfl, q _ c (I.hok.fresh (Nat.le_refl _)) hc⟩
/-- a reading that may be weakened at its end -/
def tMon (ta : TE) : TE := fun σ H Q => ∃ Q0 : VK, ta σ H Q0 ∧ ∀ v H', Q0 v H' → Q v H'
theorem PE.mon {a : Expr} {ta : TE} (ha : PE X a ta) : PE X a (tMon ta) := ⟨fun pins s σ H Q I ⟨Q0, h, hq⟩ => thn (ha.run pins s σ H Q0 I h) fun u s1 ⟨v, H', I', r, q⟩ => ⟨v, H', I', r, hq _ _ q⟩⟩
theorem PE.imp {a : Expr} {ta tb : TE} (ha : PE X a ta) (h : ∀ σ H Q, tb σ H Q → ta σ H Q) : PE X a tb := ⟨fun pins s σ H Q I q => ha.run pins s σ H Q I (h _ _ _ q)⟩
theorem setO_not {w : World} {a : Addr} {S : Int → Bool} {n : Nat} {z : List V} : SetO w a S n ≠ .tup z := fun e => by
  have e' : HO.ext _ = HO.tup z := e
  cases e'
theorem pe_sortedSet {a : Expr} {ta : TE} {p1 p2 pos1 pos2 : Pos} (hc : X.calm = true) (hg1 : Gl X "sorted") (hm1 : X.mg "sorted" = none) (hg2 : Gl X "set") (hm2 : X.mg "set" = none) (ha : PE X a ta)
    (hpl1 : starEach [a] X.env = [(false, eval a X.env)] := by rfl) :
    PE X (.Call (.Name "sorted" p1) [.Call (.Name "set" p2) [a] [] pos2] [] pos1) (tSortedSet X.K ta) := by
  refine PE.imp (ta := tCB (rSortedSet X.w) (tCons (tCB (cSetL X.K X.w) (tCons (tMon ta) tNil)) tNil)) (pe_callB (cr_sortedSet hc) hg1 hm1 (by decide +kernel) (pa_cons (pe_callTy (call_setL hc) hg2 hm2 (by decide +kernel) (pa_cons (PE.mon ha) pa_nil (hs := hpl1)) (he := hpl1)) pa_nil)) fun σ H Q h => ?_
  refine ⟨_, h, fun x H1 hx => ?_⟩
  obtain ⟨l, ns, rfl, hs, hlen, k⟩ := hx
  refine ⟨l, ns, rfl, hs, hlen, fun p n hp hn => ?_⟩
  refine ⟨p, _, n, rfl, upd_same, by omega, fun ys p2 h1 h2 h3 h4 => ?_⟩
  have ne : p ≠ p2 := fun z => by rw [← z, upd_same] at h4; cases h4
  rw [upd_ne ne.symm] at h4
  exact k ys p p2 _ h1 (fun j => (h2 j).trans (by simp)) hp (fun z => setO_not) ne h4
end
end SX0

set_option Elab.async false
set_option linter.all false
set_option maxRecDepth 100000
namespace PySem.SeqAt
open AutoSeq1 (wpAny_loadPart')
open MeetsSeq MeetsSeq2 MeetsSeq3 SeqRoads2
variable {prog : Program} {w : World}
/-- != of two tuples of equal items -/
theorem tupNe_run (l b : Addr) (us vs : Array Value) (n m : Nat) (dl db : Option Addr) (sl sb : Array (Option Value)) (hz : us.size = vs.size) :
    MeetsIn prog w (Builtin.«tuple.__ne__» ⟨[.ref l, .ref b], []⟩)
      (fun A R s => (s.heap.get? l = some { cls := .type "tuple", dict := dl, data := .seq us n, slots := sl } ∧ s.heap.get? b = some { cls := .type "tuple", dict := db, data := .seq vs m, slots := sb }) ∧
        (∀ j (h1 : j < us.size) (h2 : j < vs.size), EqIn prog w A.in1 s us[j] vs[j] true) ∧ R (.ok (.ret (.bool false))) s) :=
  .of_wp fun A R s hh => by
    obtain ⟨hp, g, d, tk, os⟩ := s
    obtain ⟨⟨hl, hb⟩, he, hR⟩ := hh
    dsimp only at hl hb
    have ft := AutoSeq1.sub_tuple_tuple
    wp_walk using wpAny_loadPart' hl, wpAny_loadPart' hb, wpAny_forIn_list _ (fun rest c s' => c.1 = none ∧ s' = ⟨hp, g, d, tk, os⟩ ∧ ∃ i, rest = (us.toList.zip vs.toList).drop i) _
    case turn =>
      rintro ⟨p, q⟩ rest c s' ⟨hc, rfl, i, hi⟩
      have e0 : ((us.toList.zip vs.toList).drop i)[0]? = some (p, q) := by rw [← hi]; rfl
      rw [List.getElem?_drop, Nat.add_zero] at e0
      obtain ⟨e1, e2⟩ := List.getElem?_zip_eq_some.mp e0
      rw [Array.getElem?_toList] at e1 e2
      obtain ⟨k1, e1⟩ := Array.getElem?_eq_some_iff.mp e1
      obtain ⟨k2, e2⟩ := Array.getElem?_eq_some_iff.mp e2
      subst e1 e2
      have hr : rest = (us.toList.zip vs.toList).drop (i + 1) := by
        have := congrArg List.tail hi
        simpa using this
      refine wpAny_bind (he i k1 k2 _ _ ?_)
      wp_walk
      exact ⟨rfl, rfl, i + 1, hr⟩
    case fin =>
      rintro ⟨c1, c2⟩ s' ⟨hc, rfl, i, hi⟩
      simp only at hc
      subst hc
      wp_walk
      exact ⟨_, rfl, by simpa [Builtin.Tuple.tupleCompareSizes, hz] using hR⟩
    case h => exact ⟨rfl, rfl, 0, rfl⟩
theorem rcNe_tups {A : Around} {s : Shared} {E : Value → Shared → Prop} {l b : Addr} {us vs : Array Value} {Q : Value → Shared → Prop} (hl : s.heap.IsTuple l us) (hb : s.heap.IsTuple b vs) (hz : us.size = vs.size) (hu : A.units < cLine)
    (he : ∀ j (h1 : j < us.size) (h2 : j < vs.size), EqIn prog w A.in1 s us[j] vs[j] true) (h : Q (.bool false) s) : wpAny (model prog w) A (richCompare .NotEq (.ref l) (.ref b)) Q E s := by
  obtain ⟨⟨c1, d1, x1, s1⟩, o1, k1, n, y1⟩ := id hl
  obtain ⟨⟨c2, d2, x2, s2⟩, o2, k2, m, y2⟩ := id hb
  simp only at k1 y1 k2 y2
  subst k1 y1 k2 y2
  exact wpAny_richCompare_same_room (T := "tuple") (op := .NotEq) ⟨_, o1, rfl⟩ ⟨_, o2, rfl⟩ F.slot_tuple_ne (call_meetsIn F.slot_tuple_ne ⟨_, o1, rfl⟩ F.entry_tuple_ne (F.args_tuple_ne_2 _ _) (tupNe_run l b us vs n m d1 d2 s1 s2 hz)
    ⟨⟨o1, o2⟩, he, show Value.bool false ≠ Value.notImplemented ∧ Q (.bool false) s from ⟨(fun x => nomatch x), h⟩⟩) hu
end PySem.SeqAt
namespace SX0
open PySem PySem.Spec PyProof.Rows L2
section
variable {X : Cx}
/-- a == b and a != b of two tuples whose items are equal, lists and dicts among them -/
def TupSame (K : PySem.W.Frag) (H : Hp) (x y : V) : Prop := ∃ n, n ≤ 60 ∧ ∃ a b xs ys, x = .ref a ∧ y = .ref b ∧ SqT K H a xs ∧ SqT K H b ys ∧ Paired (EqV K H n) xs ys
def rEqU (K : PySem.W.Frag) : R2 := fun x y H Q => rEqD K x y H Q ∨ (TupSame K H x y ∧ Q (.bl true) H)
def rNeU (K : PySem.W.Frag) : R2 := fun x y H Q => rNeD K x y H Q ∨ (TupSame K H x y ∧ Q (.bl false) H)
theorem tup_run {pins : List (Addr × Obj)} {σ : L2.St} {H : Hp} {s : Shared} (I : Inv X pins σ H s) {x y : V} {v u : Value} (h : TupSame X.K H x y) (rx : RelV x v) (ry : RelV y u) :
    ∃ (l b : Addr) (us vs : List Value) (n : Nat), n ≤ 60 ∧ v = .ref l ∧ u = .ref b ∧ s.heap.IsTuple l us.toArray ∧ s.heap.IsTuple b vs.toArray ∧ us.length = vs.length ∧
      ∀ A : Around, A.units + n < cLine → ∀ j (h1 : j < us.toArray.size) (h2 : j < vs.toArray.size), SeqAt.EqIn X.prog X.w A s us.toArray[j] vs.toArray[j] true := by
  obtain ⟨n, hn, a, b, xs, ys, rfl, rfl, ha, hb, hp⟩ := h
  cases (show v = Value.ref a from rx)
  cases (show u = Value.ref b from ry)
  obtain ⟨us, r1, p1, _⟩ := I.tuple ha
  obtain ⟨ws, r2, p2, _⟩ := I.tuple hb
  refine ⟨a, b, us, ws, n, hn, rfl, rfl, p1, p2, by rw [← r1.length, ← r2.length]; exact Paired.length hp, fun A hu j h1 h2 => ?_⟩
  have k := items_run (eqV_run I n A hu) hp r1 r2 j (by simpa using h1) (by simpa using h2)
  simp only [List.getElem_toArray]
  exact fun E Q q => k E Q q
theorem op_eqU (hu : X.A.units + 64 < cLine) : OpR X (compareOp .Eq) (rEqU X.K) := by
  intro pins s σ H x y v u Q I rx ry h
  rcases h with h | ⟨h, q⟩
  · exact op_eqD hu pins s σ H x y v u Q I rx ry h
  · obtain ⟨l, b, us, vs, n, hn, rfl, rfl, p1, p2, hz, he⟩ := tup_run I h rx ry
    refine SeqAt.rcIn_tuples (e := fun _ => true) p1 p2 (by omega) (he X.A.in1 (by show X.A.units + 1 + n < cLine; omega)) ?_
    rw [show ((List.range (min us.toArray.size vs.toArray.size)).all (fun _ => true) && us.toArray.size == vs.toArray.size) = true from by simp [hz]]
    exact ⟨.bl true, H, I, rfl, q⟩
theorem op_neU (hu : X.A.units + 64 < cLine) : OpR X (compareOp .NotEq) (rNeU X.K) := by
  intro pins s σ H x y v u Q I rx ry h
  rcases h with h | ⟨h, q⟩
  · exact op_neD hu pins s σ H x y v u Q I rx ry h
  · obtain ⟨l, b, us, vs, n, hn, rfl, rfl, p1, p2, hz, he⟩ := tup_run I h rx ry
    exact SeqAt.rcNe_tups p1 p2 (by simpa using hz) (by omega) (he X.A.in1 (by show X.A.units + 1 + n < cLine; omega)) ⟨.bl false, H, I, rfl, q⟩
end
/-! ### checks of an exception class that is asked -/
def excCB (K : PySem.W.Frag) (D : Addr) : Bool :=
  He.eqO (PySem.W.findIn K (.ref D) "__getattribute__") (some (some (.builtin "BaseException.__getattribute__"))) && (He.eqO (PySem.W.findIn K (.ref D) "__getattr__") (some none) && (decide (PySem.W.subIn K (.ref D) (.type "BaseException") = some true) &&
  (PySem.W.hasDictIn K D && (He.eqO (PySem.W.findIn K (.ref D) "__class__") (some (some (.builtin "object.__class__"))) && (He.eqO (PySem.W.specialIn K (.builtin "object.__class__") "__get__") (some (some (.builtin "getset_descriptor.__get__"))) &&
  (decide (PySem.W.takesIn K (.builtin "object.__class__") = some true) && decide (PySem.W.mroIn K D (.type "object") = some true)))))))
theorem excCB_ok {K : PySem.W.Frag} {D : Addr} (h : excCB K D = true) : ExcC K D := by
  obtain ⟨c1, h⟩ := He.ba h
  obtain ⟨c2, h⟩ := He.ba h
  obtain ⟨c3, h⟩ := He.ba h
  obtain ⟨c4, h⟩ := He.ba h
  obtain ⟨c5, h⟩ := He.ba h
  obtain ⟨c6, h⟩ := He.ba h
  obtain ⟨c7, c8⟩ := He.ba h
  exact ⟨He.eqO_ok c1, He.eqO_ok c2, of_decide_eq_true c3, c4, He.eqO_ok c5, He.eqO_ok c6, of_decide_eq_true c7, of_decide_eq_true c8⟩
def kitB (K : PySem.W.Frag) (t c : Value) (b : Bool) : Bool := decide (PySem.W.kitOne K t c = some b)
theorem kitB_ok {K : PySem.W.Frag} {t c : Value} {b : Bool} (h : kitB K t c b = true) : PySem.W.kitOne K t c = some b := of_decide_eq_true h
end SX0

set_option Elab.async false
set_option linter.all false
set_option maxRecDepth 100000
set_option maxHeartbeats 4000000
namespace SX0
open PySem PySem.Spec PyProof.Rows L2
open PySem.W (Looks looks_findIn looks_find looks_subIn looks_typeIn InstAt findIn subIn hasDictIn specialIn takesIn mroIn typeIn clsIn findObj)
section
variable {prog : Program} {w : World} {A : Around} {E : Value → Shared → Prop} {s : Shared} {K : PySem.W.Frag} {x D : Addr} {ob : Obj} {od : Option Obj}
theorem dataX {nm : Str} {at_ g : Value} (c : (clsIn K D).isSome = true) (f1 : findIn K (.ref D) nm = some (some at_)) (f2 : specialIn K at_ "__get__" = some (some g)) (f3 : takesIn K at_ = some true) : findObj K D od nm = some (.bind g at_) := by
  cases od with
  | none => exact PySem.W.findObj_dataN c f1 f2 f3
  | some o => exact PySem.W.findObj_data c f1 f2 f3
theorem askX {Q : Option Value → Shared → Prop} (C : ExcC K D) (X : K.In s.heap) (I : InstAt s.heap x ob D od) (q : Q (some (.ref D)) { s with toks := s.toks + 1 }) : wpAny (model prog w) A (getAttr? (.ref x) "__class__") Q E s := by
  have fo : findObj K D od "__class__" = some (.bind (.builtin "getset_descriptor.__get__") (.builtin "object.__class__")) := dataX (by obtain ⟨cd, hc, _⟩ := PySem.W.any_some C.hd; rw [hc]; rfl) C.ha C.hn C.ht
  obtain ⟨hh, gg, dr, tk, os⟩ := s
  have lt := I.type (M := model prog w)
  have lg := looks_findIn (M := model prog w) X C.hg
  have lk := looks_findIn (M := model prog w) X C.hk
  have lf := looks_find (M := model prog w) X I fo
  have si : Looks (model prog w) hh (isInstance (.ref x) (.type "BaseException")) true := lt.andThen (looks_subIn X C.hs)
  have z0 : (false && onTheHeap (Value.builtin "BaseException.__getattribute__")) = false := rfl
  have z2 : (Value.builtin "BaseException.__getattribute__" == Value.builtin "object.__getattribute__") = false := by decide +kernel
  have z1 : (onTheHeap (Value.ref D) && Value.builtin "BaseException.__getattribute__" == Value.builtin "object.__getattribute__") = false := by rw [z2] <;> rfl
  unfold getAttr? getAttrBy? getAttrBy
  refine wpAny_bind (wpAny_mkText (wpAny_bind (wpAny_attempt (wpAny_holding (wpAny_bind (lt.at (wpAny_bind (lg.at ?_))))))))
  show wpAny _ _ (if (onTheHeap (Value.ref D) && Value.builtin "BaseException.__getattribute__" == Value.builtin "object.__getattribute__") = true then _ else _) _ _ _
  rw [z1, if_neg Bool.false_ne_true]
  unfold getAttrByItsOwn hookBefore
  refine wpAny_bind ?_
  rw [if_pos (show onTheHeap (Value.ref D) = true from rfl)]
  refine lk.at ?_
  refine wpAny_bind (wpAny_attempt (wpAny_holding ?_))
  unfold callGetattribute
  rw [z0, if_neg Bool.false_ne_true]
  unfold boundAndCalled
  rw [PySem.F.excAttr_ValueError.ga.bind (.ref x)]
  refine wpAny_bind (wpAny_pure ?_)
  show wpAny _ _ (call (.builtin "BaseException.__getattribute__") [.ref x, .str "__class__" tk]) _ _ _
  refine wpAny_call (codeAny_call_builtin PySem.F.excAttr_ValueError.ga.plain PySem.F.entry_bexc_ga ?_)
  refine @PySem.W.check_slot (model prog w) _ _ ⟨hh, gg, dr, tk + 1, os⟩ "BaseException.__getattribute__" "BaseException" "__getattribute__" (.ref x) [.str "__class__" tk] [] _ (by decide +kernel) (by decide +kernel) si (PySem.F.args_bexc_ga (.ref x) (.str "__class__" tk)) ?_
  unfold Builtin.«object.__getattribute__»
  refine wpAny_bind (wpAny_of_eq (a := ((Value.ref x : Value), [Value.str "__class__" tk])) (by first | rfl | (simp only [slotArgs]; rfl)) ?_)
  refine wpAny_bind (wpAny_pure (wpAny_bind (lt.at (wpAny_bind (lf.at ?_)))))
  show wpAny _ _ (holding [Value.builtin "object.__class__"] (call (.builtin "getset_descriptor.__get__") [.builtin "object.__class__", .ref x, .ref D]) >>= ret) _ _ _
  refine wpAny_bind (wpAny_holding (wpAny_call (PySem.W.class_get (s := ⟨hh, gg, dr, tk + 1, os⟩) (ox := ob) (od := od) X I C.hm ?_)))
  refine wpAny_pure ?_
  show wpAny _ _ (handedOut (.ref D)) _ _ _
  rw [PySem.W.handedOut_of (v := .ref D) rfl]
  first
    | exact wpAny_pure (wpAny_pure q)
    | exact wpAny_pure q
    | exact wpAny_pure (wpAny_bind (wpAny_pure (wpAny_pure q)))
theorem kitX (C : ExcC K D) : PySem.W.KitX K (.ref x) (.ref D) (fun h => InstAt h x ob D od) where
  ty := fun _ _ _ I => I.type
  it := fun M h X I => by
    have cl := C.hd
    obtain ⟨cd, hc, _⟩ := PySem.W.any_some cl
    unfold clsIn at hc
    split at hc
    · rename_i o1 o2 o3 o4 lo
      intro A' Q' E' s' k q
      unfold isType loadHead
      exact wpAny_bind (wpAny_loadPart (k _ _ (X _ _ lo)) (wpAny_pure q))
    · cases hc
  ne := fun h tp dd its n sl X htp => by
    obtain ⟨cd, hc, _⟩ := PySem.W.any_some C.hd
    refine Bool.eq_false_iff.mpr fun q => ?_
    have e : D = tp := Value.ref.inj (beq_iff_eq.mp q)
    subst e
    unfold clsIn at hc
    split at hc
    · rename_i o1 o2 o3 o4 lo
      cases (X _ _ lo).symm.trans htp
    · cases hc
  ca := fun X I k => askX C X I k
/-- e.m : the method as it stands on the class -/
theorem methX {nm : Str} {f : Addr} {pl : Sem Bool} {Q : Value × List Value → Shared → Prop} (X : K.In s.heap) (I : InstAt s.heap x ob D od) (C : ExcC K D) (f1 : findIn K (.ref D) nm = some (some (.ref f))) (f2 : typeIn K (.ref f) = some (.type "function"))
    (f3 : PySem.W.shadowIn od nm = some false) (q : Q (.ref f, [.ref x]) s) : wpAny (model prog w) A (getMethod (.ref x) nm pl) Q E s := by
  have can : Manifest.canonical "BaseException.__getattribute__" = "object.__getattribute__" := by decide +kernel
  unfold getMethod specialOf
  refine wpAny_bind (wpAny_bind (I.type.here ((looks_findIn X C.hg).here ?_)))
  dsimp only
  rw [can, if_neg (by decide)]
  refine wpAny_bind (wpAny_bind (I.type.here ((looks_findIn X C.hk).here ?_)))
  refine wpAny_bind (wpAny_bind (I.type.here ((looks_findIn X f1).here (wpAny_bind ((looks_typeIn X f2).here ?_)))))
  rw [if_neg (by decide +kernel)]
  refine wpAny_bind (wpAny_loadPart I.at_ ?_)
  have idx := I.dict
  cases eo : ob.dict with
  | none => exact wpAny_bind (wpAny_rule (wpAny_pure q))
  | some dx =>
    cases od with
    | none => rw [eo] at idx; exact idx.elim
    | some o =>
      rw [eo] at idx
      obtain ⟨r, e1, e2⟩ := Option.map_eq_some_iff.mp f3
      refine wpAny_bind (wpAny_bind (wpAny_loadPart idx ?_))
      rw [PySem.W.nsLook_of e1]
      refine wpAny_pure ?_
      rw [e2]
      exact wpAny_bind (wpAny_rule (wpAny_pure q))
end
/-! ### kept exceptions in the heap -/
/-- at a: a kept exception of the class at C; fs: its own fields, if it has a dict -/
inductive KeptX (H : Hp) (a C : Addr) : List (Str × V) → Prop where
  | bare (e : H a = some (xob a (.ref C) none)) : KeptX H a C []
  | full {dd : Addr} {fs : List (Str × V)} (e : H a = some (xob a (.ref C) (some dd))) (ed : H dd = some (.xd fs)) : KeptX H a C fs
section
variable {X : Cx} {pins : List (Addr × Obj)} {σ : L2.St} {H : Hp} {s : Shared}
theorem KeptX.inst {a C : Addr} {fs : List (Str × V)} (I : Inv X pins σ H s) (k : KeptX H a C fs) : ∃ ob od, InstAt s.heap a ob C od ∧ ∀ m, (fs.lookup m = none → PySem.W.shadowIn od m = some false) := by
  cases k with
  | bare e =>
    obtain ⟨o, vs, e1, e2, e3, e4⟩ := xob_at I.hok e
    obtain ⟨oc, oD, ot, os⟩ := o
    simp only at e2 e3 e4
    subst e2 e3 e4
    exact ⟨_, none, ⟨e1, rfl, rfl, trivial⟩, fun _ _ => rfl⟩
  | @full dd fs e ed =>
    obtain ⟨o, vs, e1, e2, e3, e4⟩ := xob_at I.hok e
    have hx : ObjOk X.prog X.w H s.heap dd (.xd fs) := I.hok dd _ ed
    obtain ⟨mA, hns, hr⟩ := hx
    obtain ⟨od, ho, hl⟩ := lookIn_ns hns
    refine ⟨o, some od, ⟨e1, e2, by unfold PySem.W.notCls; rw [e4] <;> rfl, by rw [e3]; exact ho⟩, fun m hm => ?_⟩
    show (PySem.W.lookIn m od).map (·.isSome) = some false
    have hn : mA m = none := RelO.none_of (by rw [← hm]; exact hr m)
    rw [hl, hn]; rfl
end
/-- a value's class, all kept exceptions among them -/
inductive TyF (K : PySem.W.Frag) (H : Hp) : V → Value → Prop where
  | base {x : V} {t : Value} (h : TyX K H x t) : TyF K H x t
  | exc {a D : Addr} {fs : List (Str × V)} (C : ExcC K D) (e : KeptX H a D fs) : TyF K H (.ref a) (.ref D)
section
variable {X : Cx} {pins : List (Addr × Obj)} {σ : L2.St} {H : Hp} {s : Shared}
theorem kit_ofF {x : V} {u t : Value} (I : Inv X pins σ H s) (rx : RelV x u) (ty : TyF X.K H x t) : ∃ P : Heap → Prop, PySem.W.KitX X.K u t P ∧ P s.heap ∧ u ≠ .builtin "__main__.__loader__#opaque" := by
  cases ty with
  | base h => exact kit_of I rx h
  | @exc a D fs C e =>
    cases (show u = Value.ref a from rx)
    obtain ⟨ob, od, i, _⟩ := e.inst I
    exact ⟨_, kitX C, i, fun z => nomatch z⟩
end
def rIsiF (K : PySem.W.Frag) : List V → Hp → VK → Prop := fun xs H Q => ∃ (x c : V) (t u : Value) (b : Bool), xs = [x, c] ∧ ClsV c u ∧ TyF K H x t ∧ PySem.W.kitOne K t u = some b ∧ Q (.bl b) H
def rIsiTF (K : PySem.W.Frag) : List V → Hp → VK → Prop := fun xs H Q => ∃ (x : V) (tp : Addr) (cs : List V) (t : Value) (us : List Value) (b : Bool), xs = [x, .ref tp] ∧ H tp = some (.tup cs) ∧ Paired ClsV cs us ∧ TyF K H x t ∧ PySem.W.kitAny K t us = some b ∧ Q (.bl b) H
section
variable {X : Cx}
theorem call_isiF : CallR X (.builtin "isinstance") (rIsiF X.K) := by
  intro pins s σ H xs us Q I r h
  obtain ⟨x, c, t, u, b, rfl, k, ty, e, q⟩ := h
  obtain ⟨u1, u2, rfl, r1, r2⟩ := vals2 r
  have e2 := k.eq r2
  subst e2
  obtain ⟨P, Z, p, hx⟩ := kit_ofF I r1 ty
  exact PySem.W.kia_one Z I.kIn p e hx fun tk => ⟨.bl b, H, I.tok tk, rfl, q⟩
theorem call_isiTF : CallR X (.builtin "isinstance") (rIsiTF X.K) := by
  intro pins s σ H xs us Q I r h
  obtain ⟨x, tp, cs, t, ws, b, rfl, hT, k, ty, e, q⟩ := h
  obtain ⟨u1, u2, rfl, r1, r2⟩ := vals2 r
  cases (show u2 = Value.ref tp from r2)
  obtain ⟨P, Z, p, hx⟩ := kit_ofF I r1 ty
  obtain ⟨_, its, rv, o, h1, h2, n, h3⟩ := (show ObjOk X.prog X.w H s.heap tp (.tup cs) from I.hok tp _ hT)
  have e3 := ClsV.all k rv
  subst e3
  obtain ⟨oc, od, dt, sl⟩ := o
  simp only at h2 h3
  subst h2 h3
  exact PySem.W.kia_tup Z I.kIn p h1 e hx fun tk => ⟨.bl b, H, I.tok tk, rfl, q⟩
/-! ### e.f and e.m() of a kept exception -/
/-- Cs: the classes, each with no such name of its own -/
def XfdOk (K : PySem.W.Frag) (Cs : List Addr) (f : Str) : Prop := ∀ C ∈ Cs, ExcC K C ∧ findIn K (.ref C) f = some none
def tXfd (Cs : List Addr) (f : Str) (ta : TE) : TE := fun σ H Q => ta σ H fun x H1 => ∃ a C fs v, x = .ref a ∧ C ∈ Cs ∧ KeptX H1 a C fs ∧ fs.lookup f = some v ∧ Q v H1
theorem pe_xfd {Cs : List Addr} {f : Str} {e : Expr} {ta : TE} {pos : Pos} (ok : XfdOk X.K Cs f) (he : PE X e ta) (hb : attributeBase e f X.env (eval e X.env) = eval e X.env) : PE X (.Attribute e f pos) (tXfd Cs f ta) := by
  refine ⟨fun pins s σ H Q I h => ?_⟩
  refine attr_of hb (thn (he.run pins s σ H _ I h) fun u s1 ⟨x, H1, I1, rx, a, C, fs, v, ex, hC, k, l, q⟩ => ?_)
  subst ex
  obtain rfl : u = Value.ref a := rx
  obtain ⟨T, hno⟩ := ok C hC
  cases k with
  | bare e => cases l
  | @full dd fs e ed =>
    obtain ⟨o, vs, e1, e2, e3, e4⟩ := xob_at I1.hok e
    have hx : ObjOk X.prog X.w H1 s1.heap dd (.xd fs) := I1.hok dd _ ed
    obtain ⟨mA, hns, hr⟩ := hx
    obtain ⟨od, ho, hl⟩ := lookIn_ns hns
    obtain ⟨u, hu, ru⟩ := RelO.some_of (v := v) (o := mA f) (by rw [← l]; exact hr f)
    have J : InstAt s1.heap a o C (some od) := ⟨e1, e2, by unfold PySem.W.notCls; rw [e4] <;> rfl, by rw [e3]; exact ho⟩
    exact HandSPX.exc_get I1.kIn J T.hg T.hk T.hs (PySem.W.findObj_own T.hd hno rfl (by rw [hl, hu])) (handed_of ru) ⟨v, H1, I1.tok _, ru, q⟩
/-- one class of exceptions with the method at f -/
structure XAlt where
  C : Addr
  f : Addr
  sp : Sp
structure XAltOk (X : Cx) (k : Nat) (ps : List Str) (m : Str) (al : XAlt) : Prop where
  c : ExcC X.K al.C
  at_ : findIn X.K (.ref al.C) m = some (some (.ref al.f))
  ty : typeIn X.K (.ref al.f) = some (.type "function")
  g : Good X.prog X.w X.K X.mg X.base k al.f ps al.sp
def tXmU (alts : List XAlt) (m : Str) (W : WX) (ta : TE) : TE := fun σ H Q => ta σ H fun x H1 => ∃ al ∈ alts, ∃ a fs, x = .ref a ∧ KeptX H1 a al.C fs ∧ fs.lookup m = none ∧ al.sp [x] H1 Q (WE W σ)
theorem pe_xmU0 {o : Expr} {m : Str} {apos pos : Pos} {ta : TE} {k : Nat} {ps : List Str} {W : WX} {alts : List XAlt} {pl : Sem Bool} (he : PE X o ta) (hal : ∀ al ∈ alts, XAltOk X k ps m al) (hr : Room k X.A) (tk : Takes X W)
    (ht : eval (.Call (.Attribute o m apos) [] [] pos) X.env = (do
      let ov ← eval o X.env
      standAt apos.atName
      let (f, first) ← holding [ov] (getMethod ov m pl)
      callWith pos f first (backTo pos (starEach [] X.env)) (backToKw pos (keywordEach [] X.env))) := by rfl) :
    PE X (.Call (.Attribute o m apos) [] [] pos) (tXmU alts m W ta) := by
  refine ⟨fun pins s σ H Q I h => ?_⟩
  refine PySem.W.methodCall_KW (pl := pl) (thn (he.run pins s σ H _ I h) fun u s1 ⟨x, H1, I1, rx, al, hm, a, fs, ex, kx, l, q⟩ => ?_) ht
  obtain ⟨c, f1, f2, fd, F, b, kp⟩ := hal al hm
  subst ex
  obtain rfl : u = Value.ref a := rx
  obtain ⟨ob, od, i, sh⟩ := kx.inst I1
  refine methX I1.kIn i c f1 f2 (sh m l) ?_
  exact PySem.W.callWith_K0 (first := [.ref a]) I1.kIn kp (run_fnS (us := [.ref a]) (vs := [.ref a]) F hr b (passAt tk σ) I1 (.cons rfl .nil) q)
end
end SX0

set_option Elab.async false
set_option linter.all false
set_option maxRecDepth 100000
set_option maxHeartbeats 4000000
namespace SX0
open PySem PySem.Spec PyProof.Rows L2
/-! ### exception classes with an own __init__ -/
def oexB (K : PySem.W.Frag) (C : Addr) : Bool := (match K.lookup C with
  | some ⟨.type "type", _, .cls cd, sl⟩ => (match cd.mro, sl.toList with
    | .ref C' :: bm, [_, _, _, _, some (.builtin n), _] => decide (C' = C) && (decide (n = "ValueError.__new__") && (!cd.hasDel && (cd.hasDict && PySem.HandSPX.refsVE bm)))
    | _, _ => false)
  | _ => false) && (He.eqO (PySem.W.findIn K (.ref C) "__setattr__") (some (some (.builtin "object.__setattr__"))) && (decide (PySem.W.subIn K (.ref C) (.type "BaseException") = some true) &&
  (decide (PySem.W.typeIn K (.ref C) = some (.type "type")) && PySem.W.keepIn K (.ref C))))
theorem oexB_ok {K : PySem.W.Frag} {C : Addr} (h : oexB K C = true) : OexC K C := by
  unfold oexB at h
  obtain ⟨c0, h⟩ := He.ba h
  obtain ⟨c1, h⟩ := He.ba h
  obtain ⟨c2, h⟩ := He.ba h
  obtain ⟨c3, c4⟩ := He.ba h
  refine ⟨?_, He.eqO_ok c1, of_decide_eq_true c2, of_decide_eq_true c3, c4⟩
  split at c0
  · rename_i dd cd sl lo
    split at c0
    · rename_i C' bm k0 k1 k2 k3 n k5 hm hs
      obtain ⟨d1, c0⟩ := He.ba c0
      obtain ⟨d2, c0⟩ := He.ba c0
      obtain ⟨d3, c0⟩ := He.ba c0
      obtain ⟨d4, d5⟩ := He.ba c0
      have e1 := of_decide_eq_true d1
      have e2 := of_decide_eq_true d2
      subst e1 e2
      obtain ⟨nm, bs, mro, ns, qn, hd, sn, sb, ab, col, del⟩ := cd
      simp only at hm d3 d4
      subst hm d4
      have e3 : del = false := by simpa using d3
      subst e3
      have e4 : sl = #[k0, k1, k2, k3, some (.builtin "ValueError.__new__"), k5] := by
        apply Array.ext'
        exact hs
      subst e4
      exact ⟨nm, qn, ns, bs, bm, sn, sb, ab, col, dd, k0, k1, k2, k3, k5, lo, d5⟩
    · cases c0
  · cases c0
/-- C.__init__ read off an own exception class is ValueError's -/
structure BaseInit (K : PySem.W.Frag) (C : Addr) : Prop where
  rd : PySem.W.readsIn K C (.type "type") = true
  ga : PySem.W.specialIn K (.ref C) "__getattribute__" = some (some (.builtin "type.__getattribute__"))
  at_ : PySem.W.findCls K (.ref C) (.type "type") "__init__" = some (.val (.builtin "ValueError.__init__"))
def isValB (x : Option PySem.W.CFound) (y : Value) : Bool := match x with
  | some (.val v) => decide (v = y)
  | _ => false
theorem isValB_ok {x : Option PySem.W.CFound} {y : Value} (h : isValB x y = true) : x = some (.val y) := by
  unfold isValB at h
  split at h
  · rw [of_decide_eq_true h]
  · cases h
def baseInitB (K : PySem.W.Frag) (C : Addr) : Bool := PySem.W.readsIn K C (.type "type") && (He.eqO (PySem.W.specialIn K (.ref C) "__getattribute__") (some (some (.builtin "type.__getattribute__"))) && isValB (PySem.W.findCls K (.ref C) (.type "type") "__init__") (.builtin "ValueError.__init__"))
theorem baseInitB_ok {K : PySem.W.Frag} {C : Addr} (h : baseInitB K C = true) : BaseInit K C := by
  obtain ⟨c0, h⟩ := He.ba h
  obtain ⟨c1, c2⟩ := He.ba h
  exact ⟨c0, He.eqO_ok c1, isValB_ok c2⟩
section
variable {X : Cx} {o e : Expr} {es : List Expr} {to te : TE} {ta : TA} {f x : Str} {p p' p1 p2 pos pos2 : Pos} {C C0 : Addr} {W : WX}
theorem pe_binit {pl : Sem Bool} (B : BaseInit X.K C0) (hg : Gl X x) (hm : X.mg x = some (.ref C0)) (ha : PA X (e :: es) ta)
    (hdb : (x == ("__debug__" : Str)) = false := by decide)
    (hc : eval (.Call (.Attribute (.Name x p1) "__init__" p2) (e :: es) [] pos) X.env = (do
      let ov ← eval (.Name x p1) X.env
      standAt p2.atName
      let (f, first) ← holding [ov] (getMethod ov "__init__" pl)
      callWith pos f first (backTo pos (starEach (e :: es) X.env)) (backToKw pos (keywordEach [] X.env))) := by rfl)
    (he : starEach (e :: es) X.env = (false, eval e X.env) :: starEach es X.env := by rfl) (hpl : (backTo pos (starEach es X.env)).any (·.1) = false := by rfl) :
    PE X (.Call (.Attribute (.Name x p1) "__init__" p2) (e :: es) [] pos) (tVeI X.K ta) := by
  refine ⟨fun pins s σ H Q I h => ?_⟩
  refine PySem.W.methodCall_KW (ld_glob I hg hm ?_ hdb) hc
  refine PySem.W.method_cls I.kIn B.ga (PySem.W.cls_value I.kIn B.rd B.at_ (by rfl) ?_)
  show wpAny _ _ (callWith pos (Value.builtin "ValueError.__init__") [] (backTo pos (starEach (e :: es) X.env)) []) _ _ _
  refine PyProof.Rows.callWith_method1 (thn (ha.run pos pins _ σ H _ (I.tok _) h) fun us s1 ⟨vs, H1, I1, r1, a, C, ws, ev, hl, T, ea, q⟩ => ?_) he hpl
  subst ev
  cases r1 with
  | @cons _ u0 _ ur ra rw' =>
    obtain rfl : u0 = Value.ref a := ra
    have lz : ur.length ≤ sizeLine := by
      rw [← Paired.length rw', sizeLine_eq]
      omega
    exact oinit_ok T I1 ea lz fun s' J => ⟨.non, H1, J, rfl, q⟩
def tRzO (C : Addr) (sp : Sp) (t : TA) (W : WX) : TS := fun _ σ H => tMkO C sp [] t σ H fun cls d H' => W cls d σ H'
/-- raise C(..), C an own class over ValueError with an own __init__ -/
theorem ps_rzo {fI : Addr} {k : Nat} {ps : List Str} {sp : Sp} (hc : X.calm = true) (tk : Takes X W) (T : OexC X.K C) (i1 : PySem.W.findIn X.K (.ref C) "__init__" = some (some (.ref fI))) (i2 : PySem.W.typeIn X.K (.ref fI) = some (.type "function"))
    (G : Good X.prog X.w X.K X.mg X.base k fI ps sp) (hr : Room (k + 1) X.A) (hg : Gl X x) (hm : X.mg x = some (.ref C)) (ha : PA X (e :: es) ta)
    (hdb : (x == ("__debug__" : Str)) = false := by decide) (he : starEach (e :: es) X.env = (false, eval e X.env) :: starEach es X.env := by rfl) (hpl : (backTo pos (starEach es X.env)).any (·.1) = false := by rfl) :
    PS X (.Raise (some (.Call (.Name x p) (e :: es) [] pos)) none pos2) (tRzO C sp ta W) := by
  obtain ⟨fd, F, b, kp⟩ := G
  exact ps_raise hc tk (pmk_oex T i1 i2 F hr b .nil passL hg hm ha hdb he hpl)
end
end SX0

set_option Elab.async false
set_option linter.all false
set_option maxRecDepth 100000
set_option maxHeartbeats 4000000
namespace SX0
open PySem PySem.Spec PyProof.Rows L2
/-! ### a written dict from texts to ints -/
def kdE (e : DictEntry) : Option (Str × Int) := match e.key, e.val with
  | .str k _, .int n _ => some (k, n)
  | _, _ => none
def kdB (K : PySem.W.Frag) (d : Addr) (l : List (Str × Int)) : Bool := match K.lookup d with
  | some ⟨_, _, .dict es _, _⟩ => decide (es.toList.map kdE = l.map some)
  | _ => false
theorem kdE_some {e : DictEntry} {k : Str} {n : Int} (h : kdE e = some (k, n)) : ∃ t u, e.key = .str k t ∧ e.val = .int n u := by
  unfold kdE at h
  split at h
  · rename_i k' t n' u e1 e2
    cases h
    exact ⟨t, u, e1, e2⟩
  · cases h
theorem kd_list : ∀ (L : List DictEntry) (l : List (Str × Int)), L.map kdE = l.map some → ∀ z : Str,
    (∀ n, l.lookup z = some n → ∃ e u, L.find? (fun e => e.key.isStr z) = some e ∧ e.val = .int n u) ∧ (l.lookup z = none → L.find? (fun e => e.key.isStr z) = none ∧ L.any (·.refKey) = false)
  | [], [], _, z => ⟨fun n h => (by cases h), fun _ => ⟨rfl, rfl⟩⟩
  | [], _ :: _, h, _ => by cases h
  | _ :: _, [], h, _ => by cases h
  | e :: L, (k, n) :: l, h, z => by
    have h1 : kdE e = some (k, n) ∧ L.map kdE = l.map some := by simpa using h
    obtain ⟨t, u, e1, e2⟩ := kdE_some h1.1
    obtain ⟨i1, i2⟩ := kd_list L l h1.2 z
    rw [List.find?_cons, e1]
    have es : (Value.str k t).isStr z = (k == z) := rfl
    rw [es]
    by_cases hk : k = z
    · subst hk
      refine ⟨fun m hm => ?_, fun hm => ?_⟩
      · rw [List.lookup_cons, beq_self_eq_true] at hm
        cases hm
        exact ⟨e, u, by simp, e2⟩
      · rw [List.lookup_cons, beq_self_eq_true] at hm
        cases hm
    · have k1 : (k == z) = false := beq_eq_false_iff_ne.mpr hk
      have k2 : (z == k) = false := beq_eq_false_iff_ne.mpr (Ne.symm hk)
      rw [k1]
      refine ⟨fun m hm => ?_, fun hm => ?_⟩
      · rw [List.lookup_cons, k2] at hm
        exact i1 m hm
      · rw [List.lookup_cons, k2] at hm
        obtain ⟨a, b⟩ := i2 hm
        refine ⟨a, ?_⟩
        rw [List.any_cons, b, Bool.or_false]
        unfold DictEntry.refKey
        rw [e1]
theorem kd_ns {K : PySem.W.Frag} {d : Addr} {l : List (Str × Int)} (h : kdB K d l = true) (z : Str) : (∀ n, l.lookup z = some n → ∃ u, PySem.W.nsIn K d z = some (some u) ∧ RelV (.int n) u) ∧ (l.lookup z = none → PySem.W.nsIn K d z = some none) := by
  unfold kdB at h
  unfold PySem.W.nsIn
  split at h
  · rename_i c dd es ep sl lo
    obtain ⟨a, b⟩ := kd_list _ _ (of_decide_eq_true h) z
    refine ⟨fun n hn => ?_, fun hn => ?_⟩
    · obtain ⟨e, u, e1, e2⟩ := a n hn
      refine ⟨e.val, ?_, u, e2⟩
      rw [lo]
      simp only [e1]
    · obtain ⟨e1, e2⟩ := b hn
      rw [lo]
      simp only [e1, e2]
      rfl
  · cases h
def rInKd (K : PySem.W.Frag) (x0 : Str) : R2 := fun x y H Q => ∃ (z : Str) (r : Option Value), x = .str z ∧ y = .ref (He.ga K x0) ∧ PySem.W.nsIn K (He.ga K x0) z = some r ∧ Q (.bl r.isSome) H
def rNotInKd (K : PySem.W.Frag) (x0 : Str) : R2 := fun x y H Q => ∃ (z : Str) (r : Option Value), x = .str z ∧ y = .ref (He.ga K x0) ∧ PySem.W.nsIn K (He.ga K x0) z = some r ∧ Q (.bl (!r.isSome)) H
def rItemKd (K : PySem.W.Frag) (x0 : Str) : R2 := fun x y H Q => ∃ (z : Str) (u0 : Value) (v0 : V), x = .ref (He.ga K x0) ∧ y = .str z ∧ PySem.W.nsIn K (He.ga K x0) z = some (some u0) ∧ RelV v0 u0 ∧ Q v0 H
section
variable {X : Cx} {x0 : Str}
theorem op_inKd (D : ∃ es n, KDict X.K X.w (He.ga X.K x0) es n) : OpR X (compareOp .In) (rInKd X.K x0) := by
  obtain ⟨es, n, D⟩ := D
  exact op_in_kd D
theorem op_notInKd (D : ∃ es n, KDict X.K X.w (He.ga X.K x0) es n) : OpR X (compareOp .NotIn) (rNotInKd X.K x0) := by
  obtain ⟨es, n, D⟩ := D
  exact op_notIn_kd D
theorem ix_kd (D : ∃ es n, KDict X.K X.w (He.ga X.K x0) es n) : IxR X (rItemKd X.K x0) := by
  obtain ⟨es, n, D⟩ := D
  intro value slice pins s σ H x y v u Q I rx ry h hs
  obtain ⟨z, u0, v0, rfl, rfl, e, r, q⟩ := h
  cases rx
  obtain ⟨t, rfl⟩ := ry
  refine tail_any (kd_type D I) PySem.F.slot_dict_getitem.lookup ?_ hs
  exact wpAny_getItem_of (PySem.strKind_is X.prog X.w z t) (PySem.W.mapOf_K (prog := X.prog) I.kIn D.at_ D.lit) (PySem.W.find_K D.at_ e) ⟨v0, H, I.tok _, r, q⟩
/-! ### text * int -/
def repS (z : Str) (n : Nat) : Str := ⟨(List.replicate n z.cps).foldl (· ++ ·) #[]⟩
def oRepS : R2 := fun x y H Q => ∃ z i, x = .str z ∧ y = .int i ∧ 1 < i ∧ i ≤ 1000 ∧ 0 < z.length ∧ z.length ≤ 1000 ∧ Q (.str (repS z i.toNat)) H
theorem foldl_app_size (z : Array Nat) : ∀ (n : Nat) (a : Array Nat), ((List.replicate n z).foldl (· ++ ·) a).size = a.size + n * z.size
  | 0, a => by simp
  | n + 1, a => by
    rw [List.replicate_succ, List.foldl_cons, foldl_app_size z n, Array.size_append, Nat.succ_mul]
    omega
theorem op_repS : OpR X (binaryOp .Mult) oRepS := by
  intro pins s σ H x y v u Q I rx ry h
  obtain ⟨z, i, rfl, rfl, h1, h2, h3, h4, q⟩ := h
  obtain ⟨t, rfl⟩ := rx
  obtain ⟨t', rfl⟩ := ry
  have b1 : i.toNat ≤ 1000 := by omega
  have b2 : z.length * i.toNat ≤ 1000 * 1000 := Nat.mul_le_mul h4 b1
  have c1 : (decide (i < -(2 ^ 63 : Int)) || decide (i ≥ 2 ^ 63)) = false := by simp; omega
  have c2 : (i == 1 || z.length == 0) = false := by
    rw [Bool.or_eq_false_iff]
    exact ⟨beq_eq_false_iff_ne.mpr (by omega), beq_eq_false_iff_ne.mpr (by omega)⟩
  refine PySem.P.mul_str c1 (fun _ _ => ?_) (fun _ _ => ?_) ?_
  · have : (2 ^ 63 - 1) / i ≥ 1000 := by
      refine (Int.le_ediv_iff_mul_le (by omega)).mpr ?_
      omega
    omega
  · show decide (sizeLine < z.length * i.toNat) = false
    rw [sizeLine_eq]
    exact decide_eq_false (by omega)
  · rw [if_neg (by omega), c2, if_neg Bool.false_ne_true]
    refine ⟨?_, ⟨.str (repS z i.toNat), H, I.tok _, ⟨_, rfl⟩, q⟩⟩
    show ((List.replicate i.toNat z.cps).foldl (· ++ ·) #[]).size ≤ sizeLine
    rw [foldl_app_size, sizeLine_eq, Array.size_empty, Nat.mul_comm]
    have e9 : z.cps.size = z.length := rfl
    rw [e9]
    omega
end
end SX0

set_option Elab.async false
set_option linter.all false
set_option maxRecDepth 100000
set_option maxHeartbeats 4000000
namespace SX0
open PySem PySem.Spec PyProof.Rows L2
section
variable {X : Cx}
/-- if a == n: return x.replace(c1, c2) + e -/
def tIfRep (ta : TE) (n : Int) (i : Nat) (c1 c2 : Str) (te : TE) : TS := fun D σ H => ta σ H fun x H1 => ∃ k, x = .int k ∧
  if decide (k = n) = true then ∃ z, σ[i]? = some (some (.str z)) ∧ z.length + (z.length + 1) * c2.length ≤ 16777216 ∧ te σ H1 fun y H2 => oAddStr (.str (Txt.replace z c1 c2)) y H2 D.rt
  else D.nx σ H1
theorem ps_ifRep {a e : Expr} {ta te : TE} {n : Int} {i : Nat} {kx c1 c2 : Str} {j0 j1 j2 : Nat} {p0 p1 cp1 cp2 apos cpos bpos rpos pos tpos : Pos} (ha : PE X a ta) (he : PE X e te) (hN : X.N[i]? = some kx) (hv : Vis X.env.scope kx)
    (hcc : (c1 == c2) = false := by decide +kernel) (hdk : (kx == ("__debug__" : Str)) = false := by decide) (hck : (kx == ("__classdict__" : Str)) = false := by decide)
    (hst : starEach [.Constant (.str c1) j1 cp1, .Constant (.str c2) j2 cp2] X.env = [(false, eval (.Constant (.str c1) j1 cp1) X.env), (false, eval (.Constant (.str c2) j2 cp2) X.env)] := by rfl)
    (hbase : attributeBase (.Name kx p1) "replace" X.env (eval (.Name kx p1) X.env) = eval (.Name kx p1) X.env := by rfl) (hline : (apos.endLine == cpos.line) = true := by rfl)
    (hm : behindInMarks .Eq (.Constant (.int n) j0 p0) = false := by rfl) :
    PS X (.If (.Compare a [.Eq] [.Constant (.int n) j0 p0] tpos) [.Return (some (.BinOp (.Call (.Attribute (.Name kx p1) "replace" apos) [.Constant (.str c1) j1 cp1, .Constant (.str c2) j2 cp2] [] cpos) .Add e bpos)) rpos] [] pos) (tIfRep ta n i c1 c2 te) := by
  refine ⟨fun pins s σ H D I h => ?_⟩
  refine wpAny_If (wpAny_isTrue_Compare1 (thn (ha.run pins s σ H _ I h) fun v s1 ⟨x, H1, I1, r1, k, ex, q1⟩ => ?_) hm)
  subst ex
  obtain ⟨t1, rfl⟩ := r1
  refine wpAny_Constant_int ?_
  refine PySem.P.eq_int ?_
  refine wpAny_truthy_bool ?_
  have I2 : Inv X pins σ H1 { s1 with toks := s1.toks + 1 } := I1.tok _
  by_cases hk : k = n
  · subst hk
    rw [decide_eq_true rfl, if_pos rfl] at q1
    obtain ⟨z, hz, hl, q⟩ := q1
    rw [beq_self_eq_true]
    show wpAny _ _ (execs [.Return (some (.BinOp (.Call (.Attribute (.Name kx p1) "replace" apos) [.Constant (.str c1) j1 cp1, .Constant (.str c2) j2 cp2] [] cpos) .Add e bpos)) rpos] X.env) _ _ _
    refine wpAny_execs_cons (wpAny_Return_some (wpAny_BinOp ?_))
    refine PySem.Call_method2 hbase hst hline (raw_name hN hv I2 hz (fun u r => ?_) hdk hck)
    obtain ⟨tz, rfl⟩ := r
    refine ⟨"str", _, F.plainAttrs_str, F.slot_str_replace, F.type_str_replace, typeIs_str _ _ _, (fun _ e => nomatch e), Calls.callWith_builtin rfl (Calls.evalArgs_plain (Calls.spliced_cons ?_))⟩
    refine Calls.Constant_str (Calls.spliced_cons (Calls.Constant_str (Calls.spliced_nil ?_)))
    refine PySem.SC.replace (by simp) (by simp) (by simp) hcc hl fun t' k => ?_
    have I3 : Inv X pins σ H1 { s1 with toks := k } := I1.tok _
    refine thn (he.run pins _ σ H1 _ I3 q) fun u s2 ⟨y, H2, I4, r2, q2⟩ => ?_
    refine thn (op_add_str pins s2 σ H2 (.str (Txt.replace z c1 c2)) y (.str (Txt.replace z c1 c2) t') u _ I4 ⟨t', rfl⟩ r2 q2) fun w s3 ⟨v', H3, I5, r3, q3⟩ => ?_
    exact ⟨v', σ, H3, I5, r3, q3⟩
  · rw [decide_eq_false hk, if_neg Bool.false_ne_true] at q1
    have e1 : (k == n) = false := beq_eq_false_iff_ne.mpr hk
    rw [e1]
    exact wpAny_execs_nil ⟨σ, H1, I2, q1⟩
end
theorem xfdok_nil {K : PySem.W.Frag} {f : Str} : XfdOk K [] f := fun _ h => nomatch h
theorem xfdok_cons {K : PySem.W.Frag} {f : Str} {C : Addr} {Cs : List Addr} (h1 : ExcC K C) (h2 : NoAttr K C f) (h : XfdOk K Cs f) : XfdOk K (C :: Cs) f := fun D hD => by
  rcases List.mem_cons.mp hD with e | e
  · rw [e]; exact ⟨h1, h2⟩
  · exact h D e
theorem xaltok_nil {X : Cx} {k : Nat} {ps : List Str} {m : Str} : ∀ al ∈ ([] : List XAlt), XAltOk X k ps m al := fun _ h => nomatch h
theorem xaltok_cons {X : Cx} {k : Nat} {ps : List Str} {m : Str} {a : XAlt} {r : List XAlt} (h : XAltOk X k ps m a) (hr : ∀ al ∈ r, XAltOk X k ps m al) : ∀ al ∈ a :: r, XAltOk X k ps m al := fun al hm => by
  rcases List.mem_cons.mp hm with e | e
  · rw [e]; exact h
  · exact hr al e
end SX0

set_option Elab.async false
set_option linter.all false
set_option maxRecDepth 100000
namespace SX0
open PySem PySem.Spec PyProof.Rows L2
/-! ### heaps that grow -/
theorem Same.new {H : Hp} {p : Addr} {o : HO} (h : H p = none) : Same H (upd H p o) := fun b u e => by
  rw [upd_ne (ne_of_none e h)]; exact e
theorem Same.put {H H' : Hp} {p : Addr} {o : HO} (s : Same H H') (h : H p = none) : Same H (upd H' p o) := fun b u e => by
  rw [upd_ne (ne_of_none e h)]; exact s b u e
theorem Same.rd {H H' : Hp} {a : Addr} {u : HO} (s : Same H H') (h : Rd H a u) : Rd H' a u := by
  rcases h with h | ⟨o, h⟩
  · exact .inl (s _ _ h)
  · exact .inr ⟨o, s _ _ h⟩
theorem Same.sqt {K : PySem.W.Frag} {H H' : Hp} {a : Addr} {xs : List V} (s : Same H H') (h : SqT K H a xs) : SqT K H' a xs := by
  rcases h with h | h
  · exact .inl (Same.rd s h)
  · exact .inr h
theorem Same.sql {K : PySem.W.Frag} {H H' : Hp} {a : Addr} {xs : List V} (s : Same H H') (h : SqL K H a xs) : SqL K H' a xs := by
  rcases h with h | h
  · exact .inl (Same.rd s h)
  · exact .inr h
theorem Same.dget {H H' : Hp} {a : Addr} {y : V} {r : Option V} (s : Same H H') (h : DGet H a y r) : DGet H' a y r := by
  rcases h with ⟨kvs, k, h, e⟩ | ⟨kvs, k, b, h, e1, e2, e3⟩
  · exact .inl ⟨kvs, k, Same.rd s h, e⟩
  · exact .inr ⟨kvs, k, b, Same.rd s h, e1, s _ _ e2, e3⟩
/-! ### readings, one step each -/
section
variable {K : PySem.W.Frag} {σ : L2.St} {H : Hp} {Q : VK} {D : Ends} {ta tb tc te to ti td ty tv : TE} {t u : TS} {c d : TT} {i j : Nat} {v w : V} {QB : Bool → Hp → Prop} {QL : List V → Hp → Prop} {tas : TA}
theorem x_seq (h : t { D with nx := u D } σ H) : tSeq t u D σ H := h
theorem x_next (h : D.nx σ H) : tNext D σ H := h
theorem x_asgN (h : te σ H fun x H1 => D.nx (σ.set i (some x)) H1) : tAsg te (gName i) D σ H := h
theorem x_asgS {ts : TSet} (h : te σ H fun x H1 => to σ H1 fun o H2 => ti σ H2 fun i H3 => ts o i x H3 fun H4 => D.nx σ H4) : tAsg te (gSub to ti ts) D σ H := h
theorem x_ret (h : te σ H D.rt) : tRet te D σ H := h
theorem x_retN (h : D.rt .non H) : tRetN D σ H := h
theorem x_drop (h : te σ H fun _ H1 => D.nx σ H1) : tDrop te D σ H := h
theorem x_ifS (h : c σ H fun b H1 => if b = true then t D σ H1 else u D σ H1) : tIfS c t u D σ H := h
theorem x_rz {C : Addr} {W : WX} (h : W (.ref C) none σ H) : tRz C W D σ H := h
theorem x_var (e : σ[i]? = some (some v)) (h : Q v H) : tVar i σ H Q := ⟨v, e, h⟩
theorem x_c (h : Q v H) : tC v σ H Q := h
theorem x_op {r : R2} (h : ta σ H fun x H1 => tb σ H1 fun y H2 => r x y H2 Q) : tOp r ta tb σ H Q := h
theorem x_un {r : V → Hp → VK → Prop} (h : ta σ H fun x H1 => r x H1 Q) : tUn r ta σ H Q := h
theorem x_rI0 {g : Int → Int → V} {a b : Int} (h : Q (g a b) H) : rI0 g (.int a) (.int b) H Q := ⟨a, b, rfl, rfl, h⟩
theorem x_rI {C : Int → Int → Prop} {g : Int → Int → V} {a b : Int} (hc : C a b) (h : Q (g a b) H) : rI C g (.int a) (.int b) H Q := ⟨a, b, rfl, rfl, hc, h⟩
theorem x_neg {g : Int → V} {a : Int} (h : Q (g a) H) : rU g (.int a) H Q := ⟨a, rfl, h⟩
theorem x_rEq (e : scal v w = true) (h : Q (.bl (decide (v = w))) H) : rEq v w H Q := ⟨e, h⟩
theorem x_rNe (e : scal v w = true) (h : Q (.bl (!decide (v = w))) H) : rNe v w H Q := ⟨e, h⟩
theorem x_isN (h : Q (.bl (decide (v = .non))) H) : oIsN v .non H Q := ⟨rfl, h⟩
theorem x_notN (h : Q (.bl (!decide (v = .non))) H) : oNotN v .non H Q := ⟨rfl, h⟩
theorem x_test (h : te σ H fun x H' => ∃ k, x = .bl k ∧ QB k H') : tTest te σ H QB := h
theorem x_tB (h : te σ H fun x H' => ∃ k, x = .bl k ∧ QB k H') : tB te σ H QB := h
theorem x_bl {b : Bool} {P : Bool → Prop} (h : P b) : ∃ k, V.bl b = .bl k ∧ P k := ⟨b, rfl, h⟩
theorem x_and (h : c σ H fun b H1 => if b = true then d σ H1 QB else QB false H1) : tAnd c d σ H QB := h
theorem x_or (h : c σ H fun b H1 => if b = true then QB true H1 else d σ H1 QB) : tOr c d σ H QB := h
theorem x_not (h : c σ H fun b H1 => QB (!b) H1) : tNot c σ H QB := h
theorem x_andV (h : ta σ H fun x H1 => ∃ b, x = .bl b ∧ if b = true then tb σ H1 Q else Q (.bl false) H1) : tAndV ta tb σ H Q := h
theorem x_orV (h : ta σ H fun x H1 => ∃ b, x = .bl b ∧ if b = true then Q (.bl true) H1 else tb σ H1 Q) : tOrV ta tb σ H Q := h
theorem x_notV (h : ta σ H fun x H1 => ∃ b, x = .bl b ∧ Q (.bl (!b)) H1) : tNotV ta σ H Q := h
theorem x_ifE (h : c σ H fun b H1 => if b = true then ta σ H1 Q else tb σ H1 Q) : tIf c ta tb σ H Q := h
theorem x_chain {r r' : R2} (h : ta σ H fun x H1 => tb σ H1 fun y H2 => r x y H2 fun z H3 => ∃ k, z = .bl k ∧ (if k = true then tc σ H3 fun w' H4 => r' y w' H4 Q else Q (.bl false) H3)) : tChain r r' ta tb tc σ H Q := h
theorem x_nil (h : QL [] H) : tNil σ H QL := h
theorem x_cons (h : ta σ H fun x H1 => tas σ H1 fun xs H2 => QL (x :: xs) H2) : tCons ta tas σ H QL := h
theorem x_cb {r : List V → Hp → VK → Prop} (h : tas σ H fun vs H1 => r vs H1 Q) : tCB r tas σ H Q := h
theorem x_callS {sp : Sp} {E : L2.St → XK} (h : tas σ H fun vs H1 => sp vs H1 Q (E σ)) : tCallS sp E tas σ H Q := h
theorem x_lst (h : tas σ H fun xs H1 => xs.length ≤ sizeLine ∧ ∀ p, H1 p = none → Q (.ref p) (upd H1 p (.lst xs))) : tLst tas σ H Q := h
theorem x_tup (h : tas σ H fun xs H1 => xs.length ≤ sizeLine ∧ ∀ p, H1 p = none → Q (.ref p) (upd H1 p (.tup xs))) : tTup tas σ H Q := h
theorem x_dnewK (h : ∀ p, H p = none → Q (.ref p) (upd H p (.dK []))) : tDNewK σ H Q := h
theorem x_dnewT (h : ∀ p, H p = none → Q (.ref p) (upd H p (.dT []))) : tDNewT σ H Q := h
def gDGet (x y : V) (H : Hp) (Q : VK) : Prop := ∃ a v, x = .ref a ∧ DGet H a y (some v) ∧ Q v H
def gDIn (x y : V) (H : Hp) (Q : VK) : Prop := ∃ a o, x = .ref a ∧ DGet H a y o ∧ Q (.bl o.isSome) H
def gDNotIn (x y : V) (H : Hp) (Q : VK) : Prop := ∃ a o, x = .ref a ∧ DGet H a y o ∧ Q (.bl (!o.isSome)) H
def gDPut (x y v : V) (H : Hp) (P : Hp → Prop) : Prop := ∃ a H4, x = .ref a ∧ DPut H a y v H4 ∧ P H4
theorem x_dget (h : td σ H fun x H1 => ty σ H1 fun y H2 => gDGet x y H2 Q) : tDGet td ty σ H Q := h
theorem x_din (h : ty σ H fun y H1 => td σ H1 fun x H2 => gDIn x y H2 Q) : tDIn ty td σ H Q := h
theorem x_dnotin (h : ty σ H fun y H1 => td σ H1 fun x H2 => gDNotIn x y H2 Q) : tDNotIn ty td σ H Q := h
theorem x_dput (h : tv σ H fun v H1 => td σ H1 fun x H2 => ty σ H2 fun y H3 => gDPut x y v H3 (D.nx σ)) : sDPut td ty tv D σ H := h
theorem x_dgetK {a : Addr} {kvs : List (Key × V)} {y : Int} (e : Rd H a (.dK kvs)) (ev : valV kvs (Sum.inl y : Key) = some v) (h : Q v H) : gDGet (.ref a) (.int y) H Q := ⟨a, v, rfl, .inl ⟨kvs, Sum.inl y, e, rfl, ev.symm⟩, h⟩
theorem x_dinK {a : Addr} {kvs : List (Key × V)} {y : Int} (e : Rd H a (.dK kvs)) (h : Q (.bl (valV kvs (Sum.inl y : Key)).isSome) H) : gDIn (.ref a) (.int y) H Q := ⟨a, _, rfl, .inl ⟨kvs, Sum.inl y, e, rfl, rfl⟩, h⟩
theorem x_dnotinK {a : Addr} {kvs : List (Key × V)} {y : Int} (e : Rd H a (.dK kvs)) (h : Q (.bl (!(valV kvs (Sum.inl y : Key)).isSome)) H) : gDNotIn (.ref a) (.int y) H Q := ⟨a, _, rfl, .inl ⟨kvs, Sum.inl y, e, rfl, rfl⟩, h⟩
theorem x_dputK {a : Addr} {kvs : List (Key × V)} {y : Int} {P : Hp → Prop} (e : H a = some (.dK kvs)) (hl : kvs.length < sizeLine) (h : P (upd H a (.dK (putK kvs (Sum.inl y) v)))) : gDPut (.ref a) (.int y) v H P := ⟨a, _, rfl, .inl ⟨kvs, Sum.inl y, e, rfl, hl, rfl⟩, h⟩
theorem x_ixL {p : Addr} {xs : List V} {n : Int} (e : SqL K H p xs) (ev : atI xs n = some v) (h : Q v H) : rIxL K (.ref p) (.int n) H Q := ⟨p, xs, n, v, rfl, rfl, e, ev, h⟩
theorem x_ixT {p : Addr} {xs : List V} {n : Int} (e : SqT K H p xs) (ev : atI xs n = some v) (h : Q v H) : rIxT K (.ref p) (.int n) H Q := ⟨p, xs, n, v, rfl, rfl, e, ev, h⟩
theorem x_lenL {p : Addr} {xs : List V} (e : SqL K H p xs) (h : Q (.int xs.length) H) : cLenSeq K [.ref p] H Q := ⟨p, xs, rfl, .inl e, h⟩
theorem x_lenT {p : Addr} {xs : List V} (e : SqT K H p xs) (h : Q (.int xs.length) H) : cLenSeq K [.ref p] H Q := ⟨p, xs, rfl, .inr e, h⟩
theorem x_bm {T : String} {r : V → List V → Hp → VK → Prop} (h : to σ H fun x H1 => tyV K T x H1 ∧ tas σ H1 fun xs H2 => r x xs H2 Q) : tBM K T r to tas σ H Q := h
theorem x_bm0 {T : String} {r : V → List V → Hp → VK → Prop} (h : to σ H fun x H1 => tyV K T x H1 ∧ r x [] H1 Q) : tBM0 K T r to σ H Q := h
theorem x_tyL {p : Addr} {xs : List V} (e : H p = some (.lst xs)) : tyV K "list" (.ref p) H := Or.inl ⟨rfl, _, SqL.of e⟩
theorem x_append {p : Addr} {xs : List V} (e : H p = some (.lst xs)) (hl : xs.length < sizeLine) (h : Q .non (upd H p (.lst (xs ++ [v])))) : rAppend (.ref p) [v] H Q := ⟨p, xs, v, rfl, rfl, e, hl, h⟩
theorem x_extend {p b : Addr} {xs zs : List V} (e : H p = some (.lst xs)) (e2 : H b = some (.lst zs)) (hl : xs.length + zs.length ≤ sizeLine) (h : Q .non (upd H p (.lst (xs ++ zs)))) : rExtend (.ref p) [.ref b] H Q := ⟨p, b, xs, zs, rfl, rfl, e, e2, hl, h⟩
theorem x_cat {p b : Addr} {xs zs : List V} (e : SqX K H p xs) (e2 : SqX K H b zs) (hl : xs.length + zs.length ≤ sizeLine) (h : ∀ q, H q = none → Q (.ref q) (upd H q (.lst (xs ++ zs)))) : rCatS K (.ref p) (.ref b) H Q := ⟨p, b, xs, zs, rfl, rfl, e, e2, hl, h⟩
theorem x_tru (h : ta σ H fun x H' => ∃ k, TruV K x H' k ∧ QB k H') : tTru K ta σ H QB := h
theorem x_truL {p : Addr} {xs : List V} {P : Bool → Prop} (e : SqL K H p xs) (h : P (!xs.isEmpty)) : ∃ k, TruV K (.ref p) H k ∧ P k := ⟨_, .inl ⟨xs, e, rfl⟩, h⟩
theorem x_yes (h : QB true H) : tYes σ H QB := h
theorem x_int1 {n : Int} (h : Q (.int n) H) : cInt1 [.int n] H Q := .inl ⟨n, rfl, h⟩
theorem x_intB {b : Bool} (h : Q (.int (if b then 1 else 0)) H) : cInt1 [.bl b] H Q := .inr ⟨b, rfl, h⟩
theorem x_sl {r : V → Option Int → Option Int → Hp → VK → Prop} {tl th : TO} (h : te σ H fun x H1 => tl σ H1 fun l H2 => th σ H2 fun u H3 => r x l u H3 Q) : tSl r te tl th σ H Q := h
theorem x_lcdummy : True := True.intro
theorem x_slL {p : Addr} {xs : List V} {lo hi : Option Int} (e : SqL K H p xs) (h : ∀ q, H q = none → Q (.ref q) (upd H q (.lst (cutV xs lo hi)))) : rSlL K (.ref p) lo hi H Q := ⟨p, xs, rfl, e, h⟩
theorem x_part {QO : Option Int → Hp → Prop} (h : te σ H fun x H1 => ∃ i, x = .int i ∧ QO (some i) H1) : tPart te σ H QO := h
theorem x_partI {n : Int} {P : Int → Prop} (h : P n) : ∃ i, V.int n = .int i ∧ P i := ⟨n, rfl, h⟩
theorem x_nopart {QO : Option Int → Hp → Prop} (h : QO none H) : tNoPart σ H QO := h
theorem x_asgT {n : Nat} {g : TGs} (h : te σ H fun x H1 => ∃ a xs, x = .ref a ∧ SqT K H1 a xs ∧ xs.length = n ∧ g xs σ H1 D.nx) : tAsg te (gTup K n g) D σ H := h
theorem x_unpack {n : Nat} {p : Addr} {xs : List V} {P : List V → Prop} (e : SqT K H p xs) (hn : xs.length = n) (h : P xs) : ∃ a ys, V.ref p = .ref a ∧ SqT K H a ys ∧ ys.length = n ∧ P ys := ⟨p, xs, rfl, e, hn, h⟩
theorem x_gnil {QS : L2.St → Hp → Prop} (h : QS σ H) : gNil [] σ H QS := ⟨rfl, h⟩
theorem x_gcons {QS : L2.St → Hp → Prop} {g : TGs} {vs : List V} (h : g vs (σ.set i (some v)) H QS) : gCons (gName i) g (v :: vs) σ H QS := ⟨v, vs, rfl, h⟩
theorem x_setL {p : Addr} {xs : List V} {n : Int} {j : Nat} {P : Hp → Prop} (e : H p = some (.lst xs)) (hj : ixN xs.length n = some j) (h : P (upd H p (.lst (xs.set j v)))) : rSetL (.ref p) (.int n) v H P := ⟨p, xs, n, j, rfl, rfl, e, hj, h⟩
def LoopG (J : It) (g : TG) (tb : TS) (D : Ends) (σ : L2.St) (H : Hp) : Prop := ∃ W : Nat → Nat → L2.St → Hp → Prop, (∃ m, W 0 m σ H) ∧ ∀ i m σ H, W i m σ H →
  (J.stop i H ∧ D.nx σ H) ∨ (J.go i H ∧ ∃ N : L2.St → Hp → Prop, (∀ σ' H', N σ' H' → ∃ m', m' < m ∧ W (i + 1) m' σ' H') ∧ ∀ x H', J.yld i H x H' → g x σ H' fun σ2 H2 => tb { D with nx := N, ct := N, bk := D.nx } σ2 H2)
theorem x_for {wi : TI} {g : TG} {tb : TS} (h : wi σ H fun J H1 => LoopG J g tb D σ H1) : tFor wi g tb D σ H := h
def LcG (J : It) (g : TG) (tt : TT) (te : TE) (vs : List Nat) (σ : L2.St) (H : Hp) (Q : VK) : Prop := ∀ D, H D = none → ∃ W : Nat → Nat → Hp → Prop, (∃ m, W 0 m (upd H D (.lst []))) ∧ ∀ i m H, W i m H →
  (J.stop i H ∧ Q (.ref D) H) ∨ (J.go i H ∧ ∃ Nx : Hp → Prop, (∀ H', Nx H' → ∃ m', m' < m ∧ W (i + 1) m' H') ∧ ∀ x H', J.yld i H x H' → g x (wipe σ vs) H' fun σ2 H2 => wipe σ2 vs = wipe σ vs ∧ tt σ2 H2 fun b H3 =>
    if b = true then te σ2 H3 fun y H4 => ∃ acc, H4 D = some (.lst acc) ∧ acc.length < sizeLine ∧ Nx (upd H4 D (.lst (acc ++ [y]))) else Nx H3)
theorem x_lc {wi : TI} {g : TG} {tt : TT} {vs : List Nat} (h : wi σ H fun J H1 => LcG J g tt te vs σ H1 Q) : tLc wi g tt te vs σ H Q := h
variable {R : It → Hp → Prop}
def gList (K : PySem.W.Frag) (x : V) (H : Hp) (R : It → Hp → Prop) : Prop := ∃ a, x = .ref a ∧ (∃ xs, SqL K H a xs) ∧ R (Itl K a) H
theorem x_iList {tl : TE} (h : tl σ H fun x H1 => gList K x H1 R) : iList K tl σ H R := h
theorem x_gList {p : Addr} {xs : List V} (e : SqL K H p xs) (h : R (Itl K p) H) : gList K (.ref p) H R := ⟨p, rfl, ⟨xs, e⟩, h⟩
def gEnum (K : PySem.W.Frag) (vs : List V) (H : Hp) (R : It → Hp → Prop) : Prop := ∃ a xs, vs = [.ref a] ∧ SqL K H a xs ∧ R (Ite K a) H
theorem x_iEnum (h : tas σ H fun vs H1 => gEnum K vs H1 R) : iEnum K tas σ H R := h
theorem x_gEnum {p : Addr} {xs : List V} (e : SqL K H p xs) (h : R (Ite K p) H) : gEnum K [.ref p] H R := ⟨p, xs, rfl, e, h⟩
def gRng1 (vs : List V) (H : Hp) (R : It → Hp → Prop) : Prop := ∃ j : Int, vs = [.int j] ∧ -(2 ^ 62) ≤ j ∧ j < 2 ^ 62 ∧ R (Itr 0 j.toNat) H
theorem x_iRng1 (h : tas σ H fun vs H1 => gRng1 vs H1 R) : iRng1 tas σ H R := h
theorem x_gRng1 {j : Int} (h1 : -(2 ^ 62) ≤ j) (h2 : j < 2 ^ 62) (h : R (Itr 0 j.toNat) H) : gRng1 [.int j] H R := ⟨j, rfl, h1, h2, h⟩
def gRng2 (vs : List V) (H : Hp) (R : It → Hp → Prop) : Prop := ∃ i j : Int, vs = [.int i, .int j] ∧ (-(2 ^ 62) ≤ i ∧ i < 2 ^ 62 ∧ -(2 ^ 62) ≤ j ∧ j < 2 ^ 62) ∧ R (Itr i (j - i).toNat) H
theorem x_iRng2 (h : tas σ H fun vs H1 => gRng2 vs H1 R) : iRng2 tas σ H R := h
theorem x_gRng2 {i j : Int} (hb : -(2 ^ 62) ≤ i ∧ i < 2 ^ 62 ∧ -(2 ^ 62) ≤ j ∧ j < 2 ^ 62) (h : R (Itr i (j - i).toNat) H) : gRng2 [.int i, .int j] H R := ⟨i, j, rfl, hb, h⟩
def gKeys (x : V) (H : Hp) (R : It → Hp → Prop) : Prop := ∃ d o, x = .ref d ∧ ((∃ kvs, H d = some (.frz o (.dK kvs)) ∧ R (Itk d o kvs) H) ∨ ∃ kvs, H d = some (.frz o (.dT kvs)) ∧ R (Itkt d o kvs) H)
theorem x_iKeys (h : td σ H fun x H1 => gKeys x H1 R) : iKeys td σ H R := h
theorem x_gKeys {d : Addr} {o : Obj} {kvs : List (Key × V)} (e : H d = some (.frz o (.dK kvs))) (h : R (Itk d o kvs) H) : gKeys (.ref d) H R := ⟨d, o, rfl, .inl ⟨kvs, e, h⟩⟩
theorem x_iStr {z : Str} (h : R (Its z) H) : ∃ x, V.str z = .str x ∧ R (Its x) H := ⟨z, rfl, h⟩
/-! ### locks -/
theorem x_lock {t : TS} {d : Addr} {kvs : List (Key × V)} (hd : H d = some (.dK kvs)) (h : ∀ od, t ⟨fun σ' H' => H' d = some (.frz od (.dK kvs)) ∧ D.nx σ' (upd H' d (.dK kvs)), fun v H' => H' d = some (.frz od (.dK kvs)) ∧ D.rt v (upd H' d (.dK kvs)),
    fun σ' H' => H' d = some (.frz od (.dK kvs)) ∧ D.bk σ' (upd H' d (.dK kvs)), fun σ' H' => H' d = some (.frz od (.dK kvs)) ∧ D.ct σ' (upd H' d (.dK kvs))⟩ σ (upd H d (.frz od (.dK kvs)))) : tLock t D σ H := ⟨d, _, hd, True.intro, h⟩
theorem x_lockE {d : Addr} {kvs : List (Key × V)} (hd : H d = some (.dK kvs)) (h : ∀ od, te σ (upd H d (.frz od (.dK kvs))) fun v H' => H' d = some (.frz od (.dK kvs)) ∧ Q v (upd H' d (.dK kvs))) : tLockE te σ H Q := ⟨d, _, hd, True.intro, h⟩
theorem lock_rd {d a : Addr} {od : Obj} {kvs : List (Key × V)} {u : HO} (hd : H d = some (.dK kvs)) (hu : ∀ o z, u ≠ .frz o z) (h : Rd H a u) : Rd (upd H d (.frz od (.dK kvs))) a u := by
  by_cases e : a = d
  · subst e
    rcases h with h | ⟨o, h⟩
    · rw [hd] at h; cases h
      exact .inr ⟨od, upd_same⟩
    · rw [hd] at h; cases h
  · rcases h with h | ⟨o, h⟩
    · exact .inl (by rw [upd_ne e]; exact h)
    · exact .inr ⟨o, by rw [upd_ne e]; exact h⟩
theorem lock_sql {d a : Addr} {od : Obj} {kvs : List (Key × V)} {xs : List V} (hd : H d = some (.dK kvs)) (h : SqL K H a xs) : SqL K (upd H d (.frz od (.dK kvs))) a xs := by
  rcases h with h | h
  · exact .inl (lock_rd hd (fun _ _ => by intro z; cases z) h)
  · exact .inr h
theorem lock_sqt {d a : Addr} {od : Obj} {kvs : List (Key × V)} {xs : List V} (hd : H d = some (.dK kvs)) (h : SqT K H a xs) : SqT K (upd H d (.frz od (.dK kvs))) a xs := by
  rcases h with h | h
  · exact .inl (lock_rd hd (fun _ _ => by intro z; cases z) h)
  · exact .inr h
theorem unlock_same {d : Addr} {od : Obj} {kvs : List (Key × V)} {H2 : Hp} (hd : H d = some (.dK kvs)) (s : Same (upd H d (.frz od (.dK kvs))) H2) : Same H (upd H2 d (.dK kvs)) := fun b o e => by
  by_cases h : b = d
  · subst h
    rw [hd] at e; cases e
    exact upd_same
  · rw [upd_ne h]
    exact s b o (by rw [upd_ne h]; exact e)
theorem lock_at {d : Addr} {od : Obj} {kvs : List (Key × V)} {H2 : Hp} (s : Same (upd H d (.frz od (.dK kvs))) H2) : H2 d = some (.frz od (.dK kvs)) := s _ _ upd_same
/-- a new thing of the locked heap is new for the other one -/
theorem lock_new {d p : Addr} {od : Obj} {kvs : List (Key × V)} (hd : H d = some (.dK kvs)) (h : upd H d (.frz od (.dK kvs)) p = none) : H p = none := by
  have n : p ≠ d := fun z => by rw [z, upd_same] at h; cases h
  rw [upd_ne n] at h; exact h
/-- what could be read can be read -/
def Le (H H' : Hp) : Prop := ∀ a u, (∀ o z, u ≠ .frz o z) → Rd H a u → Rd H' a u
theorem Le.refl (H : Hp) : Le H H := fun _ _ _ h => h
theorem Le.trans {H1 H2 H3 : Hp} (a : Le H1 H2) (b : Le H2 H3) : Le H1 H3 := fun c u hu h => b c u hu (a c u hu h)
theorem Same.le {H H' : Hp} (s : Same H H') : Le H H' := fun _ _ _ h => Same.rd s h
theorem Le.sql {H H' : Hp} {a : Addr} {xs : List V} (s : Le H H') (h : SqL K H a xs) : SqL K H' a xs := by
  rcases h with h | h
  · exact .inl (s _ _ (fun _ _ z => by cases z) h)
  · exact .inr h
theorem Le.sqt {H H' : Hp} {a : Addr} {xs : List V} (s : Le H H') (h : SqT K H a xs) : SqT K H' a xs := by
  rcases h with h | h
  · exact .inl (s _ _ (fun _ _ z => by cases z) h)
  · exact .inr h
theorem Le.dk {H H' : Hp} {a : Addr} {kvs : List (Key × V)} (s : Le H H') (h : Rd H a (.dK kvs)) : Rd H' a (.dK kvs) := s _ _ (fun _ _ z => by cases z) h
theorem Le.put {H H' : Hp} {D : Addr} {o : HO} (s : Le H H') (h : H D = none) : Le H (upd H' D o) := fun a u hu e => by
  have ne : a ≠ D := by
    rcases e with e | ⟨_, e⟩
    · exact ne_of_none e h
    · exact ne_of_none e h
  rcases s a u hu e with q | ⟨x, q⟩
  · exact .inl (by rw [upd_ne ne]; exact q)
  · exact .inr ⟨x, by rw [upd_ne ne]; exact q⟩
theorem upd_swap {H : Hp} {a b : Addr} {o u : HO} (h : a ≠ b) : upd (upd H a o) b u = upd (upd H b u) a o := by
  funext c
  by_cases e : c = a
  · subst e; rw [upd_ne h, upd_same, upd_same]
  · rw [upd_ne e]
    by_cases e2 : c = b
    · subst e2; rw [upd_same, upd_same]
    · rw [upd_ne e2, upd_ne e2, upd_ne e]
theorem upd_own {H : Hp} {a : Addr} {o : HO} (h : H a = some o) : upd H a o = H := by
  funext c
  by_cases e : c = a
  · subst e; rw [upd_same, h]
  · rw [upd_ne e]
/-- the same, some dicts frozen -/
def Lf (H H' : Hp) : Prop := ∀ a o, H a = some o → H' a = some o ∨ ∃ od kvs, o = .dK kvs ∧ H' a = some (.frz od (.dK kvs))
theorem Lf.refl (H : Hp) : Lf H H := fun _ _ e => .inl e
theorem Same.lf {H H' : Hp} (s : Same H H') : Lf H H' := fun a o e => .inl (s a o e)
theorem Lf.trans {H1 H2 H3 : Hp} (a : Lf H1 H2) (b : Lf H2 H3) : Lf H1 H3 := fun c o e => by
  rcases a c o e with q | ⟨od, kvs, rfl, q⟩
  · exact b c o q
  · rcases b c _ q with r | ⟨_, _, r, _⟩
    · exact .inr ⟨od, kvs, rfl, r⟩
    · cases r
theorem Lf.le {H H' : Hp} (s : Lf H H') : Le H H' := fun a u hu h => by
  rcases h with h | ⟨o, h⟩
  · rcases s a _ h with q | ⟨od, kvs, rfl, q⟩
    · exact .inl q
    · exact .inr ⟨od, q⟩
  · rcases s a _ h with q | ⟨od, kvs, e, q⟩
    · exact .inr ⟨o, q⟩
    · cases e
theorem Lf.lst {H H' : Hp} {a : Addr} {xs : List V} (s : Lf H H') (h : H a = some (.lst xs)) : H' a = some (.lst xs) := by
  rcases s a _ h with q | ⟨od, kvs, e, q⟩
  · exact q
  · cases e
theorem Lf.tup {H H' : Hp} {a : Addr} {xs : List V} (s : Lf H H') (h : H a = some (.tup xs)) : H' a = some (.tup xs) := by
  rcases s a _ h with q | ⟨od, kvs, e, q⟩
  · exact q
  · cases e
theorem Lf.put {H H' : Hp} {D : Addr} {o : HO} (s : Lf H H') (h : H D = none) : Lf H (upd H' D o) := fun a u e => by
  rw [upd_ne (ne_of_none e h)]
  exact s a u e
theorem Lf.lock {H : Hp} {d : Addr} {od : Obj} {kvs : List (Key × V)} (hd : H d = some (.dK kvs)) : Lf H (upd H d (.frz od (.dK kvs))) := fun a o e => by
  by_cases h : a = d
  · subst h
    rw [hd] at e; cases e
    exact .inr ⟨od, kvs, rfl, upd_same⟩
  · exact .inl (by rw [upd_ne h]; exact e)
theorem Lf.free {H H' : Hp} {a : Addr} (s : Lf H H') (h : H' a = none) : H a = none := by
  cases e : H a with
  | none => rfl
  | some o =>
    rcases s a o e with q | ⟨_, _, _, q⟩ <;> rw [h] at q <;> cases q
/-- within the walk over the dict at d -/
structure Lk (H : Hp) (d : Addr) (kvs : List (Key × V)) (od : Obj) (H1 : Hp) (U : Hp → Hp) : Prop where
  at_ : H1 d = some (.frz od (.dK kvs))
  le : Le H H1
  lf : Lf H H1
  new : ∀ p, H1 p = none → H p = none
  back : ∀ H2, Same H1 H2 → Same H (U H2)
  else_ : ∀ H2 p, p ≠ d → U H2 p = H2 p
  comm : ∀ H2 q o, q ≠ d → U (upd H2 q o) = upd (U H2) q o
theorem Lk.lock {d : Addr} {kvs : List (Key × V)} {od : Obj} (hd : H d = some (.dK kvs)) : Lk H d kvs od (upd H d (.frz od (.dK kvs))) fun H2 => upd H2 d (.dK kvs) :=
  ⟨upd_same, fun a u hu h => lock_rd hd hu h, Lf.lock hd, fun p h => lock_new hd h, fun H2 s => unlock_same hd s, fun H2 p h => upd_ne h, fun H2 q o h => upd_swap h⟩
theorem Lk.none {d : Addr} {kvs : List (Key × V)} {od : Obj} (hd : H d = some (.frz od (.dK kvs))) : Lk H d kvs od H fun H2 => H2 := ⟨hd, Le.refl _, Lf.refl _, fun _ h => h, fun _ s => s, fun _ _ _ => rfl, fun _ _ _ _ => rfl⟩
theorem x_lock2 {t : TS} {d : Addr} {kvs : List (Key × V)} (hd : Rd H d (.dK kvs)) (h : ∀ od H1 U, Lk H d kvs od H1 U → t ⟨fun σ' H' => H' d = some (.frz od (.dK kvs)) ∧ D.nx σ' (U H'), fun v H' => H' d = some (.frz od (.dK kvs)) ∧ D.rt v (U H'),
    fun σ' H' => H' d = some (.frz od (.dK kvs)) ∧ D.bk σ' (U H'), fun σ' H' => H' d = some (.frz od (.dK kvs)) ∧ D.ct σ' (U H')⟩ σ H1) : tLock2 t D σ H := by
  rcases hd with hd | ⟨od, hd⟩
  · exact .inl (x_lock hd fun od => h od _ _ (Lk.lock hd))
  · exact .inr ⟨d, od, _, hd, h od _ _ (Lk.none hd)⟩
theorem x_lockE2 {d : Addr} {kvs : List (Key × V)} (hd : Rd H d (.dK kvs)) (h : ∀ od H1 U, Lk H d kvs od H1 U → te σ H1 fun v H' => H' d = some (.frz od (.dK kvs)) ∧ Q v (U H')) : tLockE2 te σ H Q := by
  rcases hd with hd | ⟨od, hd⟩
  · exact .inl (x_lockE hd fun od => h od _ _ (Lk.lock hd))
  · exact .inr ⟨d, od, _, hd, h od _ _ (Lk.none hd)⟩
/-! ### loops -/
theorem L_list {p : Addr} {xs : List V} {g : TG} {tb : TS} (Pv : Nat → L2.St → Hp → Prop) (h0 : Pv 0 σ H) (hl : ∀ i σ H, i ≤ xs.length → Pv i σ H → SqL K H p xs)
    (hs : ∀ i x σ H, xs[i]? = some x → Pv i σ H → g x σ H fun σ2 H2 => tb { D with nx := Pv (i + 1), ct := Pv (i + 1), bk := D.nx } σ2 H2) (hd : ∀ σ H, Pv xs.length σ H → D.nx σ H) : LoopG (Itl K p) g tb D σ H := for_list Pv h0 hl hs hd
theorem L_range {lo : Int} {n : Nat} {g : TG} {tb : TS} (Pv : Nat → L2.St → Hp → Prop) (h0 : Pv 0 σ H)
    (hs : ∀ i σ H, i < n → Pv i σ H → g (.int (lo + i)) σ H fun σ2 H2 => tb { D with nx := Pv (i + 1), ct := Pv (i + 1), bk := D.nx } σ2 H2) (hd : ∀ σ H, Pv n σ H → D.nx σ H) : LoopG (Itr lo n) g tb D σ H := for_range Pv h0 hs hd
theorem L_enum {p : Addr} {xs : List V} {a b : Nat} {tb : TS} (Pv : Nat → L2.St → Hp → Prop) (h0 : Pv 0 σ H) (hl : ∀ i σ H, i ≤ xs.length → Pv i σ H → SqL K H p xs)
    (hs : ∀ i x T σ H, xs[i]? = some x → Pv i σ H → H T = none → tb { D with nx := Pv (i + 1), ct := Pv (i + 1), bk := D.nx } ((σ.set a (some (.int (i : Nat)))).set b (some x)) (upd H T (.tup [.int (i : Nat), x]))) (hd : ∀ σ H, Pv xs.length σ H → D.nx σ H) :
    LoopG (Ite K p) (gTup K 2 (gCons (gName a) (gCons (gName b) gNil))) tb D σ H := by
  refine for_it (walk_enum (K := K) (a := p) (xs := xs)) Pv h0 hl (fun i v σ H H' hi p' y => ?_) hd
  obtain ⟨T, x, y, rfl, hT, rfl, e1, e2⟩ := y
  cases e1
  exact ⟨T, _, rfl, SqT.of upd_same, rfl, _, _, rfl, _, _, rfl, rfl, hs i y T σ H e2 p' hT⟩
theorem L_keys {d : Addr} {o : Obj} {kvs : List (Key × V)} {g : TG} {tb : TS} (Pv : Nat → L2.St → Hp → Prop) (h0 : Pv 0 σ H) (hl : ∀ i σ H, i ≤ kvs.length → Pv i σ H → H d = some (.frz o (.dK kvs)))
    (hs : ∀ i k v σ H, kvs[i]? = some (k, v) → Pv i σ H → g (kV k) σ H fun σ2 H2 => tb { D with nx := Pv (i + 1), ct := Pv (i + 1), bk := D.nx } σ2 H2) (hd : ∀ σ H, Pv kvs.length σ H → D.nx σ H) : LoopG (Itk d o kvs) g tb D σ H := by
  refine for_it (walk_keys (d := d) (o := o) (kvs := kvs)) Pv h0 hl (fun i v σ H H' hi p' y => ?_) hd
  obtain ⟨rfl, k, v, e, rfl⟩ := y
  exact hs i k v σ H' e p'
/-- a while loop: the invariant by what is left -/
theorem L_while {tb : TS} (Pv : Nat → L2.St → Hp → Prop) (m : Nat) (h0 : Pv m σ H)
    (hs : ∀ m σ H, Pv m σ H → c σ H fun b H1 => if b = true then ∃ N : L2.St → Hp → Prop, (∀ σ' H', N σ' H' → ∃ m', m' < m ∧ Pv m' σ' H') ∧ tb { D with nx := N, ct := N, bk := D.nx } σ H1 else D.nx σ H1) : tWhile c tb D σ H := ⟨Pv, ⟨m, h0⟩, hs⟩
theorem x_whileGo {Pv : Nat → L2.St → Hp → Prop} {m : Nat} {P : (L2.St → Hp → Prop) → Prop} (h : P (fun σ' H' => ∃ m', m' < m ∧ Pv m' σ' H')) : ∃ N : L2.St → Hp → Prop, (∀ σ' H', N σ' H' → ∃ m', m' < m ∧ Pv m' σ' H') ∧ P N := ⟨_, fun _ _ h => h, h⟩
/-- a comprehension over a list whose element and test are functions of the item -/
theorem L_lcP {p : Addr} {xs : List V} {g : TG} {tt : TT} {vs : List Nat} (F : V → Option V) (hp : SqL K H p xs) (hlen : xs.length ≤ 16000000)
    (hs : ∀ (i : Nat) (x : V) (H2 : Hp), xs[i]? = some x → Same H H2 → ∀ R : Option V → Hp → Prop, (∀ H3, Same H2 H3 → R (F x) H3) → g x (wipe σ vs) H2 fun σ2 H3 => wipe σ2 vs = wipe σ vs ∧ tt σ2 H3 fun b H4 =>
      if b = true then te σ2 H4 fun y H5 => R (some y) H5 else R none H4)
    (hq : ∀ D H2, H D = none → Same H H2 → H2 D = some (.lst (xs.filterMap F)) → Q (.ref D) H2) : LcG (Itl K p) g tt te vs σ H Q := by
  intro D hD
  refine lc_list (K := K) (a := p) (xs := xs) (fun i H2 => Same H H2 ∧ H2 D = some (.lst ((xs.take i).filterMap F))) ⟨Same.new hD, upd_same⟩ (fun i H2 _ h => Same.sql h.1 hp) (fun i x H2 hi h => ?_) (fun H2 h => ?_)
  · have tk : xs.take (i + 1) = xs.take i ++ [x] := by rw [List.take_add_one, hi]; rfl
    refine hs i x H2 hi h.1 (fun o H' => match o with
      | some y => ∃ acc, H' D = some (.lst acc) ∧ acc.length < sizeLine ∧ (Same H (upd H' D (.lst (acc ++ [y]))) ∧ (upd H' D (.lst (acc ++ [y]))) D = some (.lst ((xs.take (i + 1)).filterMap F)))
      | none => Same H H' ∧ H' D = some (.lst ((xs.take (i + 1)).filterMap F))) fun H3 s3 => ?_
    have hl : ((xs.take i).filterMap F).length < sizeLine := by
      have a1 : ((xs.take i).filterMap F).length ≤ (xs.take i).length := List.length_filterMap_le _ _
      have a2 : (xs.take i).length ≤ xs.length := by rw [List.length_take]; omega
      rw [sizeLine_eq]; omega
    rw [tk, List.filterMap_append]
    cases hF : F x with
    | some y =>
      refine ⟨_, s3 _ _ h.2, hl, Same.put (Same.trans h.1 s3) hD, ?_⟩
      rw [upd_same]; simp [hF]
    | none =>
      refine ⟨Same.trans h.1 s3, ?_⟩
      rw [s3 _ _ h.2]; simp [hF]
  · obtain ⟨s, e⟩ := h
    rw [List.take_length] at e
    exact hq D H2 hD s e
/-- a comprehension over any walk: the list so far and what is known with it (D: the new list) -/
theorem L_lcW {J : It} {n : Nat} {G : Hp → Prop} {Y : Nat → Hp → V → Hp → Prop} (wk : Walk J n G Y) {g : TG} {tt : TT} {vs : List Nat} (Pv : Addr → Nat → List V → Hp → Prop)
    (h0 : ∀ D, H D = none → Pv D 0 [] (upd H D (.lst []))) (hG : ∀ D i acc H', Pv D i acc H' → G H')
    (hs : ∀ D (i : Nat) (x : V) acc H2 H3, H D = none → i < n → Pv D i acc H2 → H2 D = some (.lst acc) → Y i H2 x H3 → ∀ R : Option V → Hp → Prop,
      (∀ y H6, H6 D = some (.lst acc) → acc.length < sizeLine → Pv D (i + 1) (acc ++ [y]) (upd H6 D (.lst (acc ++ [y]))) → R (some y) H6) → (∀ H5, Pv D (i + 1) acc H5 → H5 D = some (.lst acc) → R none H5) →
      g x (wipe σ vs) H3 fun σ2 H4 => wipe σ2 vs = wipe σ vs ∧ tt σ2 H4 fun b H5 => if b = true then te σ2 H5 fun y H6 => R (some y) H6 else R none H5)
    (hd : ∀ D acc H', H D = none → Pv D n acc H' → H' D = some (.lst acc) → Q (.ref D) H') : LcG J g tt te vs σ H Q := by
  intro D hD
  refine lc_it wk (fun i H' => ∃ acc, Pv D i acc H' ∧ H' D = some (.lst acc)) ⟨[], h0 D hD, upd_same⟩ (fun i H' _ ⟨acc, h, _⟩ => hG D i acc H' h) (fun i x H2 H3 hi ⟨acc, h, e⟩ y => ?_) (fun H' ⟨acc, h, e⟩ => hd D acc H' hD h e)
  exact hs D i x acc H2 H3 hD hi h e y (fun o H' => match o with
    | some y => ∃ acc, H' D = some (.lst acc) ∧ acc.length < sizeLine ∧ ∃ acc', Pv D (i + 1) acc' (upd H' D (.lst (acc ++ [y]))) ∧ (upd H' D (.lst (acc ++ [y]))) D = some (.lst acc')
    | none => ∃ acc, Pv D (i + 1) acc H' ∧ H' D = some (.lst acc)) (fun y H6 a1 a2 a3 => ⟨acc, a1, a2, _, a3, upd_same⟩) fun H5 a1 a2 => ⟨acc, a1, a2⟩
/-- the comprehension's own slot i -/
theorem x_own {x : V} {P : L2.St → Hp → Prop} (hi : i < σ.length) (h : (σ.set i (some x))[i]? = some (some x) → P (σ.set i (some x)) H) : gName i x (wipe σ [i]) H fun σ2 H4 => wipe σ2 [i] = wipe σ [i] ∧ P σ2 H4 := by
  have e1 : (wipe σ [i]).set i (some x) = σ.set i (some x) := by simp [wipe]
  show wipe ((wipe σ [i]).set i (some x)) [i] = wipe σ [i] ∧ P ((wipe σ [i]).set i (some x)) H
  rw [e1]
  exact ⟨by simp [wipe], h (by simp [hi])⟩
end
theorem x_ite {P : Prop} [Decidable P] {A B : Prop} (h1 : P → A) (h2 : ¬ P → B) : if decide P = true then A else B := by
  by_cases h : P
  · rw [decide_eq_true h, if_pos rfl]; exact h1 h
  · rw [decide_eq_false h, if_neg Bool.false_ne_true]; exact h2 h
theorem x_iteN {P : Prop} [Decidable P] {A B : Prop} (h1 : ¬ P → A) (h2 : P → B) : if (!decide P) = true then A else B := by
  by_cases h : P
  · rw [decide_eq_true h]; exact h2 h
  · rw [decide_eq_false h]; exact h1 h
theorem x_iteB {b : Bool} {A B : Prop} (h1 : b = true → A) (h2 : b = false → B) : if b = true then A else B := by
  cases b with
  | true => exact h1 rfl
  | false => exact h2 rfl
theorem x_iteT {A B : Prop} (h : A) : if true = true then A else B := h
theorem x_iteF {A B : Prop} (h : B) : if false = true then A else B := h
section
variable {K : PySem.W.Frag} {H : Hp} {Q : VK}
theorem x_mod {a b : Int} (hb : 0 < b) (h : Q (.int (a % b)) H) : oMod (.int a) (.int b) H Q := x_rI hb h
theorem x_fdv {a b : Int} (hb : CDivW a b) (h : Q (.int (a / b)) H) : oFdv (.int a) (.int b) H Q := x_rI hb h
theorem x_mulR {a b : Int} (hb : -(2 ^ 64) < b ∧ b < 2 ^ 64) (h : Q (.int (a * b)) H) : oMul (.int a) (.int b) H Q := x_rI (.inr hb) h
theorem x_mulL {a b : Int} (hb : -(2 ^ 64) < a ∧ a < 2 ^ 64) (h : Q (.int (a * b)) H) : oMul (.int a) (.int b) H Q := x_rI (.inl hb) h
theorem x_pow {a b : Int} (hb : CPow a b) (h : Q (.int (a ^ b.toNat)) H) : oPow (.int a) (.int b) H Q := x_rI hb h
theorem cdiv {i j : Int} (h : 0 < j ∧ j < 2 ^ 62) : CDivW i j := wide_div (b := 62) h.1 (by omega) (by decide) (by decide)
end
end SX0

open PySem PySem.Spec PyProof.Rows L2 SX0
local macro_rules | `(tactic| walk_at "v1") => `(tactic| first
  | with_reducible refine x_seq ?_
  | with_reducible refine x_asgN ?_
  | ((with_reducible refine' x_var ?ee ?_); (case ee => exact rfl))
  | with_reducible refine x_c ?_
  | with_reducible refine x_op ?_
  | with_reducible refine x_rI0 ?_
  | with_reducible refine x_ret ?_
  | with_reducible refine x_ifS ?_
  | with_reducible refine x_test ?_
  | with_reducible refine x_tB ?_
  | with_reducible refine x_bl ?_
  | with_reducible refine x_next ?_
  | with_reducible refine x_drop ?_
  | with_reducible refine x_cons ?_
  | with_reducible refine x_nil ?_
  | with_reducible refine x_cb ?_
  | with_reducible refine x_callS ?_
  | ((with_reducible refine' x_rEq ?ee ?_); (case ee => exact rfl))
  | ((with_reducible refine' x_rNe ?ee ?_); (case ee => exact rfl))
  | with_reducible refine x_isN ?_
  | with_reducible refine x_notN ?_
  | with_reducible refine x_and ?_
  | with_reducible refine x_or ?_
  | with_reducible refine x_not ?_
  | with_reducible refine x_andV ?_
  | with_reducible refine x_orV ?_
  | with_reducible refine x_notV ?_
  | with_reducible refine x_ifE ?_
  | with_reducible refine x_chain ?_
  | with_reducible refine x_lst ?_
  | with_reducible refine x_tup ?_
  | with_reducible refine x_dnewK ?_
  | with_reducible refine x_dnewT ?_
  | with_reducible refine x_dget ?_
  | with_reducible refine x_din ?_
  | with_reducible refine x_dnotin ?_
  | with_reducible refine x_dput ?_
  | with_reducible refine x_bm ?_
  | with_reducible refine x_bm0 ?_
  | with_reducible refine x_tru ?_
  | with_reducible refine x_yes ?_
  | with_reducible refine x_int1 ?_
  | with_reducible refine x_intB ?_
  | with_reducible refine x_sl ?_
  | with_reducible refine x_part ?_
  | with_reducible refine x_partI ?_
  | with_reducible refine x_nopart ?_
  | with_reducible refine x_asgT ?_
  | with_reducible refine x_asgS ?_
  | with_reducible refine x_gcons ?_
  | with_reducible refine x_gnil ?_
  | with_reducible refine x_retN ?_
  | with_reducible refine x_rz ?_
  | with_reducible refine x_un ?_
  | with_reducible refine x_neg ?_
  | with_reducible refine x_for ?_
  | with_reducible refine x_iList ?_
  | with_reducible refine x_iEnum ?_
  | with_reducible refine x_iRng1 ?_
  | with_reducible refine x_iRng2 ?_
  | with_reducible refine x_iKeys ?_
  | with_reducible refine x_lc ?_
  | with_reducible refine x_iteT ?_
  | with_reducible refine x_iteF ?_)
local macro_rules | `(tactic| walk_at "vv") => `(tactic| repeat walk_at "v1")
local macro_rules | `(tactic| walk_at "vz") => `(tactic| repeat first
  | walk_at "v1"
  | with_reducible refine x_mod (by decide) ?_
  | with_reducible refine x_fdv (cdiv (by decide)) ?_
  | with_reducible refine x_mulR (by decide) ?_
  | with_reducible refine x_mulL (by decide) ?_)

set_option Elab.async false
set_option linter.all false
set_option maxRecDepth 100000
set_option maxHeartbeats 4000000
namespace SX0
open PySem PySem.Spec PyProof.Rows L2
theorem law_callX {P : Program} {w : World} {K : PySem.W.Frag} {mg mb : Str → Option Value} {CX : CXT} {k : Nat} {fa a : Addr} {fd : FuncData} {x : Str} {sp : Sp} {s₁ : Shared} {vs : List Value} {ns : List Int}
    (KX : K.In s₁.heap) (hns : s₁.heap.Ns mainGlobals mg) (hb : s₁.heap.Ns builtinsNs mb) (hbb : ∀ x : Str, x ≠ "__name__" → mb x = bootBuiltins x) (hlim : s₁.heap.NoLimit) (hg : s₁.gens = #[])
    (ha : s₁.heap.get? a = some { cls := .type "list", data := .seq vs.toArray }) (hi : IntsAre vs ns) (hl : ns.length ≤ sizeLine) (hr : Room k callerA)
    (F : ∀ base : Heap, K.In base → base.Ns mainGlobals mg → FnOk P w K mg base CX k fa fd [x] sp) (hbind : ∀ (s : Shared) (u : Value), BindsTo s fd ⟨[u], []⟩ [(x, u)])
    (hsp : ∀ H : Hp, Only H → SqX K H a (ns.map V.int) → sp [.ref a] H (fun v _ => v = .bl true) fun _ _ _ => False)
    (hCX : ∀ H e s', CX [] H s₁ (fun _ _ _ => False) e s' → False) :
    codeAny (model P w) callerA (.call (.ref fa) ⟨[.ref a], []⟩) (fun r s' => r = .ok (.ret (.bool true)) ∧ OldK s₁.heap s'.heap ∧ s'.os = s₁.os ∧ AllBare s'.gens) s₁ := by
  refine law_call KX hns hb hbb hlim hg ha hi hl hr F hbind (fun H hO hS => hsp H hO ?_) hCX
  have rv := vals_ints hi
  rcases hS with h | ⟨o, its, n, hk, hc, hd, hdat, hz, r⟩
  · exact .inl h
  · have e := KX a o hk
    rw [ha] at e
    cases e
    have e2 : Data.seq vs.toArray 0 = Data.seq its n := hdat
    cases e2
    exact .inr ⟨vs, hk, by rw [hi.length]; exact hl, rv⟩
theorem walk_ofX {l : PySem.W.OpenLaw} {n k : Nat} {q : Program} {loose : List Str} {XP : (Str → Option Value) → Heap → Prop} {YP : World → Heap → Prop} {d : DefRec} {x : Str}
    (hn : l.most = some n) (hn2 : n ≤ sizeLine) (hdf : d.params.defaults = []) (hr : Room k callerA)
    (F : ∀ (w : World) (mg : Str → Option Value) (fa : Addr) (h : Heap), YP w h → h.Ns mainGlobals mg → mg d.name = some (.ref fa) →
      ∃ (K : PySem.W.Frag) (fd : FuncData) (sp : Sp), K.In h ∧ (∀ (s : Shared) (u : Value), BindsTo s fd ⟨[u], []⟩ [(x, u)]) ∧
        (∀ (H : Hp) (a : Addr) (ns : List Int), ns.length ≤ n → (∀ k ∈ ns, Builtin.Int.intBits k ≤ 1048576) → Only H → SqX K H a (ns.map V.int) → sp [.ref a] H (fun v _ => v = .bl true) fun _ _ _ => False) ∧
        ∀ base : Heap, K.In base → base.Ns mainGlobals mg → FnOk l.prog w K mg base (L2.CX l.prog w) k fa fd [x] sp) :
    PySem.W.WalkO q loose XP YP l.row.toRowW d [] (fun f vs => PySem.call f vs) := by
  refine Att.attach_callB hn hdf fun w s₀ s₁ mg mb fa o pm cd doc a vs ns G Y ho hd hcd hmg hobj hints hlen hbits hg => ?_
  obtain ⟨K, fd, sp, KX, hb, hsp, hF⟩ := F w mg fa _ Y G.T.g hmg
  refine law_callX KX G.T.g G.T.b G.T.builtins G.T.nolimit hg hobj hints (Nat.le_trans hlen hn2) hr hF hb (fun H hO hS => hsp H a ns hlen hbits hO hS) fun H e s' h => ?_
  obtain ⟨_, _, _, _, _, _, _, _, _, _, _, _, z⟩ := h
  exact z
end SX0

set_option Elab.async false
set_option linter.all false
set_option maxRecDepth 100000
namespace SX0
open PySem PySem.Spec PyProof.Rows L2
/-! ### facts, tables and a Bool, read of what the names reach and of the interpreter's own statics -/
abbrev AlY : Type := He.AlT × Bool
def asY (g : Addr → Option Obj) (n : Nat) : List Addr := He.asD g n ++ [cStatics]
def obsY (n : Nat) (fa : List He.Fa) (fn : List He.DefD) (ts : List He.Tab) (ex : PySem.W.Frag → Bool) (g : Addr → Option Obj) : AlY := (He.obsT fa fn ts (He.frT g (asY g n)), ex (He.frT g (asY g n)))
structure SaysY (fa : List He.Fa) (fn : List He.DefD) (ts : List He.Tab) (ex : PySem.W.Frag → Bool) (w : World) (K : PySem.W.Frag) : Prop where
  t : He.SaysT fa fn ts w K
  more : ex K = true
def hookY (n : Nat) (fa : List He.Fa) (fn : List He.DefD) (ts : List He.Tab) (ex : PySem.W.Frag → Bool) : PySem.W.Hook where
  α := AlY
  obs := fun s => obsY n fa fn ts ex s.heap.get?
  val := fun w => (He.valT fn ts w, true)
  says := fun w h => ∃ K : PySem.W.Frag, K.In h ∧ SaysY fa fn ts ex w K
  of := fun w s e => ⟨He.frT s.heap.get? (asY s.heap.get? n), He.frT_in, congrArg (fun z : AlY => z.1) e, congrArg (fun z : AlY => z.2) e⟩
  keeps := fun w h h' ⟨K, hK, c⟩ k => ⟨K, PySem.W.Frag.In.keeps hK k, c⟩
theorem obsY_eq {n : Nat} {fa : List He.Fa} {fn : List He.DefD} {ts : List He.Tab} {ex : PySem.W.Frag → Bool} {g : Addr → Option Obj} {s : Shared} (h : ∀ a, g a = s.heap.get? a) : obsY n fa fn ts ex g = (hookY n fa fn ts ex).obs s := by
  have e : g = s.heap.get? := funext h
  rw [e]
  rfl
end SX0

set_option Elab.async false
set_option linter.all false
set_option maxRecDepth 100000
namespace R_k75
open PySem PySem.Spec PyProof.Rows L2 SX0
def t__law_lines (K : PySem.W.Frag) (E : XK) : TS :=
 (tSeq (tAsg (tLst (tCons (tC (.str "load 1 2 0")) (tCons (tC (.str "store 3 0 1")) (tCons (tC (.str "copy 4 5")) (tCons (tC (.str "drop 7")) (tCons (tC (.str "number 2 -31")) (tCons (tC (.str "name 0 6")) (tCons (tC (.str "read 1 1")) (tCons (tC (.str "word 2 900")) tNil))))))))) (gName 1))
 (tSeq (tAsg (tOp (rCatS K) (tVar 1) (tLst (tCons (tC (.str "make 3 2 17 40")) (tCons (tC (.str "small")) (tCons (tC (.str "begin")) (tCons (tC (.str "shade 17")) (tCons (tC (.str "look 17 1")) (tCons (tC (.str "move 17 80")) (tCons (tC (.str "end")) (tCons (tC (.str "room 90 young")) tNil)))))))))) (gName 1))
 (tSeq (tAsg (tOp (rCatS K) (tVar 1) (tLst (tCons (tOp oAddStr (tC (.str "number 3 ")) (tOp oRepS (tC (.str "9")) (tC (.int 61)))) (tCons (tOp oAddStr (tC (.str "word 1 -")) (tOp oRepS (tC (.str "9")) (tC (.int 61)))) tNil)))) (gName 1))
 (tSeq (tAsg (tLst (tCons (tC (.str "room 64 old")) tNil)) (gName 2))
 (tSeq (tFor (iList K (tSl (rSlL K) (tVar 0) tNoPart (tPart (tC (.int 20))))) (gName 3) (tDrop (tBM K "list" rAppend (tVar 2) (tCons (tOp (rIxL K) (tVar 1) (tOp oMod (tVar 3) (tC (.int 18)))) tNil))))
 (tRet (tVar 2)))))))
abbrev N__law_lines : List Str := ["script", "some", "lines", "cell"]
def sp__law_lines (K : PySem.W.Frag) : Sp := fun vs H Q E => vs.length = 1 ∧ t__law_lines K E { nx := fun _ H' => Q .non H', rt := Q } (start N__law_lines vs) H
theorem i__law_lines {K : PySem.W.Frag} {a0 : V} {H : Hp} {Q : VK} {E : XK} (h : t__law_lines K E { nx := fun _ H' => Q .non H', rt := Q } [some a0, none, none, none] H) : sp__law_lines K [a0] H Q E := ⟨rfl, h⟩
def t_number_in_log (K : PySem.W.Frag) (E : XK) : TS :=
 (tSeq (tAsg (tVar 0) (gName 1))
 (tSeq (tIfS (tTest (tOp rEq (tSl rSlS (tVar 0) tNoPart (tPart (tC (.int 1)))) (tC (.str "-")))) (tAsg (tSl rSlS (tVar 0) (tPart (tC (.int 1))) tNoPart) (gName 1)) tNext)
 (tSeq (tIfS (tOr (tTest (tOp rEq (tVar 1) (tC (.str "")))) (tOr (tTest (tOp oGt (tCB cLenStr (tCons (tVar 1) tNil)) (tC (.int 61)))) (tAnd (tTest (tOp rEq (tOp rIxS (tVar 1) (tC (.int 0))) (tC (.str "0")))) (tTest (tOp rNe (tVar 0) (tC (.str "0"))))))) (tRet (tC .non)) tNext)
 (tSeq (tFor (iStr (tVar 1)) (gName 2) (tIfS (tTest (tOp oNotInSign (tVar 2) (tC (.str "0123456789")))) (tRet (tC .non)) tNext))
 (tRet (tCB cIntStr (tCons (tVar 0) tNil)))))))
abbrev N_number_in_log : List Str := ["word", "figures", "sign"]
def sp_number_in_log (K : PySem.W.Frag) : Sp := fun vs H Q E => vs.length = 1 ∧ t_number_in_log K E { nx := fun _ H' => Q .non H', rt := Q } (start N_number_in_log vs) H
theorem i_number_in_log {K : PySem.W.Frag} {a0 : V} {H : Hp} {Q : VK} {E : XK} (h : t_number_in_log K E { nx := fun _ H' => Q .non H', rt := Q } [some a0, none, none] H) : sp_number_in_log K [a0] H Q E := ⟨rfl, h⟩
def t_room_in_log (K : PySem.W.Frag) (E : XK) : TS :=
 (tSeq (tIfS (tOr (tTest (tOp rNe (tCB (cLenSeq K) (tCons (tVar 0) tNil)) (tC (.int 3)))) (tOr (tTest (tOp (rIn K true) (tOp (rIxL K) (tVar 0) (tC (.int 2))) (tTup (tCons (tC (.str "young")) (tCons (tC (.str "old")) tNil))))) (tTest (tOp oIsN (tCallS (sp_number_in_log K) (WE (WD E)) (tCons (tOp (rIxL K) (tVar 0) (tC (.int 1))) tNil)) (tC .non))))) (tRet (tC .non)) tNext)
 (tRet (tTup (tCons (tC (.str "room")) (tCons (tCallS (sp_number_in_log K) (WE (WD E)) (tCons (tOp (rIxL K) (tVar 0) (tC (.int 1))) tNil)) (tCons (tOp rEq (tOp (rIxL K) (tVar 0) (tC (.int 2))) (tC (.str "young"))) tNil))))))
abbrev N_room_in_log : List Str := ["words"]
def sp_room_in_log (K : PySem.W.Frag) : Sp := fun vs H Q E => vs.length = 1 ∧ t_room_in_log K E { nx := fun _ H' => Q .non H', rt := Q } (start N_room_in_log vs) H
theorem i_room_in_log {K : PySem.W.Frag} {a0 : V} {H : Hp} {Q : VK} {E : XK} (h : t_room_in_log K E { nx := fun _ H' => Q .non H', rt := Q } [some a0] H) : sp_room_in_log K [a0] H Q E := ⟨rfl, h⟩
def t_row_in_log (K : PySem.W.Frag) (E : XK) : TS :=
 (tSeq (tAsg (tM1 cSplit (tVar 0) (tC (.str " "))) (gName 1))
 (tSeq (tIfS (tTest (tOp rEq (tOp (rIxL K) (tVar 1) (tC (.int 0))) (tC (.str "room")))) (tRet (tCallS (sp_room_in_log K) (WE (WD E)) (tCons (tVar 1) tNil))) tNext)
 (tSeq (tIfS (tOr (tTest (tOp (rNotInKd K "PARTS_OF_ROWS") (tOp (rIxL K) (tVar 1) (tC (.int 0))) (tC (.ref (He.ga K "PARTS_OF_ROWS"))))) (tTest (tOp rNe (tCB (cLenSeq K) (tCons (tVar 1) tNil)) (tOp oAdd (tOp (rItemKd K "PARTS_OF_ROWS") (tC (.ref (He.ga K "PARTS_OF_ROWS"))) (tOp (rIxL K) (tVar 1) (tC (.int 0)))) (tC (.int 1)))))) (tRet (tC .non)) tNext)
 (tSeq (tAsg (tLc (iList K (tSl (rSlL K) (tVar 1) (tPart (tC (.int 1))) tNoPart)) (gName 3) tYes (tCallS (sp_number_in_log K) (WE W0) (tCons (tVar 3) tNil)) [3]) (gName 2))
 (tSeq (tIfS (tTest (tOp (rIn K false) (tC .non) (tVar 2))) (tRet (tC .non)) tNext)
 (tRet (tCB (cTupleOf K) (tCons (tOp (rCatS K) (tLst (tCons (tOp (rIxL K) (tVar 1) (tC (.int 0))) tNil)) (tVar 2)) tNil))))))))
abbrev N_row_in_log : List Str := ["text", "words", "numbers", "word"]
def sp_row_in_log (K : PySem.W.Frag) : Sp := fun vs H Q E => vs.length = 1 ∧ t_row_in_log K E { nx := fun _ H' => Q .non H', rt := Q } (start N_row_in_log vs) H
theorem i_row_in_log {K : PySem.W.Frag} {a0 : V} {H : Hp} {Q : VK} {E : XK} (h : t_row_in_log K E { nx := fun _ H' => Q .non H', rt := Q } [some a0, none, none, none] H) : sp_row_in_log K [a0] H Q E := ⟨rfl, h⟩
def t_BadLog___init__ (K : PySem.W.Frag) (E : XK) : TS :=
 (tSeq (tDrop (tVeI K (tCons (tVar 0) (tCons (tVar 1) tNil))))
 (tOst K "row" (tVar 0) (tVar 2)))
abbrev N_BadLog___init__ : List Str := ["self", "words", "row"]
def sp_BadLog___init__ (K : PySem.W.Frag) : Sp := fun vs H Q E => vs.length = 3 ∧ t_BadLog___init__ K E { nx := fun _ H' => Q .non H', rt := Q } (start N_BadLog___init__ vs) H
theorem i_BadLog___init__ {K : PySem.W.Frag} {a0 a1 a2 : V} {H : Hp} {Q : VK} {E : XK} (h : t_BadLog___init__ K E { nx := fun _ H' => Q .non H', rt := Q } [some a0, some a1, some a2] H) : sp_BadLog___init__ K [a0, a1, a2] H Q E := ⟨rfl, h⟩
def t_read_log (K : PySem.W.Frag) (E : XK) : TS :=
 (tSeq (tAsg (tLst tNil) (gName 1))
 (tSeq (tFor (iEnum K (tCons (tM1 cSplit (tVar 0) (tC (.str "\n"))) tNil)) (gTup K 2 (gCons (gName 2) (gCons (gName 3) gNil))) (tSeq (tAsg (tCallS (sp_row_in_log K) (WE (WD E)) (tCons (tVar 3) tNil)) (gName 4))
 (tSeq (tIfS (tTest (tOp oIsN (tVar 4) (tC .non))) (tRzO (He.ga K "BadLog") (sp_BadLog___init__ K) (tCons (tC (.str "no row of a log")) (tCons (tOp oAdd (tVar 2) (tC (.int 1))) tNil)) (WD E)) tNext)
 (tDrop (tBM K "list" rAppend (tVar 1) (tCons (tVar 4) tNil))))))
 (tRet (tVar 1))))
abbrev N_read_log : List Str := ["text", "log", "place", "line", "row"]
def sp_read_log (K : PySem.W.Frag) : Sp := fun vs H Q E => vs.length = 1 ∧ t_read_log K E { nx := fun _ H' => Q .non H', rt := Q } (start N_read_log vs) H
theorem i_read_log {K : PySem.W.Frag} {a0 : V} {H : Hp} {Q : VK} {E : XK} (h : t_read_log K E { nx := fun _ H' => Q .non H', rt := Q } [some a0, none, none, none, none] H) : sp_read_log K [a0] H Q E := ⟨rfl, h⟩
def t_HeapError_called (K : PySem.W.Frag) (E : XK) : TS :=
 (tRet (tC (.str "HeapError")))
abbrev N_HeapError_called : List Str := ["self"]
def sp_HeapError_called (K : PySem.W.Frag) : Sp := fun vs H Q E => vs.length = 1 ∧ t_HeapError_called K E { nx := fun _ H' => Q .non H', rt := Q } (start N_HeapError_called vs) H
theorem i_HeapError_called {K : PySem.W.Frag} {a0 : V} {H : Hp} {Q : VK} {E : XK} (h : t_HeapError_called K E { nx := fun _ H' => Q .non H', rt := Q } [some a0] H) : sp_HeapError_called K [a0] H Q E := ⟨rfl, h⟩
def t_BadView_called (K : PySem.W.Frag) (E : XK) : TS :=
 (tRet (tC (.str "BadView")))
abbrev N_BadView_called : List Str := ["self"]
def sp_BadView_called (K : PySem.W.Frag) : Sp := fun vs H Q E => vs.length = 1 ∧ t_BadView_called K E { nx := fun _ H' => Q .non H', rt := Q } (start N_BadView_called vs) H
theorem i_BadView_called {K : PySem.W.Frag} {a0 : V} {H : Hp} {Q : VK} {E : XK} (h : t_BadView_called K E { nx := fun _ H' => Q .non H', rt := Q } [some a0] H) : sp_BadView_called K [a0] H Q E := ⟨rfl, h⟩
def t_BadText_called (K : PySem.W.Frag) (E : XK) : TS :=
 (tRet (tC (.str "BadText")))
abbrev N_BadText_called : List Str := ["self"]
def sp_BadText_called (K : PySem.W.Frag) : Sp := fun vs H Q E => vs.length = 1 ∧ t_BadText_called K E { nx := fun _ H' => Q .non H', rt := Q } (start N_BadText_called vs) H
theorem i_BadText_called {K : PySem.W.Frag} {a0 : V} {H : Hp} {Q : VK} {E : XK} (h : t_BadText_called K E { nx := fun _ H' => Q .non H', rt := Q } [some a0] H) : sp_BadText_called K [a0] H Q E := ⟨rfl, h⟩
def t_BadLog_called (K : PySem.W.Frag) (E : XK) : TS :=
 (tRet (tC (.str "BadLog")))
abbrev N_BadLog_called : List Str := ["self"]
def sp_BadLog_called (K : PySem.W.Frag) : Sp := fun vs H Q E => vs.length = 1 ∧ t_BadLog_called K E { nx := fun _ H' => Q .non H', rt := Q } (start N_BadLog_called vs) H
theorem i_BadLog_called {K : PySem.W.Frag} {a0 : V} {H : Hp} {Q : VK} {E : XK} (h : t_BadLog_called K E { nx := fun _ H' => Q .non H', rt := Q } [some a0] H) : sp_BadLog_called K [a0] H Q E := ⟨rfl, h⟩
def t_BadAddress_called (K : PySem.W.Frag) (E : XK) : TS :=
 (tRet (tC (.str "BadAddress")))
abbrev N_BadAddress_called : List Str := ["self"]
def sp_BadAddress_called (K : PySem.W.Frag) : Sp := fun vs H Q E => vs.length = 1 ∧ t_BadAddress_called K E { nx := fun _ H' => Q .non H', rt := Q } (start N_BadAddress_called vs) H
theorem i_BadAddress_called {K : PySem.W.Frag} {a0 : V} {H : Hp} {Q : VK} {E : XK} (h : t_BadAddress_called K E { nx := fun _ H' => Q .non H', rt := Q } [some a0] H) : sp_BadAddress_called K [a0] H Q E := ⟨rfl, h⟩
def t__law_row_of (K : PySem.W.Frag) (E : XK) : TS :=
 (tSeq (tAsg (tC .non) (gName 1))
 (tSeq (tTryT K (.ref (He.ga K "HeapError")) 2 (fun W => (tDrop (tCallS (sp_read_log K) (WE W) (tCons (tVar 0) tNil)))) (tAsg (tVar 2) (gName 1)) (WD E))
 (tSeq (tIfS (tTest (tOp oIsN (tVar 1) (tC .non))) (tRet (tC (.int 0))) tNext)
 (tSeq (tIfS (tOr (tNot (tB (tCB (rIsiF K) (tCons (tVar 1) (tCons (tC (.ref (He.ga K "BadLog"))) tNil))))) (tOr (tNot (tB (tCB (rIsiF K) (tCons (tVar 1) (tCons (tC (.ty "ValueError")) tNil))))) (tTest (tOp rNe (tXmU [⟨He.ga K "BadAddress", He.ma K (He.ga K "BadAddress") "called", sp_BadAddress_called K⟩, ⟨He.ga K "BadLog", He.ma K (He.ga K "BadLog") "called", sp_BadLog_called K⟩, ⟨He.ga K "BadText", He.ma K (He.ga K "BadText") "called", sp_BadText_called K⟩, ⟨He.ga K "BadView", He.ma K (He.ga K "BadView") "called", sp_BadView_called K⟩, ⟨He.ga K "HeapError", He.ma K (He.ga K "HeapError") "called", sp_HeapError_called K⟩] "called" (WD E) (tVar 1)) (tC (.str "BadLog")))))) (tRet (tC .non)) tNext)
 (tSeq (tIfS (tOr (tB (tCB (rIsiTF K) (tCons (tVar 1) (tCons (tTup (tCons (tC (.ref (He.ga K "BadAddress"))) (tCons (tC (.ref (He.ga K "BadText"))) (tCons (tC (.ref (He.ga K "BadView"))) tNil)))) tNil)))) (tB (tCB (rIsiF K) (tCons (tXfd [He.ga K "BadLog"] "row" (tVar 1)) (tCons (tC (.ty "bool")) tNil))))) (tRet (tC .non)) tNext)
 (tRet (tXfd [He.ga K "BadLog"] "row" (tVar 1))))))))
abbrev N__law_row_of : List Str := ["text", "caught", "e"]
def sp__law_row_of (K : PySem.W.Frag) : Sp := fun vs H Q E => vs.length = 1 ∧ t__law_row_of K E { nx := fun _ H' => Q .non H', rt := Q } (start N__law_row_of vs) H
theorem i__law_row_of {K : PySem.W.Frag} {a0 : V} {H : Hp} {Q : VK} {E : XK} (h : t__law_row_of K E { nx := fun _ H' => Q .non H', rt := Q } [some a0, none, none] H) : sp__law_row_of K [a0] H Q E := ⟨rfl, h⟩
def t__law_spoilt (K : PySem.W.Frag) (E : XK) : TS :=
 (tSeq (tAsg (tM1 cSplit (tVar 0) (tC (.str " "))) (gName 2))
 (tSeq (tAsg (tOp oFdv (tVar 1) (tC (.int 9))) (gName 3))
 (tSeq (tAsg (tLst (tCons (tC (.str "")) (tCons (tC (.str "00")) (tCons (tC (.str "01")) (tCons (tC (.str "-0")) (tCons (tC (.str "+1")) (tCons (tC (.str "1_0")) (tCons (tC (.str "1.0")) (tCons (tC (.str "x")) (tCons (tC (.str "1x")) (tCons (tC (.str "--1")) (tCons (tC (.str "-")) (tCons (tC (.str "True")) (tCons (tC (.str "None")) (tCons (tC (.str "(1,)")) (tCons (tC (.str "1,")) (tCons (tC (.str "0x1")) (tCons (tC (.str "~")) tNil)))))))))))))))))) (gName 4))
 (tSeq (tAsg (tOp (rCatS K) (tVar 4) (tLst (tCons (tC (.str "1e3")) (tCons (tC (.str "-01")) (tCons (tC (.str "young0")) (tCons (tOp oRepS (tC (.str "9")) (tOp oAdd (tC (.int 62)) (tOp oMod (tVar 3) (tC (.int 9))))) (tCons (tOp oAddStr (tC (.str "-")) (tOp oRepS (tC (.str "9")) (tC (.int 62)))) tNil))))))) (gName 4))
 (tSeq (tAsg (tOp oMod (tVar 3) (tCB (cLenSeq K) (tCons (tVar 2) tNil))) (gName 5))
 (tSeq (tIfS (tTest (tOp rEq (tOp oMod (tVar 1) (tC (.int 9))) (tC (.int 0)))) (tRet (tM1 (cJoin K) (tC (.str " ")) (tOp (rCatS K) (tLst (tCons (tC (.str "shades")) tNil)) (tSl (rSlL K) (tVar 2) (tPart (tC (.int 1))) tNoPart)))) tNext)
 (tSeq (tIfS (tTest (tOp rEq (tOp oMod (tVar 1) (tC (.int 9))) (tC (.int 1)))) (tRet (tOp oAddStr (tVar 0) (tC (.str " 3")))) tNext)
 (tSeq (tIfS (tAnd (tTest (tOp rEq (tOp oMod (tVar 1) (tC (.int 9))) (tC (.int 2)))) (tTest (tOp oGt (tCB (cLenSeq K) (tCons (tVar 2) tNil)) (tC (.int 1))))) (tRet (tM1 (cJoin K) (tC (.str " ")) (tSl (rSlL K) (tVar 2) tNoPart (tPart (tUn oNeg (tC (.int 1))))))) tNext)
 (tSeq (tIfRep (tOp oMod (tVar 1) (tC (.int 9))) 3 0 " " "  " (tOp (rIxL K) (tLst (tCons (tC (.str "")) (tCons (tC (.str " ")) tNil))) (tCB cInt1 (tCons (tOp rEq (tCB (cLenSeq K) (tCons (tVar 2) tNil)) (tC (.int 1))) tNil))))
 (tSeq (tIfS (tTest (tOp rEq (tOp oMod (tVar 1) (tC (.int 9))) (tC (.int 4)))) (tRet (tOp (rIxL K) (tLst (tCons (tOp oAddStr (tC (.str " ")) (tVar 0)) (tCons (tOp oAddStr (tVar 0) (tC (.str " "))) tNil))) (tOp oMod (tVar 3) (tC (.int 2))))) tNext)
 (tSeq (tIfS (tTest (tOp rEq (tOp oMod (tVar 1) (tC (.int 9))) (tC (.int 5)))) (tRet (tOp oAddStr (tM1 (cJoin K) (tC (.str " ")) (tOp (rCatS K) (tOp (rCatS K) (tSl (rSlL K) (tVar 2) tNoPart (tPart (tC (.int 1)))) (tLst (tCons (tC (.str "young")) tNil))) (tSl (rSlL K) (tVar 2) (tPart (tC (.int 2))) tNoPart))) (tOp (rIxL K) (tLst (tCons (tC (.str "")) (tCons (tC (.str " 1")) tNil))) (tCB cInt1 (tCons (tOp oLt (tCB (cLenSeq K) (tCons (tVar 2) tNil)) (tC (.int 2))) tNil))))) tNext)
 (tSeq (tIfS (tTest (tOp rEq (tOp oMod (tVar 1) (tC (.int 9))) (tC (.int 6)))) (tRet (tM0 cUpper (tVar 0))) tNext)
 (tSeq (tIfS (tTest (tOp rEq (tVar 5) (tC (.int 0)))) (tRet (tOp oAddStr (tOp oAddStr (tOp (rIxL K) (tVar 4) (tOp oMod (tOp oFdv (tVar 3) (tC (.int 7))) (tCB (cLenSeq K) (tCons (tVar 4) tNil)))) (tC (.str "x"))) (tVar 0))) tNext)
 (tRet (tM1 (cJoin K) (tC (.str " ")) (tOp (rCatS K) (tOp (rCatS K) (tSl (rSlL K) (tVar 2) tNoPart (tPart (tVar 5))) (tLst (tCons (tOp (rIxL K) (tVar 4) (tOp oMod (tOp oFdv (tVar 3) (tC (.int 7))) (tCB (cLenSeq K) (tCons (tVar 4) tNil)))) tNil))) (tSl (rSlL K) (tVar 2) (tPart (tOp oAdd (tVar 5) (tC (.int 1)))) tNoPart)))))))))))))))))
abbrev N__law_spoilt : List Str := ["line", "cell", "words", "rest", "odd", "at"]
def sp__law_spoilt (K : PySem.W.Frag) : Sp := fun vs H Q E => vs.length = 2 ∧ t__law_spoilt K E { nx := fun _ H' => Q .non H', rt := Q } (start N__law_spoilt vs) H
theorem i__law_spoilt {K : PySem.W.Frag} {a0 a1 : V} {H : Hp} {Q : VK} {E : XK} (h : t__law_spoilt K E { nx := fun _ H' => Q .non H', rt := Q } [some a0, some a1, none, none, none, none] H) : sp__law_spoilt K [a0, a1] H Q E := ⟨rfl, h⟩
def t_law (K : PySem.W.Frag) (E : XK) : TS :=
 (tSeq (tAsg (tCallS (sp__law_lines K) (WE (WD E)) (tCons (tVar 0) tNil)) (gName 1))
 (tSeq (tIfS (tOr (tTest (tOp rNe (tCallS (sp__law_row_of K) (WE (WD E)) (tCons (tM1 (cJoin K) (tC (.str "\n")) (tVar 1)) tNil)) (tC (.int 0)))) (tTest (tOp rNe (tCallS (sp__law_row_of K) (WE (WD E)) (tCons (tC (.str "")) tNil)) (tC (.int 1))))) (tRet (tC (.bl false))) tNext)
 (tSeq (tFor (iList K (tOp (rCatS K) (tLst (tCons (tC (.int 0)) tNil)) (tSl (rSlL K) (tVar 0) tNoPart (tPart (tC (.int 20)))))) (gName 2) (tSeq (tAsg (tOp oMod (tOp oFdv (tVar 2) (tC (.int 300))) (tCB (cLenSeq K) (tCons (tVar 1) tNil))) (gName 3))
 (tSeq (tAsg (tOp (rCatS K) (tOp (rCatS K) (tSl (rSlL K) (tVar 1) tNoPart (tPart (tVar 3))) (tLst (tCons (tCallS (sp__law_spoilt K) (WE (WD E)) (tCons (tOp (rIxL K) (tVar 1) (tVar 3)) (tCons (tVar 2) tNil))) tNil))) (tSl (rSlL K) (tVar 1) (tPart (tOp oAdd (tVar 3) (tC (.int 1)))) tNoPart)) (gName 4))
 (tSeq (tIfS (tOr (tTest (tOp rNe (tCallS (sp__law_row_of K) (WE (WD E)) (tCons (tM1 (cJoin K) (tC (.str "\n")) (tVar 4)) tNil)) (tOp oAdd (tVar 3) (tC (.int 1))))) (tTest (tOp rNe (tCallS (sp__law_row_of K) (WE (WD E)) (tCons (tM1 (cJoin K) (tC (.str "\n")) (tOp (rCatS K) (tVar 4) (tLst (tCons (tC (.str "no")) tNil)))) tNil)) (tOp oAdd (tVar 3) (tC (.int 1)))))) (tRet (tC (.bl false))) tNext)
 (tIfS (tTest (tOp rNe (tCallS (sp__law_row_of K) (WE (WD E)) (tCons (tM1 (cJoin K) (tC (.str "\n")) (tOp (rCatS K) (tOp (rCatS K) (tSl (rSlL K) (tVar 1) tNoPart (tPart (tVar 3))) (tLst (tCons (tC (.str "")) tNil))) (tSl (rSlL K) (tVar 1) (tPart (tVar 3)) tNoPart))) tNil)) (tOp oAdd (tVar 3) (tC (.int 1))))) (tRet (tC (.bl false))) tNext)))))
 (tRet (tOp rEq (tCallS (sp__law_row_of K) (WE (WD E)) (tCons (tOp oAddStr (tM1 (cJoin K) (tC (.str "\n")) (tVar 1)) (tC (.str "\n"))) tNil)) (tOp oAdd (tCB (cLenSeq K) (tCons (tVar 1) tNil)) (tC (.int 1))))))))
abbrev N_law : List Str := ["script", "lines", "cell", "at", "bad"]
def sp_law (K : PySem.W.Frag) : Sp := fun vs H Q E => vs.length = 1 ∧ t_law K E { nx := fun _ H' => Q .non H', rt := Q } (start N_law vs) H
theorem i_law {K : PySem.W.Frag} {a0 : V} {H : Hp} {Q : VK} {E : XK} (h : t_law K E { nx := fun _ H' => Q .non H', rt := Q } [some a0, none, none, none, none] H) : sp_law K [a0] H Q E := ⟨rfl, h⟩
/-- what the pure part leans on -/
structure PF (K : PySem.W.Frag) : Prop where
  kd_PARTS_OF_ROWS : kdB K (He.ga K "PARTS_OF_ROWS") [("load", 3), ("store", 3), ("copy", 2), ("drop", 1), ("number", 2), ("name", 2), ("read", 2), ("word", 2), ("make", 4), ("small", 0), ("begin", 0), ("shade", 1), ("look", 2), ("move", 2), ("end", 0)] = true
  oex_BadLog : OexC K (He.ga K "BadLog")
  noat_BadLog_row : PySem.W.findIn K (.ref (He.ga K "BadLog")) "row" = some none
  exm_HeapError_HeapError : PySem.W.exmOne K (.ref (He.ga K "HeapError")) (.ref (He.ga K "HeapError")) = some true
  exm_BadAddress_HeapError : PySem.W.exmOne K (.ref (He.ga K "BadAddress")) (.ref (He.ga K "HeapError")) = some true
  exm_BadLog_HeapError : PySem.W.exmOne K (.ref (He.ga K "BadLog")) (.ref (He.ga K "HeapError")) = some true
  exm_BadText_HeapError : PySem.W.exmOne K (.ref (He.ga K "BadText")) (.ref (He.ga K "HeapError")) = some true
  exm_BadView_HeapError : PySem.W.exmOne K (.ref (He.ga K "BadView")) (.ref (He.ga K "HeapError")) = some true
  excC_HeapError : ExcC K (He.ga K "HeapError")
  excC_BadView : ExcC K (He.ga K "BadView")
  excC_BadText : ExcC K (He.ga K "BadText")
  excC_BadLog : ExcC K (He.ga K "BadLog")
  excC_BadAddress : ExcC K (He.ga K "BadAddress")
  kit_BadLog_BadLog : PySem.W.kitOne K (.ref (He.ga K "BadLog")) (.ref (He.ga K "BadLog")) = some true
  kit_BadLog_ValueError : PySem.W.kitOne K (.ref (He.ga K "BadLog")) (.type "ValueError") = some true
  kit_BadLog_BadAddress : PySem.W.kitOne K (.ref (He.ga K "BadLog")) (.ref (He.ga K "BadAddress")) = some false
  kit_BadLog_BadText : PySem.W.kitOne K (.ref (He.ga K "BadLog")) (.ref (He.ga K "BadText")) = some false
  kit_BadLog_BadView : PySem.W.kitOne K (.ref (He.ga K "BadLog")) (.ref (He.ga K "BadView")) = some false
end R_k75

set_option Elab.async false
set_option linter.all false
set_option maxRecDepth 100000
set_option maxHeartbeats 0
namespace D_k75
open PySem PySem.Spec PyProof.Rows L2 SX0 R_k75
def top (i : Nat) : Stmt := PySem.Challenge.pw_stillheap_k75_no_logs_texts.main.body.getD i (.Pass ⟨0, 0, 0, 0⟩)
abbrev s__law_lines : Stmt := top 15
theorem sc__law_lines : FnScope N__law_lines ["script"] (defScope s__law_lines) := ⟨rfl, rfl, rfl, by decide +kernel, rfl, by decide +kernel, by decide +kernel⟩
abbrev s_number_in_log : Stmt := top 10
theorem sc_number_in_log : FnScope N_number_in_log ["word"] (defScope s_number_in_log) := ⟨rfl, rfl, rfl, by decide +kernel, rfl, by decide +kernel, by decide +kernel⟩
abbrev s_room_in_log : Stmt := top 11
theorem sc_room_in_log : FnScope N_room_in_log ["words"] (defScope s_room_in_log) := ⟨rfl, rfl, rfl, by decide +kernel, rfl, by decide +kernel, by decide +kernel⟩
abbrev s_row_in_log : Stmt := top 12
theorem sc_row_in_log : FnScope N_row_in_log ["text"] (defScope s_row_in_log) := ⟨rfl, rfl, rfl, by decide +kernel, rfl, by decide +kernel, by decide +kernel⟩
abbrev s_BadLog___init__ : Stmt := inClass (top 3) 0
theorem sc_BadLog___init__ : FnScope N_BadLog___init__ ["self", "words", "row"] (defScope s_BadLog___init__) := ⟨rfl, rfl, rfl, by decide +kernel, rfl, by decide +kernel, by decide +kernel⟩
abbrev s_read_log : Stmt := top 13
theorem sc_read_log : FnScope N_read_log ["text"] (defScope s_read_log) := ⟨rfl, rfl, rfl, by decide +kernel, rfl, by decide +kernel, by decide +kernel⟩
abbrev s_HeapError_called : Stmt := inClass (top 1) 0
theorem sc_HeapError_called : FnScope N_HeapError_called ["self"] (defScope s_HeapError_called) := ⟨rfl, rfl, rfl, by decide +kernel, rfl, by decide +kernel, by decide +kernel⟩
abbrev s_BadView_called : Stmt := inClass (top 5) 0
theorem sc_BadView_called : FnScope N_BadView_called ["self"] (defScope s_BadView_called) := ⟨rfl, rfl, rfl, by decide +kernel, rfl, by decide +kernel, by decide +kernel⟩
abbrev s_BadText_called : Stmt := inClass (top 4) 1
theorem sc_BadText_called : FnScope N_BadText_called ["self"] (defScope s_BadText_called) := ⟨rfl, rfl, rfl, by decide +kernel, rfl, by decide +kernel, by decide +kernel⟩
abbrev s_BadLog_called : Stmt := inClass (top 3) 1
theorem sc_BadLog_called : FnScope N_BadLog_called ["self"] (defScope s_BadLog_called) := ⟨rfl, rfl, rfl, by decide +kernel, rfl, by decide +kernel, by decide +kernel⟩
abbrev s_BadAddress_called : Stmt := inClass (top 2) 0
theorem sc_BadAddress_called : FnScope N_BadAddress_called ["self"] (defScope s_BadAddress_called) := ⟨rfl, rfl, rfl, by decide +kernel, rfl, by decide +kernel, by decide +kernel⟩
abbrev s__law_row_of : Stmt := top 17
theorem sc__law_row_of : FnScope N__law_row_of ["text"] (defScope s__law_row_of) := ⟨rfl, rfl, rfl, by decide +kernel, rfl, by decide +kernel, by decide +kernel⟩
abbrev s__law_spoilt : Stmt := top 16
theorem sc__law_spoilt : FnScope N__law_spoilt ["line", "cell"] (defScope s__law_spoilt) := ⟨rfl, rfl, rfl, by decide +kernel, rfl, by decide +kernel, by decide +kernel⟩
abbrev s_law : Stmt := top 18
theorem sc_law : FnScope N_law ["script"] (defScope s_law) := ⟨rfl, rfl, rfl, by decide +kernel, rfl, by decide +kernel, by decide +kernel⟩
def d__law_lines : He.DefD := ⟨("_law_lines", none), "_law_lines", "_law_lines", defArgs s__law_lines, defBody s__law_lines, defScope s__law_lines, [], []⟩
def d_number_in_log : He.DefD := ⟨("number_in_log", none), "number_in_log", "number_in_log", defArgs s_number_in_log, defBody s_number_in_log, defScope s_number_in_log, [], []⟩
def d_room_in_log : He.DefD := ⟨("room_in_log", none), "room_in_log", "room_in_log", defArgs s_room_in_log, defBody s_room_in_log, defScope s_room_in_log, [], []⟩
def d_row_in_log : He.DefD := ⟨("row_in_log", none), "row_in_log", "row_in_log", defArgs s_row_in_log, defBody s_row_in_log, defScope s_row_in_log, [], []⟩
def d_BadLog___init__ : He.DefD := ⟨("BadLog", some "__init__"), "__init__", "BadLog.__init__", defArgs s_BadLog___init__, defBody s_BadLog___init__, defScope s_BadLog___init__, [], []⟩
def d_read_log : He.DefD := ⟨("read_log", none), "read_log", "read_log", defArgs s_read_log, defBody s_read_log, defScope s_read_log, [], []⟩
def d_HeapError_called : He.DefD := ⟨("HeapError", some "called"), "called", "HeapError.called", defArgs s_HeapError_called, defBody s_HeapError_called, defScope s_HeapError_called, [], []⟩
def d_BadView_called : He.DefD := ⟨("BadView", some "called"), "called", "BadView.called", defArgs s_BadView_called, defBody s_BadView_called, defScope s_BadView_called, [], []⟩
def d_BadText_called : He.DefD := ⟨("BadText", some "called"), "called", "BadText.called", defArgs s_BadText_called, defBody s_BadText_called, defScope s_BadText_called, [], []⟩
def d_BadLog_called : He.DefD := ⟨("BadLog", some "called"), "called", "BadLog.called", defArgs s_BadLog_called, defBody s_BadLog_called, defScope s_BadLog_called, [], []⟩
def d_BadAddress_called : He.DefD := ⟨("BadAddress", some "called"), "called", "BadAddress.called", defArgs s_BadAddress_called, defBody s_BadAddress_called, defScope s_BadAddress_called, [], []⟩
def d__law_row_of : He.DefD := ⟨("_law_row_of", none), "_law_row_of", "_law_row_of", defArgs s__law_row_of, defBody s__law_row_of, defScope s__law_row_of, [], []⟩
def d__law_spoilt : He.DefD := ⟨("_law_spoilt", none), "_law_spoilt", "_law_spoilt", defArgs s__law_spoilt, defBody s__law_spoilt, defScope s__law_spoilt, [], []⟩
def d_law : He.DefD := ⟨("law", none), "law", "law", defArgs s_law, defBody s_law, defScope s_law, [], []⟩
def fn : List He.DefD := [d__law_lines, d_number_in_log, d_room_in_log, d_row_in_log, d_BadLog___init__, d_read_log, d_HeapError_called, d_BadView_called, d_BadText_called, d_BadLog_called, d_BadAddress_called, d__law_row_of, d__law_spoilt, d_law]
def fa : List He.Fa := [.glo "_law_lines", .free "enumerate", .free "len", .int "MOST_FIGURES_OF_LOGS" 61, .str "FIGURES_OF_LOGS" "0123456789", .free "int", .glo "number_in_log", .glo "room_in_log", .glo "PARTS_OF_ROWS", .free "tuple", .glo "row_in_log", .glo "HeapError", .noat "BadLog" "row", .meth "BadLog" "__init__", .glo "BadLog", .glo "read_log", .exm "HeapError" "HeapError" true, .exm "BadAddress" "HeapError" true, .exm "BadLog" "HeapError" true, .exm "BadText" "HeapError" true, .exm "BadView" "HeapError" true, .free "isinstance", .free "ValueError", .meth "HeapError" "called", .meth "BadView" "called", .meth "BadText" "called", .meth "BadLog" "called", .meth "BadAddress" "called", .glo "BadAddress", .glo "BadText", .glo "BadView", .free "bool", .glo "_law_row_of", .glo "_law_spoilt", .glo "law"]
def tabs : List He.Tab := [(fun K => He.ga K "PARTS_OF_ROWS", ["load", "store", "copy", "drop", "number", "name", "read", "word", "make", "small", "begin", "shade", "look", "move", "end"])]
def exl (K : PySem.W.Frag) : List Bool := [kdB K (He.ga K "PARTS_OF_ROWS") [("load", 3), ("store", 3), ("copy", 2), ("drop", 1), ("number", 2), ("name", 2), ("read", 2), ("word", 2), ("make", 4), ("small", 0), ("begin", 0), ("shade", 1), ("look", 2), ("move", 2), ("end", 0)], baseInitB K (He.ga K "HeapError"), oexB K (He.ga K "BadLog"), excCB K (He.ga K "HeapError"), excCB K (He.ga K "BadView"), excCB K (He.ga K "BadText"), excCB K (He.ga K "BadLog"), excCB K (He.ga K "BadAddress"), kitB K (.ref (He.ga K "BadLog")) (.ref (He.ga K "BadLog")) true, kitB K (.ref (He.ga K "BadLog")) (.type "ValueError") true, kitB K (.ref (He.ga K "BadLog")) (.ref (He.ga K "BadAddress")) false, kitB K (.ref (He.ga K "BadLog")) (.ref (He.ga K "BadText")) false, kitB K (.ref (He.ga K "BadLog")) (.ref (He.ga K "BadView")) false]
def ex (K : PySem.W.Frag) : Bool := (exl K).all id
structure Tx (P : Program) (w : World) (K : PySem.W.Frag) (mg : Str → Option Value) (base : Heap) : Prop where
  X : K.In base
  G : base.Ns mainGlobals mg
  c : SaysY fa fn tabs ex w K
theorem Tx.t {P : Program} {w : World} {K : PySem.W.Frag} {mg : Str → Option Value} {base : Heap} (T : Tx P w K mg base) : He.SaysT fa fn tabs w K := T.c.t
theorem Tx.exf {P : Program} {w : World} {K : PySem.W.Frag} {mg : Str → Option Value} {base : Heap} (T : Tx P w K mg base) (i : Nat) {b : Bool} (h : (exl K)[i]? = some b) : b = true := by
  exact List.all_eq_true.mp T.c.more b (List.mem_of_getElem? h)
section
variable {P : Program} {w : World} {K : PySem.W.Frag} {mg : Str → Option Value} {base : Heap}
theorem ok__law_lines (T : Tx P w K mg base) {f : Addr} {fd : FuncData} (F : FunD K "_law_lines" "_law_lines" (defArgs s__law_lines) (defBody s__law_lines) (defScope s__law_lines) [] [] f fd) : GoodF P w K mg base 1 f fd ["script"] (sp__law_lines K) := by
  refine ⟨F.ok sc__law_lines (fun vs H Q E h => h.1) (fun cdv A outer s H vs Q E hr h => ⟨t__law_lines K E, ?_, h.2⟩), FunD.bindsN F fun _ _ _ _ _ _ us hl => match us, hl with | [_], _ => rfl, F.kp⟩
  have hu := hu_of hr
  unfold t__law_lines
  exact (pss_cons (ps_set (i := 1) sc__law_lines.nd rfl (Or.inl rfl) (pe_lst (pa_cons pe_str (pa_cons pe_str (pa_cons pe_str (pa_cons pe_str (pa_cons pe_str (pa_cons pe_str (pa_cons pe_str (pa_cons pe_str pa_nil))))))))))
 (pss_cons (ps_set (i := 1) sc__law_lines.nd rfl (Or.inl rfl) (pe_op op_catS (pv 1) (pe_lst (pa_cons pe_str (pa_cons pe_str (pa_cons pe_str (pa_cons pe_str (pa_cons pe_str (pa_cons pe_str (pa_cons pe_str (pa_cons pe_str pa_nil)))))))))))
 (pss_cons (ps_set (i := 1) sc__law_lines.nd rfl (Or.inl rfl) (pe_op op_catS (pv 1) (pe_lst (pa_cons (pe_op op_add_str pe_str (pe_op op_repS pe_str pe_int)) (pa_cons (pe_op op_add_str pe_str (pe_op op_repS pe_str pe_int)) pa_nil)))))
 (pss_cons (ps_set (i := 2) sc__law_lines.nd rfl (Or.inl rfl) (pe_lst (pa_cons pe_str pa_nil)))
 (pss_cons (ps_for (passes_of rfl) rfl (pi_list (pe_slice sl_list (pv 0) po_none (po_some pe_int))) (pg_name (i := 3) sc__law_lines.nd rfl (Or.inl rfl)) (pss_one (ps_expr (pe_bm PySem.F.plainAttrs_list PySem.F.slot_list_append PySem.F.type_list_append mt_append (pv 2) (pa_cons (pe_ix ix_list (pv 1) (pe_op op_mod (pv 3) pe_int) (fun _ _ => rfl)) pa_nil)))))
 (pss_one (ps_ret (pv 2))))))))
theorem gd__law_lines (T : Tx P w K mg base) : Good P w K mg base 1 (He.fAd K (d__law_lines).at_) ["script"] (sp__law_lines K) := by
  obtain ⟨fd, F⟩ := T.t.d.def_ 0 (d := d__law_lines) rfl
  exact ⟨fd, ok__law_lines T F⟩
theorem ok_number_in_log (T : Tx P w K mg base) {f : Addr} {fd : FuncData} (F : FunD K "number_in_log" "number_in_log" (defArgs s_number_in_log) (defBody s_number_in_log) (defScope s_number_in_log) [] [] f fd) : GoodF P w K mg base 1 f fd ["word"] (sp_number_in_log K) := by
  refine ⟨F.ok sc_number_in_log (fun vs H Q E h => h.1) (fun cdv A outer s H vs Q E hr h => ⟨t_number_in_log K E, ?_, h.2⟩), FunD.bindsN F fun _ _ _ _ _ _ us hl => match us, hl with | [_], _ => rfl, F.kp⟩
  have hu := hu_of hr
  unfold t_number_in_log
  exact (pss_cons (ps_set (i := 1) sc_number_in_log.nd rfl (Or.inl rfl) (pv 0))
 (pss_cons (ps_if (pt_cmpR op_eq (pe_slice sl_str (pv 0) po_none (po_some pe_int)) pe_str (nomark _)) (pss_one (ps_set (i := 1) sc_number_in_log.nd rfl (Or.inl rfl) (pe_slice sl_str (pv 0) (po_some pe_int) po_none))) pss_nil)
 (pss_cons (ps_if (PW.pt (pw_or (pt_cmpR op_eq (pv 1) pe_str (nomark _)) (pw_or (pt_cmpR op_gt (pe_callB call_len_str (by rfl) (He.free_ok T.X T.G (T.t.d.fact 2 (f := .free "len") rfl)) (by decide +kernel) (pa_cons (pv 1) pa_nil)) (pe_globI rfl (He.int_ok T.X T.G (T.t.d.fact 3 (f := .int "MOST_FIGURES_OF_LOGS" 61) rfl))) (nomark _)) (pw_or1 (PW.pt (pw_and (pt_cmpR op_eq (pe_ix ix_str (pv 1) pe_int (fun _ _ => rfl)) pe_str (nomark _)) (pw_and1 (pt_cmpR op_ne (pv 0) pe_str (nomark _))))))))) (pss_one (ps_ret pe_non)) pss_nil)
 (pss_cons (ps_for (passes_of rfl) rfl (pi_str (pv 1)) (pg_name (i := 2) sc_number_in_log.nd rfl (Or.inl rfl)) (pss_one (ps_if (pt_cmpR op_notIn_sign (pv 2) (pe_globS rfl (He.str_ok T.X T.G (T.t.d.fact 4 (f := .str "FIGURES_OF_LOGS" "0123456789") rfl))) (by first | exact nomark _ | with_unfolding_all rfl)) (pss_one (ps_ret pe_non)) pss_nil)))
 (pss_one (ps_ret (pe_callTy call_int_str (by rfl) (He.free_ok T.X T.G (T.t.d.fact 5 (f := .free "int") rfl)) (by decide +kernel) (pa_cons (pv 0) pa_nil))))))))
theorem gd_number_in_log (T : Tx P w K mg base) : Good P w K mg base 1 (He.fAd K (d_number_in_log).at_) ["word"] (sp_number_in_log K) := by
  obtain ⟨fd, F⟩ := T.t.d.def_ 1 (d := d_number_in_log) rfl
  exact ⟨fd, ok_number_in_log T F⟩
theorem ok_room_in_log (T : Tx P w K mg base) {f : Addr} {fd : FuncData} (F : FunD K "room_in_log" "room_in_log" (defArgs s_room_in_log) (defBody s_room_in_log) (defScope s_room_in_log) [] [] f fd) : GoodF P w K mg base 2 f fd ["words"] (sp_room_in_log K) := by
  refine ⟨F.ok sc_room_in_log (fun vs H Q E h => h.1) (fun cdv A outer s H vs Q E hr h => ⟨t_room_in_log K E, ?_, h.2⟩), FunD.bindsN F fun _ _ _ _ _ _ us hl => match us, hl with | [_], _ => rfl, F.kp⟩
  have hu := hu_of hr
  unfold t_room_in_log
  exact (pss_cons (ps_if (PW.pt (pw_or (pt_cmpR op_ne (pe_callB call_len_seq (by rfl) (He.free_ok T.X T.G (T.t.d.fact 2 (f := .free "len") rfl)) (by decide +kernel) (pa_cons (pv 0) pa_nil)) pe_int (nomark _)) (pw_or (pt_cmpR op_notIn_seq (pe_ix ix_list (pv 0) pe_int (fun _ _ => rfl)) (pe_tup (pa_cons pe_str (pa_cons pe_str pa_nil))) (by first | exact nomark _ | with_unfolding_all rfl)) (pw_or1 (pt_cmpR op_isN (pe_cU (gd_number_in_log T) (hr.mono (by decide)) (takes_of rfl rfl rfl rfl) rfl (He.glo_ok T.X T.G (T.t.d.fact 6 (f := .glo "number_in_log") rfl)) (pa_cons (pe_ix ix_list (pv 0) pe_int (fun _ _ => rfl)) pa_nil)) pe_non (nomark _)))))) (pss_one (ps_ret pe_non)) pss_nil)
 (pss_one (ps_ret (pe_tup (pa_cons pe_str (pa_cons (pe_cU (gd_number_in_log T) (hr.mono (by decide)) (takes_of rfl rfl rfl rfl) rfl (He.glo_ok T.X T.G (T.t.d.fact 6 (f := .glo "number_in_log") rfl)) (pa_cons (pe_ix ix_list (pv 0) pe_int (fun _ _ => rfl)) pa_nil)) (pa_cons (pe_cmpR op_eq (pe_ix ix_list (pv 0) pe_int (fun _ _ => rfl)) pe_str (nomark _)) pa_nil)))))))
theorem gd_room_in_log (T : Tx P w K mg base) : Good P w K mg base 2 (He.fAd K (d_room_in_log).at_) ["words"] (sp_room_in_log K) := by
  obtain ⟨fd, F⟩ := T.t.d.def_ 2 (d := d_room_in_log) rfl
  exact ⟨fd, ok_room_in_log T F⟩
theorem ok_row_in_log (T : Tx P w K mg base) {f : Addr} {fd : FuncData} (F : FunD K "row_in_log" "row_in_log" (defArgs s_row_in_log) (defBody s_row_in_log) (defScope s_row_in_log) [] [] f fd) : GoodF P w K mg base 3 f fd ["text"] (sp_row_in_log K) := by
  refine ⟨F.ok sc_row_in_log (fun vs H Q E h => h.1) (fun cdv A outer s H vs Q E hr h => ⟨t_row_in_log K E, ?_, h.2⟩), FunD.bindsN F fun _ _ _ _ _ _ us hl => match us, hl with | [_], _ => rfl, F.kp⟩
  have hu := hu_of hr
  unfold t_row_in_log
  exact (pss_cons (ps_set (i := 1) sc_row_in_log.nd rfl (Or.inl rfl) (pe_split (pv 0) pe_str))
 (pss_cons (ps_if (pt_cmpR op_eq (pe_ix ix_list (pv 1) pe_int (fun _ _ => rfl)) pe_str (nomark _)) (pss_one (ps_ret (pe_cU (gd_room_in_log T) (hr.mono (by decide)) (takes_of rfl rfl rfl rfl) rfl (He.glo_ok T.X T.G (T.t.d.fact 7 (f := .glo "room_in_log") rfl)) (pa_cons (pv 1) pa_nil)))) pss_nil)
 (pss_cons (ps_if (PW.pt (pw_or (pt_cmpR (op_notInKd (T.t.tab 0 (t := (fun K => He.ga K "PARTS_OF_ROWS", ["load", "store", "copy", "drop", "number", "name", "read", "word", "make", "small", "begin", "shade", "look", "move", "end"])) rfl)) (pe_ix ix_list (pv 1) pe_int (fun _ _ => rfl)) (pe_glob rfl (He.glo_ok T.X T.G (T.t.d.fact 8 (f := .glo "PARTS_OF_ROWS") rfl)) (show RelV (.ref (He.ga K "PARTS_OF_ROWS")) _ from rfl)) (by with_unfolding_all rfl)) (pw_or1 (pt_cmpR op_ne (pe_callB call_len_seq (by rfl) (He.free_ok T.X T.G (T.t.d.fact 2 (f := .free "len") rfl)) (by decide +kernel) (pa_cons (pv 1) pa_nil)) (pe_op op_add (pe_ix (ix_kd (T.t.tab 0 (t := (fun K => He.ga K "PARTS_OF_ROWS", ["load", "store", "copy", "drop", "number", "name", "read", "word", "make", "small", "begin", "shade", "look", "move", "end"])) rfl)) (pe_glob rfl (He.glo_ok T.X T.G (T.t.d.fact 8 (f := .glo "PARTS_OF_ROWS") rfl)) (show RelV (.ref (He.ga K "PARTS_OF_ROWS")) _ from rfl)) (pe_ix ix_list (pv 1) pe_int (fun _ _ => rfl)) (fun _ _ => rfl)) pe_int) (nomark _))))) (pss_one (ps_ret pe_non)) pss_nil)
 (pss_cons (ps_setLc (i := 2) (own := [("word", 3)]) (g := (gName 3)) (tt := tYes) (by rfl) sc_row_in_log.nd rfl rfl (sw_true rfl rfl rfl (by decide +kernel)) (pi_list (pe_slice sl_list (pv 1) (po_some pe_int) po_none)) (blkOk_by (own := [("word", 3)]) (N := N_row_in_log) (sc := defScope s_row_in_log) (by decide +kernel)) (fun _ _ _ _ _ => (pg_name (i := 3) sc_row_in_log.nd rfl (Or.inl rfl))) (fun _ _ _ _ _ => pts_nil) (fun _ _ _ _ _ => (pe_cU (gd_number_in_log T) (hr.mono (by decide)) takes0 rfl (He.glo_ok T.X T.G (T.t.d.fact 6 (f := .glo "number_in_log") rfl)) (pa_cons (pv 3) pa_nil))))
 (pss_cons (ps_if (pt_cmpR op_in_seq pe_non (pv 2) (by first | exact nomark _ | with_unfolding_all rfl)) (pss_one (ps_ret pe_non)) pss_nil)
 (pss_one (ps_ret (pe_callTy call_tuple_of (by rfl) (He.free_ok T.X T.G (T.t.d.fact 9 (f := .free "tuple") rfl)) (by decide +kernel) (pa_cons (pe_op op_catS (pe_lst (pa_cons (pe_ix ix_list (pv 1) pe_int (fun _ _ => rfl)) pa_nil)) (pv 2)) pa_nil)))))))))
theorem gd_row_in_log (T : Tx P w K mg base) : Good P w K mg base 3 (He.fAd K (d_row_in_log).at_) ["text"] (sp_row_in_log K) := by
  obtain ⟨fd, F⟩ := T.t.d.def_ 3 (d := d_row_in_log) rfl
  exact ⟨fd, ok_row_in_log T F⟩
theorem ok_BadLog___init__ (T : Tx P w K mg base) {f : Addr} {fd : FuncData} (F : FunD K "__init__" "BadLog.__init__" (defArgs s_BadLog___init__) (defBody s_BadLog___init__) (defScope s_BadLog___init__) [] [] f fd) : GoodF P w K mg base 1 f fd ["self", "words", "row"] (sp_BadLog___init__ K) := by
  refine ⟨F.ok sc_BadLog___init__ (fun vs H Q E h => h.1) (fun cdv A outer s H vs Q E hr h => ⟨t_BadLog___init__ K E, ?_, h.2⟩), FunD.bindsN F fun _ _ _ _ _ _ us hl => match us, hl with | [_, _, _], _ => rfl, F.kp⟩
  have hu := hu_of hr
  unfold t_BadLog___init__
  exact (pss_cons (ps_expr (pe_binit (baseInitB_ok (T.exf 1 rfl)) rfl (He.glo_ok T.X T.G (T.t.d.fact 11 (f := .glo "HeapError") rfl)) (pa_cons (pv 0) (pa_cons (pv 1) pa_nil))))
 (pss_one (ps_ost (pv 0) (pv 2))))
theorem gd_BadLog___init__ (T : Tx P w K mg base) : Good P w K mg base 1 (He.fAd K (d_BadLog___init__).at_) ["self", "words", "row"] (sp_BadLog___init__ K) := by
  obtain ⟨fd, F⟩ := T.t.d.def_ 4 (d := d_BadLog___init__) rfl
  exact ⟨fd, ok_BadLog___init__ T F⟩
theorem ok_read_log (T : Tx P w K mg base) {f : Addr} {fd : FuncData} (F : FunD K "read_log" "read_log" (defArgs s_read_log) (defBody s_read_log) (defScope s_read_log) [] [] f fd) : GoodF P w K mg base 4 f fd ["text"] (sp_read_log K) := by
  refine ⟨F.ok sc_read_log (fun vs H Q E h => h.1) (fun cdv A outer s H vs Q E hr h => ⟨t_read_log K E, ?_, h.2⟩), FunD.bindsN F fun _ _ _ _ _ _ us hl => match us, hl with | [_], _ => rfl, F.kp⟩
  have hu := hu_of hr
  unfold t_read_log
  exact (pss_cons (ps_set (i := 1) sc_read_log.nd rfl (Or.inl rfl) (pe_lst pa_nil))
 (pss_cons (ps_for (passes_of rfl) rfl (pi_enum (by rfl) (He.free_ok T.X T.G (T.t.d.fact 1 (f := .free "enumerate") rfl)) (pa_cons (pe_split (pv 0) pe_str) pa_nil)) (pg_tup rfl (pgs_cons (pg_name (i := 2) sc_read_log.nd rfl (Or.inl rfl)) (pgs_cons (pg_name (i := 3) sc_read_log.nd rfl (Or.inl rfl)) pgs_nil))) (pss_cons (ps_set (i := 4) sc_read_log.nd rfl (Or.inl rfl) (pe_cU (gd_row_in_log T) (hr.mono (by decide)) (takes_of rfl rfl rfl rfl) rfl (He.glo_ok T.X T.G (T.t.d.fact 10 (f := .glo "row_in_log") rfl)) (pa_cons (pv 3) pa_nil)))
 (pss_cons (ps_if (pt_cmpR op_isN (pv 4) pe_non (nomark _)) (pss_one (ps_rzo rfl (takes_of rfl rfl rfl rfl) (oexB_ok (T.exf 2 rfl)) (He.meth_ok (T.t.d.fact 13 (f := .meth "BadLog" "__init__") rfl)).at_ (beq_iff_eq.mp (He.meth_ok (T.t.d.fact 13 (f := .meth "BadLog" "__init__") rfl)).fn) (gd_BadLog___init__ T) (hr.mono (by decide)) rfl (He.glo_ok T.X T.G (T.t.d.fact 14 (f := .glo "BadLog") rfl)) (pa_cons pe_str (pa_cons (pe_op op_add (pv 2) pe_int) pa_nil)))) pss_nil)
 (pss_one (ps_expr (pe_bm PySem.F.plainAttrs_list PySem.F.slot_list_append PySem.F.type_list_append mt_append (pv 1) (pa_cons (pv 4) pa_nil)))))))
 (pss_one (ps_ret (pv 1)))))
theorem gd_read_log (T : Tx P w K mg base) : Good P w K mg base 4 (He.fAd K (d_read_log).at_) ["text"] (sp_read_log K) := by
  obtain ⟨fd, F⟩ := T.t.d.def_ 5 (d := d_read_log) rfl
  exact ⟨fd, ok_read_log T F⟩
theorem ok_HeapError_called (T : Tx P w K mg base) {f : Addr} {fd : FuncData} (F : FunD K "called" "HeapError.called" (defArgs s_HeapError_called) (defBody s_HeapError_called) (defScope s_HeapError_called) [] [] f fd) : GoodF P w K mg base 1 f fd ["self"] (sp_HeapError_called K) := by
  refine ⟨F.ok sc_HeapError_called (fun vs H Q E h => h.1) (fun cdv A outer s H vs Q E hr h => ⟨t_HeapError_called K E, ?_, h.2⟩), FunD.bindsN F fun _ _ _ _ _ _ us hl => match us, hl with | [_], _ => rfl, F.kp⟩
  have hu := hu_of hr
  unfold t_HeapError_called
  exact (pss_one (ps_ret pe_str))
theorem gd_HeapError_called (T : Tx P w K mg base) : Good P w K mg base 1 (He.fAd K (d_HeapError_called).at_) ["self"] (sp_HeapError_called K) := by
  obtain ⟨fd, F⟩ := T.t.d.def_ 6 (d := d_HeapError_called) rfl
  exact ⟨fd, ok_HeapError_called T F⟩
theorem ok_BadView_called (T : Tx P w K mg base) {f : Addr} {fd : FuncData} (F : FunD K "called" "BadView.called" (defArgs s_BadView_called) (defBody s_BadView_called) (defScope s_BadView_called) [] [] f fd) : GoodF P w K mg base 1 f fd ["self"] (sp_BadView_called K) := by
  refine ⟨F.ok sc_BadView_called (fun vs H Q E h => h.1) (fun cdv A outer s H vs Q E hr h => ⟨t_BadView_called K E, ?_, h.2⟩), FunD.bindsN F fun _ _ _ _ _ _ us hl => match us, hl with | [_], _ => rfl, F.kp⟩
  have hu := hu_of hr
  unfold t_BadView_called
  exact (pss_one (ps_ret pe_str))
theorem gd_BadView_called (T : Tx P w K mg base) : Good P w K mg base 1 (He.fAd K (d_BadView_called).at_) ["self"] (sp_BadView_called K) := by
  obtain ⟨fd, F⟩ := T.t.d.def_ 7 (d := d_BadView_called) rfl
  exact ⟨fd, ok_BadView_called T F⟩
theorem ok_BadText_called (T : Tx P w K mg base) {f : Addr} {fd : FuncData} (F : FunD K "called" "BadText.called" (defArgs s_BadText_called) (defBody s_BadText_called) (defScope s_BadText_called) [] [] f fd) : GoodF P w K mg base 1 f fd ["self"] (sp_BadText_called K) := by
  refine ⟨F.ok sc_BadText_called (fun vs H Q E h => h.1) (fun cdv A outer s H vs Q E hr h => ⟨t_BadText_called K E, ?_, h.2⟩), FunD.bindsN F fun _ _ _ _ _ _ us hl => match us, hl with | [_], _ => rfl, F.kp⟩
  have hu := hu_of hr
  unfold t_BadText_called
  exact (pss_one (ps_ret pe_str))
theorem gd_BadText_called (T : Tx P w K mg base) : Good P w K mg base 1 (He.fAd K (d_BadText_called).at_) ["self"] (sp_BadText_called K) := by
  obtain ⟨fd, F⟩ := T.t.d.def_ 8 (d := d_BadText_called) rfl
  exact ⟨fd, ok_BadText_called T F⟩
theorem ok_BadLog_called (T : Tx P w K mg base) {f : Addr} {fd : FuncData} (F : FunD K "called" "BadLog.called" (defArgs s_BadLog_called) (defBody s_BadLog_called) (defScope s_BadLog_called) [] [] f fd) : GoodF P w K mg base 1 f fd ["self"] (sp_BadLog_called K) := by
  refine ⟨F.ok sc_BadLog_called (fun vs H Q E h => h.1) (fun cdv A outer s H vs Q E hr h => ⟨t_BadLog_called K E, ?_, h.2⟩), FunD.bindsN F fun _ _ _ _ _ _ us hl => match us, hl with | [_], _ => rfl, F.kp⟩
  have hu := hu_of hr
  unfold t_BadLog_called
  exact (pss_one (ps_ret pe_str))
theorem gd_BadLog_called (T : Tx P w K mg base) : Good P w K mg base 1 (He.fAd K (d_BadLog_called).at_) ["self"] (sp_BadLog_called K) := by
  obtain ⟨fd, F⟩ := T.t.d.def_ 9 (d := d_BadLog_called) rfl
  exact ⟨fd, ok_BadLog_called T F⟩
theorem ok_BadAddress_called (T : Tx P w K mg base) {f : Addr} {fd : FuncData} (F : FunD K "called" "BadAddress.called" (defArgs s_BadAddress_called) (defBody s_BadAddress_called) (defScope s_BadAddress_called) [] [] f fd) : GoodF P w K mg base 1 f fd ["self"] (sp_BadAddress_called K) := by
  refine ⟨F.ok sc_BadAddress_called (fun vs H Q E h => h.1) (fun cdv A outer s H vs Q E hr h => ⟨t_BadAddress_called K E, ?_, h.2⟩), FunD.bindsN F fun _ _ _ _ _ _ us hl => match us, hl with | [_], _ => rfl, F.kp⟩
  have hu := hu_of hr
  unfold t_BadAddress_called
  exact (pss_one (ps_ret pe_str))
theorem gd_BadAddress_called (T : Tx P w K mg base) : Good P w K mg base 1 (He.fAd K (d_BadAddress_called).at_) ["self"] (sp_BadAddress_called K) := by
  obtain ⟨fd, F⟩ := T.t.d.def_ 10 (d := d_BadAddress_called) rfl
  exact ⟨fd, ok_BadAddress_called T F⟩
theorem ok__law_row_of (T : Tx P w K mg base) {f : Addr} {fd : FuncData} (F : FunD K "_law_row_of" "_law_row_of" (defArgs s__law_row_of) (defBody s__law_row_of) (defScope s__law_row_of) [] [] f fd) : GoodF P w K mg base 5 f fd ["text"] (sp__law_row_of K) := by
  refine ⟨F.ok sc__law_row_of (fun vs H Q E h => h.1) (fun cdv A outer s H vs Q E hr h => ⟨t__law_row_of K E, ?_, h.2⟩), FunD.bindsN F fun _ _ _ _ _ _ us hl => match us, hl with | [_], _ => rfl, F.kp⟩
  have hu := hu_of hr
  unfold t__law_row_of
  exact (pss_cons (ps_set (i := 1) sc__law_row_of.nd rfl (Or.inl rfl) pe_non)
 (pss_cons (ps_tryT (i := 2) rfl rfl rfl sc__law_row_of.nd rfl rfl (He.glo_ok T.X T.G (T.t.d.fact 11 (f := .glo "HeapError") rfl)) (takes_of rfl rfl rfl rfl) (fun W pn xe tk hp => (pss_one (ps_expr (pe_cU (gd_read_log T) (hr.mono (by decide)) tk rfl (He.glo_ok T.X T.G (T.t.d.fact 15 (f := .glo "read_log") rfl)) (pa_cons (pv 0) pa_nil))))) (fun a pn => (pss_one (ps_set (i := 1) sc__law_row_of.nd rfl (Or.inl rfl) (pv 2)))))
 (pss_cons (ps_if (pt_cmpR op_isN (pv 1) pe_non (nomark _)) (pss_one (ps_ret pe_int)) pss_nil)
 (pss_cons (ps_if (PW.pt (pw_or (pt_not (pt_val (pe_callB call_isiF (by rfl) (He.free_ok T.X T.G (T.t.d.fact 21 (f := .free "isinstance") rfl)) (by decide +kernel) (pa_cons (pv 1) (pa_cons (pe_glob rfl (He.glo_ok T.X T.G (T.t.d.fact 14 (f := .glo "BadLog") rfl)) (show RelV (.ref (He.ga K "BadLog")) _ from rfl)) pa_nil))))) (pw_or (pt_not (pt_val (pe_callB call_isiF (by rfl) (He.free_ok T.X T.G (T.t.d.fact 21 (f := .free "isinstance") rfl)) (by decide +kernel) (pa_cons (pv 1) (pa_cons (pe_bltn (v := .ty "ValueError") (by rfl) (He.free_ok T.X T.G (T.t.d.fact 22 (f := .free "ValueError") rfl)) (by decide +kernel) rfl) pa_nil))))) (pw_or1 (pt_cmpR op_ne (pe_xmU0 (k := 1) (pv 1) (xaltok_cons ⟨excCB_ok (T.exf 7 rfl), (He.meth_ok (T.t.d.fact 27 (f := .meth "BadAddress" "called") rfl)).at_, beq_iff_eq.mp (He.meth_ok (T.t.d.fact 27 (f := .meth "BadAddress" "called") rfl)).fn, (gd_BadAddress_called T).mono (by decide)⟩ (xaltok_cons ⟨excCB_ok (T.exf 6 rfl), (He.meth_ok (T.t.d.fact 26 (f := .meth "BadLog" "called") rfl)).at_, beq_iff_eq.mp (He.meth_ok (T.t.d.fact 26 (f := .meth "BadLog" "called") rfl)).fn, (gd_BadLog_called T).mono (by decide)⟩ (xaltok_cons ⟨excCB_ok (T.exf 5 rfl), (He.meth_ok (T.t.d.fact 25 (f := .meth "BadText" "called") rfl)).at_, beq_iff_eq.mp (He.meth_ok (T.t.d.fact 25 (f := .meth "BadText" "called") rfl)).fn, (gd_BadText_called T).mono (by decide)⟩ (xaltok_cons ⟨excCB_ok (T.exf 4 rfl), (He.meth_ok (T.t.d.fact 24 (f := .meth "BadView" "called") rfl)).at_, beq_iff_eq.mp (He.meth_ok (T.t.d.fact 24 (f := .meth "BadView" "called") rfl)).fn, (gd_BadView_called T).mono (by decide)⟩ (xaltok_cons ⟨excCB_ok (T.exf 3 rfl), (He.meth_ok (T.t.d.fact 23 (f := .meth "HeapError" "called") rfl)).at_, beq_iff_eq.mp (He.meth_ok (T.t.d.fact 23 (f := .meth "HeapError" "called") rfl)).fn, (gd_HeapError_called T).mono (by decide)⟩ xaltok_nil))))) (hr.mono (by decide)) (takes_of rfl rfl rfl rfl)) pe_str (nomark _)))))) (pss_one (ps_ret pe_non)) pss_nil)
 (pss_cons (ps_if (PW.pt (pw_or (pt_val (pe_callB call_isiTF (by rfl) (He.free_ok T.X T.G (T.t.d.fact 21 (f := .free "isinstance") rfl)) (by decide +kernel) (pa_cons (pv 1) (pa_cons (pe_tup (pa_cons (pe_glob rfl (He.glo_ok T.X T.G (T.t.d.fact 28 (f := .glo "BadAddress") rfl)) (show RelV (.ref (He.ga K "BadAddress")) _ from rfl)) (pa_cons (pe_glob rfl (He.glo_ok T.X T.G (T.t.d.fact 29 (f := .glo "BadText") rfl)) (show RelV (.ref (He.ga K "BadText")) _ from rfl)) (pa_cons (pe_glob rfl (He.glo_ok T.X T.G (T.t.d.fact 30 (f := .glo "BadView") rfl)) (show RelV (.ref (He.ga K "BadView")) _ from rfl)) pa_nil)))) pa_nil)))) (pw_or1 (pt_val (pe_callB call_isiF (by rfl) (He.free_ok T.X T.G (T.t.d.fact 21 (f := .free "isinstance") rfl)) (by decide +kernel) (pa_cons (pe_xfd (xfdok_cons (excCB_ok (T.exf 6 rfl)) (He.noat_ok (T.t.d.fact 12 (f := .noat "BadLog" "row") rfl)) xfdok_nil) (pv 1) rfl) (pa_cons (pe_bltn (v := .ty "bool") (by rfl) (He.free_ok T.X T.G (T.t.d.fact 31 (f := .free "bool") rfl)) (by decide +kernel) rfl) pa_nil))))))) (pss_one (ps_ret pe_non)) pss_nil)
 (pss_one (ps_ret (pe_xfd (xfdok_cons (excCB_ok (T.exf 6 rfl)) (He.noat_ok (T.t.d.fact 12 (f := .noat "BadLog" "row") rfl)) xfdok_nil) (pv 1) rfl))))))))
theorem gd__law_row_of (T : Tx P w K mg base) : Good P w K mg base 5 (He.fAd K (d__law_row_of).at_) ["text"] (sp__law_row_of K) := by
  obtain ⟨fd, F⟩ := T.t.d.def_ 11 (d := d__law_row_of) rfl
  exact ⟨fd, ok__law_row_of T F⟩
theorem ok__law_spoilt (T : Tx P w K mg base) {f : Addr} {fd : FuncData} (F : FunD K "_law_spoilt" "_law_spoilt" (defArgs s__law_spoilt) (defBody s__law_spoilt) (defScope s__law_spoilt) [] [] f fd) : GoodF P w K mg base 1 f fd ["line", "cell"] (sp__law_spoilt K) := by
  refine ⟨F.ok sc__law_spoilt (fun vs H Q E h => h.1) (fun cdv A outer s H vs Q E hr h => ⟨t__law_spoilt K E, ?_, h.2⟩), FunD.bindsN F fun _ _ _ _ _ _ us hl => match us, hl with | [_, _], _ => rfl, F.kp⟩
  have hu := hu_of hr
  unfold t__law_spoilt
  exact (pss_cons (ps_set (i := 2) sc__law_spoilt.nd rfl (Or.inl rfl) (pe_split (pv 0) pe_str))
 (pss_cons (ps_set (i := 3) sc__law_spoilt.nd rfl (Or.inl rfl) (pe_op op_fdivW (pv 1) pe_int))
 (pss_cons (ps_set (i := 4) sc__law_spoilt.nd rfl (Or.inl rfl) (pe_lst (pa_cons pe_str (pa_cons pe_str (pa_cons pe_str (pa_cons pe_str (pa_cons pe_str (pa_cons pe_str (pa_cons pe_str (pa_cons pe_str (pa_cons pe_str (pa_cons pe_str (pa_cons pe_str (pa_cons pe_str (pa_cons pe_str (pa_cons pe_str (pa_cons pe_str (pa_cons pe_str (pa_cons pe_str pa_nil)))))))))))))))))))
 (pss_cons (ps_set (i := 4) sc__law_spoilt.nd rfl (Or.inl rfl) (pe_op op_catS (pv 4) (pe_lst (pa_cons pe_str (pa_cons pe_str (pa_cons pe_str (pa_cons (pe_op op_repS pe_str (pe_op op_add pe_int (pe_op op_mod (pv 3) pe_int))) (pa_cons (pe_op op_add_str pe_str (pe_op op_repS pe_str pe_int)) pa_nil))))))))
 (pss_cons (ps_set (i := 5) sc__law_spoilt.nd rfl (Or.inl rfl) (pe_op op_mod (pv 3) (pe_callB call_len_seq (by rfl) (He.free_ok T.X T.G (T.t.d.fact 2 (f := .free "len") rfl)) (by decide +kernel) (pa_cons (pv 2) pa_nil))))
 (pss_cons (ps_if (pt_cmpR op_eq (pe_op op_mod (pv 1) pe_int) pe_int (nomark _)) (pss_one (ps_ret (pe_join pe_str (pe_op op_catS (pe_lst (pa_cons pe_str pa_nil)) (pe_slice sl_list (pv 2) (po_some pe_int) po_none))))) pss_nil)
 (pss_cons (ps_if (pt_cmpR op_eq (pe_op op_mod (pv 1) pe_int) pe_int (nomark _)) (pss_one (ps_ret (pe_op op_add_str (pv 0) pe_str))) pss_nil)
 (pss_cons (ps_if (PW.pt (pw_and (pt_cmpR op_eq (pe_op op_mod (pv 1) pe_int) pe_int (nomark _)) (pw_and1 (pt_cmpR op_gt (pe_callB call_len_seq (by rfl) (He.free_ok T.X T.G (T.t.d.fact 2 (f := .free "len") rfl)) (by decide +kernel) (pa_cons (pv 2) pa_nil)) pe_int (nomark _))))) (pss_one (ps_ret (pe_join pe_str (pe_slice sl_list (pv 2) po_none (po_some (pe_un un_neg pe_int)))))) pss_nil)
 (pss_cons (ps_ifRep (i := 0) (pe_op op_mod (pv 1) pe_int) (pe_ix ix_list (pe_lst (pa_cons pe_str (pa_cons pe_str pa_nil))) (pe_callTy call_int1 (by rfl) (He.free_ok T.X T.G (T.t.d.fact 5 (f := .free "int") rfl)) (by decide +kernel) (pa_cons (pe_cmpR op_eq (pe_callB call_len_seq (by rfl) (He.free_ok T.X T.G (T.t.d.fact 2 (f := .free "len") rfl)) (by decide +kernel) (pa_cons (pv 2) pa_nil)) pe_int (nomark _)) pa_nil)) (fun _ _ => rfl)) rfl (Or.inl rfl))
 (pss_cons (ps_if (pt_cmpR op_eq (pe_op op_mod (pv 1) pe_int) pe_int (nomark _)) (pss_one (ps_ret (pe_ix ix_list (pe_lst (pa_cons (pe_op op_add_str pe_str (pv 0)) (pa_cons (pe_op op_add_str (pv 0) pe_str) pa_nil))) (pe_op op_mod (pv 3) pe_int) (fun _ _ => rfl)))) pss_nil)
 (pss_cons (ps_if (pt_cmpR op_eq (pe_op op_mod (pv 1) pe_int) pe_int (nomark _)) (pss_one (ps_ret (pe_op op_add_str (pe_join pe_str (pe_op op_catS (pe_op op_catS (pe_slice sl_list (pv 2) po_none (po_some pe_int)) (pe_lst (pa_cons pe_str pa_nil))) (pe_slice sl_list (pv 2) (po_some pe_int) po_none))) (pe_ix ix_list (pe_lst (pa_cons pe_str (pa_cons pe_str pa_nil))) (pe_callTy call_int1 (by rfl) (He.free_ok T.X T.G (T.t.d.fact 5 (f := .free "int") rfl)) (by decide +kernel) (pa_cons (pe_cmpR op_lt (pe_callB call_len_seq (by rfl) (He.free_ok T.X T.G (T.t.d.fact 2 (f := .free "len") rfl)) (by decide +kernel) (pa_cons (pv 2) pa_nil)) pe_int (nomark _)) pa_nil)) (fun _ _ => rfl))))) pss_nil)
 (pss_cons (ps_if (pt_cmpR op_eq (pe_op op_mod (pv 1) pe_int) pe_int (nomark _)) (pss_one (ps_ret (pe_upper (pv 0)))) pss_nil)
 (pss_cons (ps_if (pt_cmpR op_eq (pv 5) pe_int (nomark _)) (pss_one (ps_ret (pe_op op_add_str (pe_op op_add_str (pe_ix ix_list (pv 4) (pe_op op_mod (pe_op op_fdivW (pv 3) pe_int) (pe_callB call_len_seq (by rfl) (He.free_ok T.X T.G (T.t.d.fact 2 (f := .free "len") rfl)) (by decide +kernel) (pa_cons (pv 4) pa_nil))) (fun _ _ => rfl)) pe_str) (pv 0)))) pss_nil)
 (pss_one (ps_ret (pe_join pe_str (pe_op op_catS (pe_op op_catS (pe_slice sl_list (pv 2) po_none (po_some (pv 5))) (pe_lst (pa_cons (pe_ix ix_list (pv 4) (pe_op op_mod (pe_op op_fdivW (pv 3) pe_int) (pe_callB call_len_seq (by rfl) (He.free_ok T.X T.G (T.t.d.fact 2 (f := .free "len") rfl)) (by decide +kernel) (pa_cons (pv 4) pa_nil))) (fun _ _ => rfl)) pa_nil))) (pe_slice sl_list (pv 2) (po_some (pe_op op_add (pv 5) pe_int)) po_none))))))))))))))))))
theorem gd__law_spoilt (T : Tx P w K mg base) : Good P w K mg base 1 (He.fAd K (d__law_spoilt).at_) ["line", "cell"] (sp__law_spoilt K) := by
  obtain ⟨fd, F⟩ := T.t.d.def_ 12 (d := d__law_spoilt) rfl
  exact ⟨fd, ok__law_spoilt T F⟩
theorem ok_law (T : Tx P w K mg base) {f : Addr} {fd : FuncData} (F : FunD K "law" "law" (defArgs s_law) (defBody s_law) (defScope s_law) [] [] f fd) : GoodF P w K mg base 6 f fd ["script"] (sp_law K) := by
  refine ⟨F.ok sc_law (fun vs H Q E h => h.1) (fun cdv A outer s H vs Q E hr h => ⟨t_law K E, ?_, h.2⟩), FunD.bindsN F fun _ _ _ _ _ _ us hl => match us, hl with | [_], _ => rfl, F.kp⟩
  have hu := hu_of hr
  unfold t_law
  exact (pss_cons (ps_set (i := 1) sc_law.nd rfl (Or.inl rfl) (pe_cU (gd__law_lines T) (hr.mono (by decide)) (takes_of rfl rfl rfl rfl) rfl (He.glo_ok T.X T.G (T.t.d.fact 0 (f := .glo "_law_lines") rfl)) (pa_cons (pv 0) pa_nil)))
 (pss_cons (ps_if (PW.pt (pw_or (pt_cmpR op_ne (pe_cU (gd__law_row_of T) (hr.mono (by decide)) (takes_of rfl rfl rfl rfl) rfl (He.glo_ok T.X T.G (T.t.d.fact 32 (f := .glo "_law_row_of") rfl)) (pa_cons (pe_join pe_str (pv 1)) pa_nil)) pe_int (nomark _)) (pw_or1 (pt_cmpR op_ne (pe_cU (gd__law_row_of T) (hr.mono (by decide)) (takes_of rfl rfl rfl rfl) rfl (He.glo_ok T.X T.G (T.t.d.fact 32 (f := .glo "_law_row_of") rfl)) (pa_cons pe_str pa_nil)) pe_int (nomark _))))) (pss_one (ps_ret pe_bl)) pss_nil)
 (pss_cons (ps_for (passes_of rfl) rfl (pi_list (pe_op op_catS (pe_lst (pa_cons pe_int pa_nil)) (pe_slice sl_list (pv 0) po_none (po_some pe_int)))) (pg_name (i := 2) sc_law.nd rfl (Or.inl rfl)) (pss_cons (ps_set (i := 3) sc_law.nd rfl (Or.inl rfl) (pe_op op_mod (pe_op op_fdivW (pv 2) pe_int) (pe_callB call_len_seq (by rfl) (He.free_ok T.X T.G (T.t.d.fact 2 (f := .free "len") rfl)) (by decide +kernel) (pa_cons (pv 1) pa_nil))))
 (pss_cons (ps_set (i := 4) sc_law.nd rfl (Or.inl rfl) (pe_op op_catS (pe_op op_catS (pe_slice sl_list (pv 1) po_none (po_some (pv 3))) (pe_lst (pa_cons (pe_cU (gd__law_spoilt T) (hr.mono (by decide)) (takes_of rfl rfl rfl rfl) rfl (He.glo_ok T.X T.G (T.t.d.fact 33 (f := .glo "_law_spoilt") rfl)) (pa_cons (pe_ix ix_list (pv 1) (pv 3) (fun _ _ => rfl)) (pa_cons (pv 2) pa_nil))) pa_nil))) (pe_slice sl_list (pv 1) (po_some (pe_op op_add (pv 3) pe_int)) po_none)))
 (pss_cons (ps_if (PW.pt (pw_or (pt_cmpR op_ne (pe_cU (gd__law_row_of T) (hr.mono (by decide)) (takes_of rfl rfl rfl rfl) rfl (He.glo_ok T.X T.G (T.t.d.fact 32 (f := .glo "_law_row_of") rfl)) (pa_cons (pe_join pe_str (pv 4)) pa_nil)) (pe_op op_add (pv 3) pe_int) (nomark _)) (pw_or1 (pt_cmpR op_ne (pe_cU (gd__law_row_of T) (hr.mono (by decide)) (takes_of rfl rfl rfl rfl) rfl (He.glo_ok T.X T.G (T.t.d.fact 32 (f := .glo "_law_row_of") rfl)) (pa_cons (pe_join pe_str (pe_op op_catS (pv 4) (pe_lst (pa_cons pe_str pa_nil)))) pa_nil)) (pe_op op_add (pv 3) pe_int) (nomark _))))) (pss_one (ps_ret pe_bl)) pss_nil)
 (pss_one (ps_if (pt_cmpR op_ne (pe_cU (gd__law_row_of T) (hr.mono (by decide)) (takes_of rfl rfl rfl rfl) rfl (He.glo_ok T.X T.G (T.t.d.fact 32 (f := .glo "_law_row_of") rfl)) (pa_cons (pe_join pe_str (pe_op op_catS (pe_op op_catS (pe_slice sl_list (pv 1) po_none (po_some (pv 3))) (pe_lst (pa_cons pe_str pa_nil))) (pe_slice sl_list (pv 1) (po_some (pv 3)) po_none))) pa_nil)) (pe_op op_add (pv 3) pe_int) (nomark _)) (pss_one (ps_ret pe_bl)) pss_nil))))))
 (pss_one (ps_ret (pe_cmpR op_eq (pe_cU (gd__law_row_of T) (hr.mono (by decide)) (takes_of rfl rfl rfl rfl) rfl (He.glo_ok T.X T.G (T.t.d.fact 32 (f := .glo "_law_row_of") rfl)) (pa_cons (pe_op op_add_str (pe_join pe_str (pv 1)) pe_str) pa_nil)) (pe_op op_add (pe_callB call_len_seq (by rfl) (He.free_ok T.X T.G (T.t.d.fact 2 (f := .free "len") rfl)) (by decide +kernel) (pa_cons (pv 1) pa_nil)) pe_int) (nomark _)))))))
theorem pf (T : Tx P w K mg base) : PF K where
  kd_PARTS_OF_ROWS := (T.exf 0 rfl)
  oex_BadLog := (oexB_ok (T.exf 2 rfl))
  noat_BadLog_row := (He.noat_ok (T.t.d.fact 12 (f := .noat "BadLog" "row") rfl))
  exm_HeapError_HeapError := (He.exm_ok (T.t.d.fact 16 (f := .exm "HeapError" "HeapError" true) rfl))
  exm_BadAddress_HeapError := (He.exm_ok (T.t.d.fact 17 (f := .exm "BadAddress" "HeapError" true) rfl))
  exm_BadLog_HeapError := (He.exm_ok (T.t.d.fact 18 (f := .exm "BadLog" "HeapError" true) rfl))
  exm_BadText_HeapError := (He.exm_ok (T.t.d.fact 19 (f := .exm "BadText" "HeapError" true) rfl))
  exm_BadView_HeapError := (He.exm_ok (T.t.d.fact 20 (f := .exm "BadView" "HeapError" true) rfl))
  excC_HeapError := (excCB_ok (T.exf 3 rfl))
  excC_BadView := (excCB_ok (T.exf 4 rfl))
  excC_BadText := (excCB_ok (T.exf 5 rfl))
  excC_BadLog := (excCB_ok (T.exf 6 rfl))
  excC_BadAddress := (excCB_ok (T.exf 7 rfl))
  kit_BadLog_BadLog := (kitB_ok (T.exf 8 rfl))
  kit_BadLog_ValueError := (kitB_ok (T.exf 9 rfl))
  kit_BadLog_BadAddress := (kitB_ok (T.exf 10 rfl))
  kit_BadLog_BadText := (kitB_ok (T.exf 11 rfl))
  kit_BadLog_BadView := (kitB_ok (T.exf 12 rfl))
end
def loose0 : List Str := ["BadAddress", "BadLog", "BadText", "BadView", "FIGURES_OF_LOGS", "HeapError", "MOST_FIGURES_OF_LOGS", "PARTS_OF_ROWS", "__name__", "_law_lines", "_law_row_of", "_law_spoilt", "number_in_log", "read_log", "room_in_log", "row_in_log"]
def loose : List Str := loose0
abbrev R : PySem.W.OpenRow := PySem.W.OpenLaw.row PySem.Challenge.rw_stillheap_k75_no_logs_texts
abbrev hk : PySem.W.Hook := hookY 6 fa fn tabs ex
def ob (s : PySem.W.SharedT) : AlY := obsY 6 fa fn tabs ex (HandSHeadRun.getT s)
theorem ob_eq (s : PySem.W.SharedT) : ob s = hk.obs s.abs := obsY_eq (HandSHeadRun.getT_eq s)
theorem run (w : World) : HandSHeadRun.RunEq R (PySem.W.view R.prog [18]) hk ob 100000 loose w := by
  refine PySem.W.byRow2 "special-get-raises" (P := fun w => HandSHeadRun.RunEq R (PySem.W.view R.prog [18]) hk ob 100000 loose w) (fun w => ?_) (fun w => ?_) w
  · intro os
    kernel_rfl
  · intro os
    kernel_rfl
theorem holds_of (hp : ∀ (K : PySem.W.Frag), PF K → ∀ (H : Hp) (a : Addr) (ns : List Int), ns.length ≤ 63 → (∀ k ∈ ns, Builtin.Int.intBits k ≤ 1048576) → Only H → SqX K H a (ns.map V.int) → sp_law K [.ref a] H (fun v _ => v = .bl true) fun _ _ _ => False) :
    PySem.Challenge.rw_stillheap_k75_no_logs_texts.Holds := by
  w_on; o_law
  refine HandSHeadRun.head_any (r := PySem.W.OpenLaw.row PySem.Challenge.rw_stillheap_k75_no_logs_texts) (q := PySem.W.view (PySem.W.OpenLaw.row PySem.Challenge.rw_stillheap_k75_no_logs_texts).prog [18]) (H := hk) (ob := ob) (M := 100000) (loose := loose) (d := HandSHeadRun.topDef (PySem.W.OpenLaw.row PySem.Challenge.rw_stillheap_k75_no_logs_texts).prog 18) (kwd := []) ob_eq
    (by kernel_rfl) (fun s => by kernel_rfl) run (by kernel_rfl) (by kernel_rfl) (by kernel_rfl) (by rfl) (by first | assumption | decide +kernel) (by decide +kernel) ⟨rfl, rfl, rfl, rfl, rfl, by decide +kernel⟩ ?hw ?hc
  case hw => w_witness2
  case hc =>
    refine SX0.walk_ofX (l := PySem.Challenge.rw_stillheap_k75_no_logs_texts) (n := 63) (k := 6) (x := "script") rfl (by decide) (by kernel_rfl) ⟨rfl, by decide, by decide⟩ ?F
    intro w mg fa h Y G hmg0
    obtain ⟨K, KX, c⟩ := Y
    have hmg : mg ("law" : Str) = some (.ref fa) := by
      have e : (HandSHeadRun.topDef (PySem.W.OpenLaw.row PySem.Challenge.rw_stillheap_k75_no_logs_texts).prog 18).name = ("law" : Str) := by kernel_rfl
      rw [← e]
      exact hmg0
    have Tx0 : ∀ base : Heap, K.In base → base.Ns mainGlobals mg → Tx (PySem.Challenge.rw_stillheap_k75_no_logs_texts).prog w K mg base := fun base X G => ⟨X, G, c⟩
    have T := Tx0 h KX G
    obtain ⟨fd, F⟩ := T.t.d.def_ 13 (d := d_law) rfl
    have e := hmg.symm.trans (He.glo_ok T.X T.G (T.t.d.fact 34 (f := .glo "law") rfl))
    cases e
    have b := FunD.bindsA (ps := ["script"]) F fun _ _ _ _ _ _ us hl => match us, hl with | [_], _ => rfl
    refine ⟨K, fd, sp_law K, KX, fun s v => b s [v] rfl, fun H a ns h1 h2 h3 h4 => hp K (pf T) H a ns h1 h2 h3 h4, fun base hX hG => ?_⟩
    exact (ok_law (Tx0 base hX hG) F).1
end D_k75

set_option Elab.async false
set_option linter.all false
set_option maxRecDepth 100000
set_option maxHeartbeats 1000000
namespace P75
open PySem PySem.Spec PyProof.Rows L2 SX0 R_k75
/-! ### split of join -/
theorem cut_one {c : Nat} : ∀ {x y r s : List Nat}, c ∉ x → c ∉ y → x ++ c :: r = y ++ c :: s → x = y ∧ r = s
  | [], [], _, _, _, _, h => by simpa using h
  | [], b :: y, _, _, _, hy, h => by
    have : c = b := by simpa using (List.cons.inj h).1
    exact absurd (this ▸ List.mem_cons_self) hy
  | a :: x, [], _, _, hx, _, h => by
    have : a = c := (List.cons.inj h).1
    exact absurd (this ▸ List.mem_cons_self) hx
  | a :: x, b :: y, r, s, hx, hy, h => by
    obtain ⟨e1, e2⟩ := List.cons.inj h
    obtain ⟨i1, i2⟩ := cut_one (fun z => hx (List.mem_cons_of_mem _ z)) (fun z => hy (List.mem_cons_of_mem _ z)) e2
    rw [e1, i1, i2]
    exact ⟨rfl, rfl⟩
theorem no_cut {c : Nat} {x r y : List Nat} (hy : c ∉ y) (h : x ++ c :: r = y) : False := hy (h ▸ List.mem_append_right _ List.mem_cons_self)
theorem tl_join (c : Nat) (x y : Str) (r : List Str) : (Str.join ⟨#[c]⟩ (x :: y :: r)).cps.toList = x.cps.toList ++ c :: (Str.join ⟨#[c]⟩ (y :: r)).cps.toList := by
  show (x ++ ⟨#[c]⟩ ++ Str.join ⟨#[c]⟩ (y :: r)).cps.toList = _
  show ((x.cps ++ #[c]) ++ (Str.join ⟨#[c]⟩ (y :: r)).cps).toList = _
  simp
theorem str_ext {x y : Str} (h : x.cps.toList = y.cps.toList) : x = y := by
  obtain ⟨a⟩ := x
  obtain ⟨b⟩ := y
  have : a = b := Array.toList_inj.mp h
  rw [this]
theorem join_inj (c : Nat) : ∀ {as bs : List Str}, as ≠ [] → bs ≠ [] → (∀ a ∈ as, c ∉ a.cps.toList) → (∀ b ∈ bs, c ∉ b.cps.toList) → Str.join ⟨#[c]⟩ as = Str.join ⟨#[c]⟩ bs → as = bs
  | [], _, h, _, _, _, _ => absurd rfl h
  | _, [], _, h, _, _, _ => absurd rfl h
  | [a], [b], _, _, _, _, h => by rw [show a = b from h]
  | [a], b :: b' :: bs, _, _, ha, _, h => by
    have h2 := congrArg (fun s : Str => s.cps.toList) h
    rw [tl_join] at h2
    exact absurd h2.symm (fun z => no_cut (ha a List.mem_cons_self) z)
  | a :: a' :: as, [b], _, _, _, hb, h => by
    have h2 := congrArg (fun s : Str => s.cps.toList) h
    rw [tl_join] at h2
    exact absurd h2 (fun z => no_cut (hb b List.mem_cons_self) z)
  | a :: a' :: as, b :: b' :: bs, _, _, ha, hb, h => by
    have h2 := congrArg (fun s : Str => s.cps.toList) h
    rw [tl_join, tl_join] at h2
    obtain ⟨e1, e2⟩ := cut_one (ha a List.mem_cons_self) (hb b List.mem_cons_self) h2
    have ih := join_inj c (as := a' :: as) (bs := b' :: bs) (by simp) (by simp) (fun x hx => ha x (List.mem_cons_of_mem _ hx)) (fun x hx => hb x (List.mem_cons_of_mem _ hx)) (str_ext e2)
    rw [str_ext e1, ih]
theorem split_join (c : Nat) {ls : List Str} (h : ls ≠ []) (hf : ∀ l ∈ ls, c ∉ l.cps.toList) : Txt.split (Txt.join ⟨#[c]⟩ ls) ⟨#[c]⟩ = ls := by
  have e : Txt.join ⟨#[c]⟩ ls = Str.join ⟨#[c]⟩ ls := PySem.StrLaws.glued_eq_join _ _
  rw [e]
  have hp := PyProof.Rows.split_pos (Str.join ⟨#[c]⟩ ls) ⟨#[c]⟩
  refine join_inj c (by intro z; rw [z] at hp; simp at hp) h (PySem.StrLaws.split_free _ c) hf (PySem.StrLaws.join_split _ _)
def SP : Str := " "
def NL : Str := "\n"
theorem SP_eq : SP = ⟨#[32]⟩ := by decide +kernel
theorem NL_eq : NL = ⟨#[10]⟩ := by decide +kernel
theorem split_words {ls : List Str} (h : ls ≠ []) (hf : ∀ l ∈ ls, 32 ∉ l.cps.toList) : Txt.split (Txt.join " " ls) " " = ls := by
  have := split_join 32 h hf
  rw [← SP_eq] at this
  exact this
theorem split_lines {ls : List Str} (h : ls ≠ []) (hf : ∀ l ∈ ls, 10 ∉ l.cps.toList) : Txt.split (Txt.join "\n" ls) "\n" = ls := by
  have := split_join 10 h hf
  rw [← NL_eq] at this
  exact this
example : Txt.join " " ["load", "1", "2", "0"] = "load 1 2 0" := by decide +kernel
example : Txt.upper "load 1 2 -0" = "LOAD 1 2 -0" := by decide +kernel
example : PySem.intText? "-31" = some (-31) := by decide +kernel
example : Txt.replace "load 1 2 0" " " "  " = "load  1  2  0" := by decide +kernel
example : cutS "load" none (some 1) = "l" := by decide +kernel
example : repS "9" 3 = "999" := by decide +kernel
end P75

set_option Elab.async false
set_option linter.all false
set_option maxRecDepth 100000
set_option maxHeartbeats 1000000
namespace P75
open PySem PySem.Spec PyProof.Rows L2 SX0 R_k75
variable {K : PySem.W.Frag} {H : Hp} {Q : VK} {E : XK} {σ : L2.St} {D : Ends}
theorem sl {n m : Nat} (h : n ≤ m) (hm : m ≤ 16777216 := by decide) : n ≤ sizeLine := by rw [sizeLine_eq]; omega
theorem get_map {α β : Type} {f : α → β} {l : List α} {i : Nat} {y : β} (h : (l.map f)[i]? = some y) : ∃ x, l[i]? = some x ∧ y = f x := by
  rw [List.getElem?_map] at h
  cases e : l[i]? with
  | none => rw [e] at h; cases h
  | some x => rw [e] at h; exact ⟨x, rfl, (Option.some.inj h).symm⟩
theorem lt_of_get {α : Type} {l : List α} {i : Nat} {x : α} (h : l[i]? = some x) : i < l.length := (List.getElem?_eq_some_iff.mp h).1
theorem take_snoc {α : Type} {l : List α} {i : Nat} {x : α} (h : l[i]? = some x) : l.take (i + 1) = l.take i ++ [x] := by rw [List.take_add_one, h]; rfl
theorem atI_nat {xs : List α} {n : Nat} {v : α} (h : xs[n]? = some v) : atI xs (n : Int) = some v := by
  have hn := lt_of_get h
  unfold atI
  have e : ixN xs.length (n : Int) = some n := by
    unfold ixN
    simp
    omega
  rw [e]
  exact h
theorem x_slS {z : Str} {lo hi : Option Int} (hz : z.length ≤ 16777216) (h : Q (.str (cutS z lo hi)) H) : rSlS (.str z) lo hi H Q := ⟨z, rfl, sl hz, h⟩
theorem x_ixS {z : Str} {i : Int} {c : Nat} (hz : z.length ≤ 16777216) (e : atI z.cps.toList i = some c) (h : Q (.str ⟨#[c]⟩) H) : rIxS (.str z) (.int i) H Q := ⟨z, i, c, rfl, rfl, sl hz, e, h⟩
theorem x_lenS {z : Str} (hz : z.length ≤ 16777216) (h : Q (.int z.length) H) : cLenStr [.str z] H Q := ⟨z, rfl, sl hz, h⟩
theorem x_m1 {r : V → List V → Hp → VK → Prop} {to te : TE} (h : to σ H fun x H1 => (∃ a, x = .str a) ∧ te σ H1 fun y H2 => r x [y] H2 Q) : tM1 r to te σ H Q := h
theorem x_m0 {r : V → List V → Hp → VK → Prop} {to : TE} (h : to σ H fun x H1 => (∃ a, x = .str a) ∧ r x [] H1 Q) : tM0 r to σ H Q := h
theorem x_eqS {a b : Str} (h : Q (.bl (decide (a = b))) H) : rEq (.str a) (.str b) H Q := by
  refine x_rEq rfl ?_
  have e : decide (V.str a = V.str b) = decide (a = b) := by by_cases z : a = b <;> simp [z]
  rw [e]; exact h
theorem x_neS {a b : Str} (h : Q (.bl (!decide (a = b))) H) : rNe (.str a) (.str b) H Q := by
  refine x_rNe rfl ?_
  have e : decide (V.str a = V.str b) = decide (a = b) := by by_cases z : a = b <;> simp [z]
  rw [e]; exact h
theorem x_iteS {a b : Str} {A B : Prop} (h1 : a = b → A) (h2 : ¬ a = b → B) : if decide (V.str a = V.str b) = true then A else B := by
  by_cases z : a = b
  · rw [if_pos (by rw [z]; exact decide_eq_true rfl)]; exact h1 z
  · rw [if_neg (by simp [z])]; exact h2 z
theorem x_iteSN {a b : Str} {A B : Prop} (h1 : ¬ a = b → A) (h2 : a = b → B) : if (!decide (V.str a = V.str b)) = true then A else B := by
  by_cases z : a = b
  · rw [if_neg (by simp [z])]; exact h2 z
  · rw [if_pos (by simp [z])]; exact h1 z
theorem x_iStr0 {ta : TE} {R : It → Hp → Prop} (h : ta σ H fun x H1 => ∃ z, x = .str z ∧ R (Its z) H1) : iStr ta σ H R := h
theorem L_str {z : Str} {g : TG} {tb : TS} (Pv : Nat → L2.St → Hp → Prop) (h0 : Pv 0 σ H) (hs : ∀ i c σ H, z.cps.toList[i]? = some c → Pv i σ H → g (.str ⟨#[c]⟩) σ H fun σ2 H2 => tb { D with nx := Pv (i + 1), ct := Pv (i + 1), bk := D.nx } σ2 H2)
    (hd : ∀ σ H, Pv z.cps.size σ H → D.nx σ H) : LoopG (Its z) g tb D σ H := by
  refine for_it walk_str Pv h0 (fun _ _ _ _ _ => True.intro) (fun i v σ H H' hi p y => ?_) hd
  obtain ⟨rfl, c, e, rfl⟩ := y
  exact hs i c σ H' (by rw [Array.getElem?_toList]; exact e) p
/-! ### number_in_log -/
def figs : Str := "0123456789"
def fig (w : Str) : Str := if cutS w none (some 1) = "-" then cutS w (some 1) none else w
def f0 (f : Str) : Bool := match f.cps.toList with
  | c :: _ => decide ((⟨#[c]⟩ : Str) = "0")
  | [] => false
def numB (w : Str) : Bool := !decide (fig w = "") && (!decide (61 < ((fig w).length : Int)) && (!(f0 (fig w) && !decide (w = "0")) && (fig w).cps.toList.all fun c => decide (c ∈ figs.cps.toList)))
theorem fig_len (w : Str) : (fig w).length ≤ w.length := by
  unfold fig
  split
  · exact cutS_length _ _ _
  · exact Nat.le_refl _
/-- what is asked of a word -/
structure WordOk (w : Str) : Prop where
  n : numB w = true → ∃ n, PySem.intText? w = some n
  l : w.length ≤ 200
theorem str_nil {f : Str} (h : f.cps.toList = []) : f = "" := str_ext (by rw [h]; rfl)
theorem c_number {w : Str} (ok : WordOk w) (h0 : numB w = false → Q .non H) (h1 : numB w = true → ∀ n, Q (.int n) H) : sp_number_in_log K [.str w] H Q E := by
  have hl := ok.l
  have main : ∀ (De : Ends), (numB w = false → De.rt .non H) → (numB w = true → ∀ n, De.rt (.int n) H) →
      (tSeq (tIfS (tOr (tTest (tOp rEq (tVar 1) (tC (.str "")))) (tOr (tTest (tOp oGt (tCB cLenStr (tCons (tVar 1) tNil)) (tC (.int 61)))) (tAnd (tTest (tOp rEq (tOp rIxS (tVar 1) (tC (.int 0))) (tC (.str "0")))) (tTest (tOp rNe (tVar 0) (tC (.str "0"))))))) (tRet (tC .non)) tNext)
 (tSeq (tFor (iStr (tVar 1)) (gName 2) (tIfS (tTest (tOp oNotInSign (tVar 2) (tC (.str "0123456789")))) (tRet (tC .non)) tNext))
 (tRet (tCB cIntStr (tCons (tVar 0) tNil))))) De [some (.str w), some (.str (fig w)), none] H := by
    intro De h0 h1
    have fl := fig_len w
    unfold numB at h0 h1
    walk_at "vv"
    refine x_iteS (fun he => ?_) fun hne => ?_
    · walk_at "vv"
      exact h0 (by rw [decide_eq_true he]; rfl)
    walk_at "vv"
    refine x_lenS (by omega) ?_
    walk_at "vv"
    rw [decide_eq_false hne] at h0 h1
    refine x_ite (fun hg => ?_) fun hng => ?_
    · walk_at "vv"
      exact h0 (by rw [decide_eq_true hg]; rfl)
    rw [decide_eq_false hng] at h0 h1
    obtain ⟨c, r, ec⟩ : ∃ c r, (fig w).cps.toList = c :: r := by
      cases e : (fig w).cps.toList with
      | nil => exact absurd (str_nil e) hne
      | cons c r => exact ⟨c, r, rfl⟩
    have ef : f0 (fig w) = decide ((⟨#[c]⟩ : Str) = "0") := by unfold f0; rw [ec]
    rw [ef] at h0 h1
    -- the signs
    have loop : (!(decide ((⟨#[c]⟩ : Str) = "0") && !decide (w = "0"))) = true → (tSeq (tFor (iStr (tVar 1)) (gName 2) (tIfS (tTest (tOp oNotInSign (tVar 2) (tC (.str "0123456789")))) (tRet (tC .non)) tNext))
 (tRet (tCB cIntStr (tCons (tVar 0) tNil)))) De [some (.str w), some (.str (fig w)), none] H := by
      intro hz
      rw [hz] at h0 h1
      walk_at "vv"
      refine x_iStr0 ?_
      walk_at "vv"
      refine ⟨fig w, rfl, ?_⟩
      refine L_str (fun i σ H' => H' = H ∧ (∃ v, σ = [some (.str w), some (.str (fig w)), v]) ∧ ∀ c ∈ (fig w).cps.toList.take i, c ∈ figs.cps.toList) ⟨rfl, ⟨_, rfl⟩, fun c hc => by simp at hc⟩ ?_ ?_
      · rintro i c σ H' hi ⟨rfl, ⟨v, rfl⟩, ok2⟩
        show tIfS _ _ _ _ _ _
        walk_at "vv"
        refine ⟨c, figs, rfl, rfl, ?_⟩
        walk_at "vv"
        refine x_iteN (fun hn => ?_) fun hy => ?_
        · walk_at "vv"
          refine h0 ?_
          have : (fig w).cps.toList.all (fun c => decide (c ∈ figs.cps.toList)) = false := by
            rw [List.all_eq_false]
            exact ⟨c, List.mem_of_getElem? hi, by simpa using hn⟩
          rw [this]; rfl
        · walk_at "vv"
          refine ⟨rfl, ⟨_, rfl⟩, fun c' hc' => ?_⟩
          rw [take_snoc hi] at hc'
          rcases List.mem_append.mp hc' with z | z
          · exact ok2 c' z
          · rw [List.mem_singleton] at z; rw [z]; exact hy
      · rintro σ H' ⟨rfl, ⟨v, rfl⟩, ok2⟩
        have ha : (fig w).cps.toList.all (fun c => decide (c ∈ figs.cps.toList)) = true := by
          rw [List.all_eq_true]
          intro c hc
          refine decide_eq_true (ok2 c ?_)
          rw [List.take_of_length_le (by rw [Array.length_toList]; exact Nat.le_refl _)]
          exact hc
        rw [ha] at h1
        have hnum : numB w = true := by
          unfold numB
          rw [decide_eq_false hne, decide_eq_false hng, ef, hz, ha]; rfl
        obtain ⟨n, hn⟩ := ok.n hnum
        walk_at "vv"
        exact ⟨w, n, rfl, hn, by omega, h1 rfl n⟩
    walk_at "vv"
    refine x_ixS (by omega) (c := c) (atI_nat (n := 0) (by rw [ec]; rfl)) ?_
    walk_at "vv"
    refine x_iteS (fun hc => ?_) fun hnc => ?_
    · walk_at "vv"
      refine x_iteSN (fun hn => ?_) fun hy => ?_
      · walk_at "vv"
        exact h0 (by rw [decide_eq_true hc, decide_eq_false hn]; rfl)
      · exact loop (by rw [decide_eq_true hc, decide_eq_true hy]; rfl)
    · exact loop (by rw [decide_eq_false hnc]; rfl)
  refine i_number_in_log ?_
  unfold t_number_in_log
  walk_at "vv"
  refine x_slS (by omega) ?_
  walk_at "vv"
  refine x_iteS (fun he => ?_) fun hne => ?_
  · walk_at "vv"
    refine x_slS (by omega) ?_
    have e : fig w = cutS w (some 1) none := by unfold fig; rw [if_pos he]
    rw [← e]
    exact main _ h0 h1
  · have e : fig w = w := by unfold fig; rw [if_neg hne]
    have m := main { nx := fun _ H' => Q .non H', rt := Q } h0 h1
    rw [e] at m
    exact m
end P75

set_option Elab.async false
set_option linter.all false
set_option maxRecDepth 100000
set_option maxHeartbeats 1000000
namespace P75
open PySem PySem.Spec PyProof.Rows L2 SX0 R_k75
variable {K : PySem.W.Frag} {H : Hp} {Q : VK} {E : XK} {σ : L2.St} {D : Ends}
theorem x_iteI {a b : Int} {A B : Prop} (h1 : a = b → A) (h2 : ¬ a = b → B) : if decide (V.int a = V.int b) = true then A else B := by
  by_cases z : a = b
  · rw [if_pos (by rw [z]; exact decide_eq_true rfl)]; exact h1 z
  · rw [if_neg (by simp [z])]; exact h2 z
theorem x_iteIN {a b : Int} {A B : Prop} (h1 : ¬ a = b → A) (h2 : a = b → B) : if (!decide (V.int a = V.int b)) = true then A else B := by
  by_cases z : a = b
  · rw [if_neg (by simp [z])]; exact h2 z
  · rw [if_pos (by simp [z])]; exact h1 z
def roomB : List Str → Bool
  | [_, b, c] => (decide (c = "young") || decide (c = "old")) && numB b
  | _ => false
theorem roomB3 (a b c : Str) : roomB [a, b, c] = ((decide (c = "young") || decide (c = "old")) && numB b) := rfl
theorem roomB_len {ws : List Str} (h : ws.length ≠ 3) : roomB ws = false := by
  unfold roomB
  split
  · exact absurd rfl h
  · rfl
theorem inV_two (c a b : Str) : inV (.str c) [.str a, .str b] = (decide (c = a) || decide (c = b)) := by
  have e : ∀ x y : Str, eqV (.str x) (.str y) = decide (y = x) := fun x y => by
    by_cases h : y = x
    · subst h; simp [eqV]
    · have h2 : ¬ x = y := fun z => h z.symm
      simp [eqV, h, h2]
  simp only [inV, List.any_cons, List.any_nil, e, Bool.or_false]
theorem strs_at {ws : List Str} {n : Nat} {w : Str} (h : ws[n]? = some w) : atI (ws.map V.str) (n : Int) = some (.str w) := atI_nat (by rw [List.getElem?_map, h]; rfl)
theorem c_room {p : Addr} {ws : List Str} (hp : SqL K H p (ws.map V.str)) (ok : ∀ w ∈ ws, WordOk w) (h0 : roomB ws = false → ∀ H', Same H H' → Q .non H') (h1 : roomB ws = true → ∀ q H', Same H H' → Q (.ref q) H') : sp_room_in_log K [.ref p] H Q E := by
  refine i_room_in_log ?_
  unfold t_room_in_log
  walk_at "vv"
  refine x_lenL hp ?_
  walk_at "vv"
  rw [List.length_map]
  refine x_iteIN (fun hn => ?_) fun hy => ?_
  · walk_at "vv"
    exact h0 (roomB_len (by omega)) H (Same.refl _)
  obtain ⟨a, b, c, rfl⟩ : ∃ a b c, ws = [a, b, c] := by
    match ws, hy with
    | [a, b, c], _ => exact ⟨a, b, c, rfl⟩
    | [], h => simp at h
    | [_], h => simp at h
    | [_, _], h => simp at h
    | _ :: _ :: _ :: _ :: _, h => simp at h; omega
  have okb := ok b (by simp)
  walk_at "vv"
  refine x_ixL hp (v := .str c) rfl ?_
  walk_at "vv"
  refine ⟨sl (m := 2) (Nat.le_refl _), fun q hq => ?_⟩
  have s1 := Same.new (o := .tup [.str "young", .str "old"]) hq
  refine ⟨q, _, rfl, .inr (SqT.of upd_same), rfl, rfl, ?_⟩
  rw [inV_two]
  walk_at "vv"
  refine x_iteB (fun hb => ?_) fun hb => ?_
  · walk_at "vv"
    have hb' : (decide (c = "young") || decide (c = "old")) = false := by
      have h2 : (!(decide (c = "young") || decide (c = "old"))) = true := hb
      rwa [Bool.not_eq_true'] at h2
    exact h0 (by rw [roomB3, hb']; rfl) _ s1
  have hb' : (decide (c = "young") || decide (c = "old")) = true := by
    have h2 : (!(decide (c = "young") || decide (c = "old"))) = false := hb
    rwa [Bool.not_eq_false'] at h2
  walk_at "vv"
  refine x_ixL (Same.sql s1 hp) (v := .str b) rfl ?_
  walk_at "vv"
  refine c_number okb (fun hf => ?_) fun ht n => ?_
  · walk_at "vv"
    exact h0 (by rw [roomB3, hb', hf]; rfl) _ s1
  · walk_at "vv"
    refine x_iteF ?_
    walk_at "vv"
    refine x_ixL (Same.sql s1 hp) (v := .str b) rfl ?_
    walk_at "vv"
    refine c_number okb (fun hf => by rw [ht] at hf; cases hf) fun _ n2 => ?_
    walk_at "vv"
    refine x_ixL (Same.sql s1 hp) (v := .str c) rfl ?_
    walk_at "vv"
    refine ⟨sl (m := 3) (Nat.le_refl _), fun q2 hq2 => ?_⟩
    exact h1 (by rw [roomB3, hb', ht]; rfl) q2 _ (Same.trans s1 (Same.new hq2))
/-! ### row_in_log -/
def PARTS : List (Str × Int) := [("load", 3), ("store", 3), ("copy", 2), ("drop", 1), ("number", 2), ("name", 2), ("read", 2), ("word", 2), ("make", 4), ("small", 0), ("begin", 0), ("shade", 1), ("look", 2), ("move", 2), ("end", 0)]
def rowW : List Str → Bool
  | [] => false
  | w0 :: r => if w0 = "room" then roomB (w0 :: r) else match PARTS.lookup w0 with
    | none => false
    | some n => decide ((r.length : Int) = n) && r.all numB
theorem cut1 {α : Type} (f : α → V) (a : α) (r : List α) : cutV ((a :: r).map f) (some 1) none = r.map f := by
  unfold cutV
  simp [HT.sIx]
  rw [List.take_of_length_le (by simp)]
theorem inV_app (x : V) (xs : List V) (y : V) : inV x (xs ++ [y]) = (inV x xs || eqV y x) := by
  simp [inV]
theorem c_row (pf : PF K) {t : Str} {ws : List Str} (hs : Txt.split t " " = ws) (hl : t.length ≤ 2000) (wl : ws.length ≤ 1000) (ok : ∀ w ∈ ws, WordOk w)
    (h0 : rowW ws = false → ∀ H', Same H H' → Q .non H') (h1 : rowW ws = true → ∀ q H', Same H H' → Q (.ref q) H') : sp_row_in_log K [.str t] H Q E := by
  refine i_row_in_log ?_
  unfold t_row_in_log
  walk_at "vv"
  refine x_m1 ?_
  walk_at "vv"
  refine ⟨⟨_, rfl⟩, ?_⟩
  walk_at "vv"
  refine ⟨t, " ", rfl, rfl, by decide +kernel, by rw [sizeLine_eq]; omega, fun p hp => ?_⟩
  rw [hs]
  have s1 : Same H (upd H p (.lst (ws.map V.str))) := Same.new hp
  have hpl := upd_same (H := H) (a := p) (o := .lst (ws.map V.str))
  generalize upd H p (.lst (ws.map V.str)) = H1 at s1 hpl
  obtain ⟨w0, r, rfl⟩ : ∃ w0 r, ws = w0 :: r := by
    cases ws with
    | nil => have := PyProof.Rows.split_pos t " "; rw [hs] at this; simp at this
    | cons a b => exact ⟨a, b, rfl⟩
  walk_at "vv"
  refine x_ixL (SqL.of hpl) (v := .str w0) (atI_nat (n := 0) rfl) ?_
  walk_at "vv"
  refine x_iteS (fun he => ?_) fun hne => ?_
  · walk_at "vv"
    have e : rowW (w0 :: r) = roomB (w0 :: r) := by
      show (if w0 = "room" then _ else _) = _
      rw [if_pos he]
    rw [e] at h0 h1
    exact c_room (SqL.of hpl) ok (fun hf H' s' => h0 hf H' (Same.trans s1 s')) fun ht q H' s' => h1 ht q H' (Same.trans s1 s')
  have er : rowW (w0 :: r) = match PARTS.lookup w0 with
    | none => false
    | some n => decide ((r.length : Int) = n) && r.all numB := by
    show (if w0 = "room" then _ else _) = _
    rw [if_neg hne]
  rw [er] at h0 h1
  obtain ⟨k1, k2⟩ := kd_ns pf.kd_PARTS_OF_ROWS w0
  walk_at "vv"
  refine x_ixL (SqL.of hpl) (v := .str w0) (atI_nat (n := 0) rfl) ?_
  walk_at "vv"
  cases hk : PARTS.lookup w0 with
  | none =>
    refine ⟨w0, none, rfl, rfl, k2 hk, ?_⟩
    walk_at "vv"
    refine x_iteT ?_
    walk_at "vv"
    exact h0 (by rw [hk]) _ s1
  | some n =>
    rw [hk] at h0 h1
    replace h0 : (decide ((r.length : Int) = n) && r.all numB) = false → ∀ H', Same H H' → Q .non H' := h0
    replace h1 : (decide ((r.length : Int) = n) && r.all numB) = true → ∀ q H', Same H H' → Q (.ref q) H' := h1
    obtain ⟨u, ku, ru⟩ := k1 n hk
    refine ⟨w0, some u, rfl, rfl, ku, ?_⟩
    walk_at "vv"
    refine x_iteF ?_
    walk_at "vv"
    refine x_lenL (SqL.of hpl) ?_
    walk_at "vv"
    refine x_ixL (SqL.of hpl) (v := .str w0) (atI_nat (n := 0) rfl) ?_
    refine ⟨w0, u, .int n, rfl, rfl, ku, ru, ?_⟩
    walk_at "vv"
    rw [List.length_map, List.length_cons]
    refine x_iteIN (fun hn => ?_) fun hy => ?_
    · walk_at "vv"
      exact h0 (by rw [decide_eq_false (by omega)]; rfl) _ s1
    have hr : (r.length : Int) = n := by omega
    walk_at "vv"
    refine x_slL (SqL.of hpl) fun c hc => ?_
    rw [cut1]
    have s2 := Same.trans s1 (Same.new (o := .lst (r.map V.str)) hc)
    have hcl := upd_same (H := H1) (a := c) (o := .lst (r.map V.str))
    have hpl2 := Same.new (o := .lst (r.map V.str)) hc _ _ hpl
    generalize upd H1 c (.lst (r.map V.str)) = H2 at s2 hcl hpl2
    refine x_gList (SqL.of hcl) ?_
    refine L_lcW (walk_list (xs := r.map V.str)) (fun D j acc H' => Same H2 H' ∧ acc.length = j ∧ acc.all flatV = true ∧ inV .non acc = !((r.take j).all numB)) (fun D hD => ⟨Same.new hD, rfl, rfl, rfl⟩) (fun D j acc H' h => SqL.of (h.1 _ _ hcl)) ?_ ?_
    · rintro D j x acc H3 H4 hD hj ⟨s3, al, af, ai⟩ hDl ⟨rfl, hx⟩ R hR _
      obtain ⟨w, hw, rfl⟩ := get_map hx
      have jl := lt_of_get hw
      rw [List.length_cons] at wl
      refine x_own (by simp) fun hown => ?_
      walk_at "vv"
      have step : ∀ v : V, flatV v = true → eqV v .non = !(numB w) → R (some v) H4 := fun v f1 f2 => by
        refine hR v _ hDl (by rw [al, sizeLine_eq]; omega) ⟨Same.put s3 hD, by simp [al], by rw [List.all_append, af]; simp [f1], ?_⟩
        rw [inV_app, ai, f2, take_snoc hw, List.all_append]
        simp [Bool.not_and]
      refine c_number (ok w (List.mem_cons_of_mem _ (List.mem_of_getElem? hw))) (fun hf => ?_) fun ht n => ?_
      · exact step .non rfl (by rw [hf]; rfl)
      · exact step (.int n) rfl (by rw [ht]; rfl)
    · rintro D acc H3 hD ⟨s3, al, af, ai⟩ hDl
      rw [List.length_map, List.take_length] at ai
      walk_at "vv"
      refine ⟨D, acc, rfl, .inl (SqL.of hDl), rfl, af, ?_⟩
      rw [ai]
      walk_at "vv"
      cases ha : r.all numB with
      | false =>
        refine x_iteT ?_
        walk_at "vv"
        exact h0 (by rw [ha, Bool.and_false]) _ (Same.trans s2 s3)
      | true =>
        refine x_iteF ?_
        walk_at "vv"
        refine x_ixL (SqL.of (s3 _ _ hpl2)) (v := .str w0) (atI_nat (n := 0) rfl) ?_
        walk_at "vv"
        refine ⟨sl (m := 1) (Nat.le_refl _), fun q1 hq1 => ?_⟩
        have s4 := Same.new (o := .lst [.str w0]) hq1
        walk_at "vv"
        have jl : acc.length ≤ 1000 := by rw [al, List.length_map]; rw [List.length_cons] at wl; omega
        refine x_cat (SqX.of upd_same) (SqX.of (s4 _ _ hDl)) (by rw [List.length_singleton, sizeLine_eq]; omega) fun q2 hq2 => ?_
        have s5 := Same.trans s4 (Same.new (o := .lst ([.str w0] ++ acc)) hq2)
        walk_at "vv"
        refine ⟨q2, _, rfl, .inl ⟨SqL.of upd_same, fun l hl => ?_⟩⟩
        exact h1 (by rw [decide_eq_true hr, ha]; rfl) l _ (Same.trans s2 (Same.trans s3 (Same.trans s5 (Same.new hl))))
end P75

set_option Elab.async false
set_option linter.all false
set_option maxRecDepth 100000
set_option maxHeartbeats 1000000
namespace P75
open PySem PySem.Spec PyProof.Rows L2 SX0 R_k75
variable {K : PySem.W.Frag} {H : Hp} {Q : VK} {E : XK} {σ : L2.St} {D : Ends}
abbrev BL (K : PySem.W.Frag) : Addr := He.ga K "BadLog"
theorem x_veI {ta : TA} (h : ta σ H fun vs H1 => ∃ (a C : Addr) (ws : List V), vs = .ref a :: ws ∧ ws.length ≤ 1000 ∧ OexC K C ∧ H1 a = some (exo a C none) ∧ Q .non H1) : tVeI K ta σ H Q := h
theorem x_ost {f : Str} {to te : TE} (h : te σ H fun y H1 => to σ H1 fun x H2 => ∃ a C : Addr, x = .ref a ∧ OexC K C ∧ PySem.W.findIn K (.ref C) f = some none ∧
  ((H2 a = some (exo a C none) ∧ ∀ dx, H2 dx = none → dx ≠ a → D.nx σ (upd (upd H2 dx (exd dx [(f, y)])) a (exo a C (some dx)))) ∨
    ∃ (dx : Addr) (fs : List (Str × V)), H2 a = some (exo a C (some dx)) ∧ H2 dx = some (exd dx fs) ∧ fs.length ≤ 900 ∧ D.nx σ (upd H2 dx (exd dx ((f, y) :: fs))))) : tOst K f to te D σ H := h
theorem c_init (pf : PF K) {a : Addr} {m : Str} {n : Int} (ha : H a = some (exo a (BL K) none)) (h : ∀ dx, H dx = none → dx ≠ a → Q .non (upd (upd H dx (exd dx [("row", .int n)])) a (exo a (BL K) (some dx)))) :
    sp_BadLog___init__ K [.ref a, .str m, .int n] H Q E := by
  refine i_BadLog___init__ ?_
  unfold t_BadLog___init__
  walk_at "vv"
  refine x_veI ?_
  walk_at "vv"
  refine ⟨a, BL K, [.str m], rfl, by simp, pf.oex_BadLog, ha, ?_⟩
  show tOst K "row" (tVar 0) (tVar 2) { nx := fun _ H' => Q .non H', rt := Q } [some (.ref a), some (.str m), some (.int n)] H
  refine x_ost ?_
  walk_at "vv"
  exact ⟨a, BL K, rfl, pf.oex_BadLog, pf.noat_BadLog_row, .inl ⟨ha, fun dx h1 h2 => h dx h1 h2⟩⟩
theorem x_rzo {C : Addr} {sp : Sp} {t : TA} {W : WX} (h : t σ H fun vs H1 => vs.length ≤ 1000 ∧ ∀ a, H1 a = none → sp (.ref a :: (vs ++ [])) (upd H1 a (exo a C none))
  (fun v H2 => v = .non ∧ ∃ (d : Addr) (fs : List (Str × V)), H2 a = some (exo a C (some d)) ∧ H2 d = some (exd d fs) ∧ H1 d = none ∧ W (.ref C) (some d) σ (upd (L2.del H2 a) d (.xd fs))) (fun _ _ _ => False)) : tRzO C sp t W D σ H := h
/-- a line -/
structure LineOk (t : Str) : Prop where
  w : ∀ w ∈ Txt.split t " ", WordOk w
  l : t.length ≤ 1000
def rowB (t : Str) : Bool := rowW (Txt.split t " ")
theorem split_short (t : Str) (h : t.length ≤ 900) : (Txt.split t " ").length ≤ 1000 := by
  have := PyProof.Rows.split_le t " "
  omega
theorem c_row' (pf : PF K) {t : Str} (ok : LineOk t) (hl : t.length ≤ 900) (h0 : rowB t = false → ∀ H', Same H H' → Q .non H') (h1 : rowB t = true → ∀ q H', Same H H' → Q (.ref q) H') : sp_row_in_log K [.str t] H Q E :=
  c_row pf rfl (by omega) (split_short t hl) ok.w h0 h1
theorem c_read_log (pf : PF K) {t : Str} {ls : List Str} (hs : Txt.split t "\n" = ls) (hl : t.length ≤ 1000000) (ll : ls.length ≤ 1000) (ok : ∀ l ∈ ls, LineOk l ∧ l.length ≤ 900)
    (h1 : (∀ l ∈ ls, rowB l = true) → ∀ q H', Same H H' → Q (.ref q) H')
    (h2 : ∀ (i : Nat) l, ls[i]? = some l → rowB l = false → (∀ l ∈ ls.take i, rowB l = true) → ∀ dd H', Same H H' → H' dd = some (.xd [("row", .int ((i : Int) + 1))]) → E (.ref (BL K)) (some dd) H') : sp_read_log K [.str t] H Q E := by
  refine i_read_log ?_
  unfold t_read_log
  walk_at "vv"
  refine ⟨sl (m := 0) (Nat.le_refl _), fun L hL => ?_⟩
  have s1 : Same H (upd H L (.lst [])) := Same.new hL
  have hLl := upd_same (H := H) (a := L) (o := .lst [])
  walk_at "vv"
  refine x_m1 ?_
  walk_at "vv"
  refine ⟨⟨_, rfl⟩, ?_⟩
  walk_at "vv"
  refine ⟨t, "\n", rfl, rfl, by decide +kernel, by rw [sizeLine_eq]; omega, fun p hp => ?_⟩
  rw [hs]
  have s2 := Same.trans s1 (Same.new (o := .lst (ls.map V.str)) hp)
  have hpl := upd_same (H := upd H L (.lst [])) (a := p) (o := .lst (ls.map V.str))
  have nLp : L ≠ p := ne_of_none hLl hp
  have hLl2 := Same.new (o := .lst (ls.map V.str)) hp _ _ hLl
  generalize upd (upd H L (.lst [])) p (.lst (ls.map V.str)) = H2 at s2 hpl hLl2
  walk_at "vv"
  refine x_gEnum (SqL.of hpl) ?_
  refine L_enum (xs := ls.map V.str) (fun i σ H' => ∃ (rs : List V) (a2 a3 a4 : Option L2.V), σ = [some (.str t), some (.ref L), a2, a3, a4] ∧ Same H H' ∧ H' L = some (.lst rs) ∧ H' p = some (.lst (ls.map V.str)) ∧ rs.length = i ∧ ∀ l ∈ ls.take i, rowB l = true)
    ⟨[], _, _, _, rfl, s2, hLl2, hpl, rfl, fun l hl => by simp at hl⟩ (fun i σ H' _ ⟨_, _, _, _, _, _, _, q, _⟩ => SqL.of q) ?_ ?_
  · rintro i x T σ H' hi ⟨rs, a2, a3, a4, rfl, s3, hLl3, hpl3, rl, good⟩ hT
    obtain ⟨l, hl', rfl⟩ := get_map hi
    have lm := List.mem_of_getElem? hl'
    have il := lt_of_get hl'
    have s4 := Same.new (o := .tup [.int (i : Nat), .str l]) hT
    show tSeq _ _ _ _ _
    walk_at "vv"
    refine c_row' pf (ok l lm).1 (ok l lm).2 (fun hf H4 s5 => ?_) fun ht q H4 s5 => ?_
    · walk_at "vv"
      refine x_iteT ?_
      refine x_rzo ?_
      walk_at "vv"
      refine ⟨by simp, fun a ha => ?_⟩
      have s6 := Same.trans s3 (Same.trans s4 s5)
      refine c_init pf upd_same fun dx hdx hne => ?_
      have hdx4 : H4 dx = none := by rw [upd_ne hne] at hdx; exact hdx
      refine ⟨rfl, dx, [("row", .int ((i : Nat) + 1))], upd_same, by rw [upd_ne hne]; exact upd_same, hdx4, ?_⟩
      refine h2 i l hl' hf good dx _ (fun b o e => ?_) upd_same
      have e4 := s6 _ _ e
      have n1 : b ≠ dx := ne_of_none e4 hdx4
      have n2 : b ≠ a := ne_of_none e4 ha
      rw [upd_ne n1, L2.del_ne n2, upd_ne n2, upd_ne n1, upd_ne n2]
      exact e4
    · walk_at "vv"
      refine x_iteF ?_
      walk_at "vv"
      have s6 := Same.trans s4 s5
      refine ⟨x_tyL (s6 _ _ hLl3), ?_⟩
      walk_at "vv"
      refine x_append (s6 _ _ hLl3) (by rw [rl, sizeLine_eq]; omega) ?_
      refine ⟨rs ++ [.ref q], _, _, _, rfl, Same.put (Same.trans s3 s6) hL, upd_same, by rw [upd_ne nLp.symm]; exact s6 _ _ hpl3, by simp [rl], fun l' hl2 => ?_⟩
      rw [take_snoc hl'] at hl2
      rcases List.mem_append.mp hl2 with z | z
      · exact good l' z
      · rw [List.mem_singleton] at z; rw [z]; exact ht
  · rintro σ H' ⟨rs, a2, a3, a4, rfl, s3, hLl3, hpl3, rl, good⟩
    rw [List.length_map, List.take_length] at good
    walk_at "vv"
    exact h1 good L H' s3
theorem kitAny3 (pf : PF K) : PySem.W.kitAny K (.ref (BL K)) [.ref (He.ga K "BadAddress"), .ref (He.ga K "BadText"), .ref (He.ga K "BadView")] = some false := by
  simp only [PySem.W.kitAny, pf.kit_BadLog_BadAddress, pf.kit_BadLog_BadText, pf.kit_BadLog_BadView]
theorem x_tryT {c : Value} {i : Nat} {tb : WX → TS} {ts : TS} {Wout : WX} (h : tb (wAsT K c i ts Wout D) D σ H) : tTryT K c i tb ts Wout D σ H := h
theorem x_xmU {alts : List XAlt} {m : Str} {W : WX} {ta : TE} (h : ta σ H fun x H1 => ∃ al ∈ alts, ∃ a fs, x = .ref a ∧ KeptX H1 a al.C fs ∧ fs.lookup m = none ∧ al.sp [x] H1 Q (WE W σ)) : tXmU alts m W ta σ H Q := h
theorem x_xfd {Cs : List Addr} {f : Str} {ta : TE} (h : ta σ H fun x H1 => ∃ a C fs v, x = .ref a ∧ C ∈ Cs ∧ KeptX H1 a C fs ∧ fs.lookup f = some v ∧ Q v H1) : tXfd Cs f ta σ H Q := h
/-- what read_log says of a text -/
theorem c_row_of (pf : PF K) {t : Str} {ls : List Str} (hs : Txt.split t "\n" = ls) (hl : t.length ≤ 1000000) (ll : ls.length ≤ 1000) (ok : ∀ l ∈ ls, LineOk l ∧ l.length ≤ 900)
    (h1 : (∀ l ∈ ls, rowB l = true) → ∀ H', Same H H' → Q (.int 0) H')
    (h2 : ∀ (i : Nat) l, ls[i]? = some l → rowB l = false → (∀ l ∈ ls.take i, rowB l = true) → ∀ H', Same H H' → Q (.int ((i : Int) + 1)) H') : sp__law_row_of K [.str t] H Q E := by
  refine i__law_row_of ?_
  unfold t__law_row_of
  walk_at "vv"
  refine x_tryT ?_
  walk_at "vv"
  refine c_read_log pf hs hl ll ok (fun good q H' s' => ?_) fun i l hi hf good dd H' s' hdd => ?_
  · walk_at "vv"
    refine x_iteT ?_
    walk_at "vv"
    exact h1 good H' s'
  · refine ⟨true, pf.exm_BadLog_HeapError, fun _ a ha => ?_, fun z => by cases z⟩
    have nda : dd ≠ a := ne_of_none hdd ha
    have s2 := Same.trans s' (Same.new (o := xob a (.ref (BL K)) (some dd)) ha)
    have kx : KeptX (upd H' a (xob a (.ref (BL K)) (some dd))) a (BL K) [("row", .int ((i : Int) + 1))] := .full upd_same (by rw [upd_ne nda]; exact hdd)
    generalize upd H' a (xob a (.ref (BL K)) (some dd)) = H2 at s2 kx
    walk_at "vv"
    refine x_iteF ?_
    walk_at "vv"
    refine ⟨_, _, _, _, true, rfl, .own _, .exc pf.excC_BadLog kx, pf.kit_BadLog_BadLog, ?_⟩
    walk_at "vv"
    refine x_iteF ?_
    walk_at "vv"
    refine ⟨_, _, _, _, true, rfl, .ty _, .exc pf.excC_BadLog kx, pf.kit_BadLog_ValueError, ?_⟩
    walk_at "vv"
    refine x_iteF ?_
    walk_at "vv"
    refine x_xmU ?_
    walk_at "vv"
    refine ⟨_, List.mem_cons_of_mem _ List.mem_cons_self, a, _, rfl, kx, rfl, i_BadLog_called ?_⟩
    unfold t_BadLog_called
    walk_at "vv"
    refine x_iteSN (fun hn => absurd rfl hn) fun _ => ?_
    walk_at "vv"
    refine ⟨sl (m := 3) (Nat.le_refl _), fun q hq => ?_⟩
    have s3 := Same.new (o := .tup [.ref (He.ga K "BadAddress"), .ref (He.ga K "BadText"), .ref (He.ga K "BadView")]) hq
    have kx3 : KeptX (upd H2 q (.tup [.ref (He.ga K "BadAddress"), .ref (He.ga K "BadText"), .ref (He.ga K "BadView")])) a (BL K) [("row", .int ((i : Int) + 1))] := by
      cases kx with
      | full e ed => exact .full (s3 _ _ e) (s3 _ _ ed)
    refine ⟨_, q, _, _, _, false, rfl, upd_same, .cons (.own _) (.cons (.own _) (.cons (.own _) .nil)), .exc pf.excC_BadLog kx3, kitAny3 pf, ?_⟩
    walk_at "vv"
    refine x_xfd ?_
    walk_at "vv"
    refine ⟨a, BL K, _, _, rfl, List.mem_cons_self, kx3, rfl, ?_⟩
    walk_at "vv"
    refine ⟨_, _, _, _, false, rfl, .ty _, .base (.base (.int _)), rfl, ?_⟩
    walk_at "vv"
    refine x_xfd ?_
    walk_at "vv"
    exact ⟨a, BL K, _, _, rfl, List.mem_cons_self, kx3, rfl, h2 i l hi hf good _ (Same.trans s2 s3)⟩
end P75

set_option Elab.async false
set_option linter.all false
set_option maxRecDepth 100000
set_option maxHeartbeats 1000000
namespace P75
open PySem PySem.Spec PyProof.Rows L2 SX0 R_k75
def N61 : Str := repS "9" 61
def WS : List (List Str) := [["load", "1", "2", "0"], ["store", "3", "0", "1"], ["copy", "4", "5"], ["drop", "7"], ["number", "2", "-31"], ["name", "0", "6"], ["read", "1", "1"], ["word", "2", "900"],
  ["make", "3", "2", "17", "40"], ["small"], ["begin"], ["shade", "17"], ["look", "17", "1"], ["move", "17", "80"], ["end"], ["room", "90", "young"], ["number", "3", N61], ["word", "1", "-" ++ N61], ["room", "64", "old"]]
def O1 : List Str := ["", "00", "01", "-0", "+1", "1_0", "1.0", "x", "1x", "--1", "-", "True", "None", "(1,)", "1,", "0x1", "~"]
def O2 (k : Nat) : List Str := ["1e3", "-01", "young0", repS "9" (62 + k), "-" ++ repS "9" 62]
def O3 : List Str := ["1e3", "-01", "young0", "-" ++ repS "9" 62]
def ODDS : List Str := O1 ++ (O3 ++ (List.range 9).map fun k => repS "9" (62 + k))
def wd (w : Str) : Bool := !(w.cps.toList.contains 32) && (!(w.cps.toList.contains 10) && (decide (w.length ≤ 80) && (!(numB w) || (PySem.intText? w).isSome)))
def okW (b : Bool) (vs : List Str) : Bool := !vs.isEmpty && (vs.all wd && (decide (rowW vs = b) && decide (vs.length ≤ 10)))
def em : Str := ""
def yg : Str := "young"
def L3 : List Str := ["3"]
def LE : List Str := [""]
def LY1 : List Str := ["young", "1"]
def sh : Str := "shades"
def xx : Str := "x"
def dbl (ws : List Str) : List Str := if ws.length = 1 then ws ++ LE else (ws.flatMap fun w => [w, em]).dropLast
def v5 (ws : List Str) : List Str := if ws.length < 2 then ws ++ LY1 else ws.take 1 ++ (yg :: ws.drop 2)
def chk (ws : List Str) : Bool := okW true ws && (okW false (sh :: ws.drop 1) && (okW false (ws ++ L3) && ((decide (ws.length ≤ 1) || okW false ws.dropLast) && (okW false (dbl ws) && (okW false (em :: ws) && (okW false (ws ++ LE) && (okW false (v5 ws) &&
  okW false (ws.map Txt.upper))))))))
def chk2 (ws : List Str) : Bool := (ODDS.all fun o => okW false ((o ++ xx ++ ws.headD em) :: ws.drop 1)) && ((List.range ws.length).all fun a => decide (a = 0) || ODDS.all fun o => okW false (ws.take a ++ (o :: ws.drop (a + 1))))
def S2 : Str := "  "
def S1 : Str := " 1"
def S3 : Str := " 3"
def J (ws : List Str) : Str := Txt.join " " ws
def eqs (ws : List Str) : Bool := decide (J ws ++ S3 = J (ws ++ L3)) && (decide (Txt.replace (J ws) SP S2 ++ (if ws.length = 1 then SP else em) = J (dbl ws)) && (decide (SP ++ J ws = J (em :: ws)) && (decide (J ws ++ SP = J (ws ++ LE)) &&
  (decide (J (ws.take 1 ++ (yg :: ws.drop 2)) ++ (if ws.length < 2 then S1 else em) = J (v5 ws)) && (decide (Txt.upper (J ws) = J (ws.map Txt.upper)) && decide (ws.length ≤ 5))))))
theorem chk_all : WS.all chk = true := by decide +kernel
theorem eqs_all : WS.all eqs = true := by decide +kernel
theorem chk2_all : WS.all chk2 = true := by decide +kernel
theorem sub_odds : (List.range 9).all (fun k => (O1 ++ O2 k).all fun o => ODDS.contains o) = true := by decide +kernel
end P75

set_option Elab.async false
set_option linter.all false
set_option maxRecDepth 100000
set_option maxHeartbeats 1000000
namespace P75
open PySem PySem.Spec PyProof.Rows L2 SX0 R_k75
variable {K : PySem.W.Frag} {H : Hp} {Q : VK} {E : XK} {σ : L2.St} {D : Ends}
theorem okW_parts {b : Bool} {vs : List Str} (h : okW b vs = true) : vs ≠ [] ∧ (∀ w ∈ vs, wd w = true) ∧ rowW vs = b ∧ vs.length ≤ 10 := by
  unfold okW at h
  rw [Bool.and_eq_true, Bool.and_eq_true, Bool.and_eq_true] at h
  obtain ⟨h1, h2, h3, h4⟩ := h
  refine ⟨fun z => ?_, List.all_eq_true.mp h2, of_decide_eq_true h3, of_decide_eq_true h4⟩
  rw [z] at h1; cases h1
theorem wd_parts {w : Str} (h : wd w = true) : 32 ∉ w.cps.toList ∧ 10 ∉ w.cps.toList ∧ w.length ≤ 80 ∧ WordOk w := by
  unfold wd at h
  rw [Bool.and_eq_true, Bool.and_eq_true, Bool.and_eq_true] at h
  obtain ⟨h1, h2, h3, h4⟩ := h
  have l := of_decide_eq_true h3
  refine ⟨by simpa using h1, by simpa using h2, l, fun hn => ?_, by omega⟩
  rw [hn] at h4
  exact Option.isSome_iff_exists.mp (by simpa using h4)
theorem mem_join (c : Nat) : ∀ (vs : List Str) (x : Nat), x ∈ (Str.join ⟨#[c]⟩ vs).cps.toList → x = c ∨ ∃ w ∈ vs, x ∈ w.cps.toList
  | [], x, h => by cases h
  | [a], x, h => .inr ⟨a, List.mem_cons_self, h⟩
  | a :: b :: r, x, h => by
    rw [tl_join] at h
    rcases List.mem_append.mp h with z | z
    · exact .inr ⟨a, List.mem_cons_self, z⟩
    · rcases List.mem_cons.mp z with y | y
      · exact .inl y
      · rcases mem_join c (b :: r) x y with q | ⟨w, q1, q2⟩
        · exact .inl q
        · exact .inr ⟨w, List.mem_cons_of_mem _ q1, q2⟩
theorem sum_le : ∀ (vs : List Str) (n : Nat), (∀ w ∈ vs, w.length ≤ n) → (vs.map (·.length)).sum ≤ vs.length * n
  | [], n, _ => by simp
  | a :: r, n, h => by
    have i := sum_le r n fun w hw => h w (List.mem_cons_of_mem _ hw)
    have j := h a List.mem_cons_self
    rw [List.map_cons, List.sum_cons, List.length_cons, Nat.succ_mul]
    omega
theorem J_eq (vs : List Str) : J vs = Str.join ⟨#[32]⟩ vs := by
  unfold J
  show Builtin.Str.glued SP vs = _
  rw [PySem.StrLaws.glued_eq_join, SP_eq]
structure Ln (t : Str) (b : Bool) : Prop where
  ex : ∃ vs, t = J vs ∧ okW b vs = true
structure LnF (t : Str) (b : Bool) : Prop where
  ok : LineOk t
  row : rowB t = b
  nl : 10 ∉ t.cps.toList
  len : t.length ≤ 900
theorem Ln.f {t : Str} {b : Bool} (h : Ln t b) : LnF t b := by
  obtain ⟨vs, rfl, h'⟩ := h.ex
  obtain ⟨h1, h2, h3, h4⟩ := okW_parts h'
  have sp : Txt.split (J vs) " " = vs := split_words h1 fun w hw => (wd_parts (h2 w hw)).1
  have l1 := PySem.StrLaws.join_length_le ⟨#[32]⟩ vs
  have l2 := sum_le vs 80 fun w hw => (wd_parts (h2 w hw)).2.2.1
  have l3 : (⟨#[32]⟩ : Str).length = 1 := rfl
  rw [l3, ← J_eq] at l1
  have len : (J vs).length ≤ 900 := by omega
  refine ⟨⟨fun w hw => ?_, by omega⟩, ?_, fun z => ?_, len⟩
  · rw [sp] at hw; exact (wd_parts (h2 w hw)).2.2.2
  · unfold rowB; rw [sp]; exact h3
  · rw [J_eq] at z
    rcases mem_join 32 vs 10 z with y | ⟨w, y1, y2⟩
    · cases y
    · exact (wd_parts (h2 w y1)).2.1 y2
/-! ### texts of lines -/
abbrev N (ys : List Str) : Str := Txt.join "\n" ys
theorem N_eq (ys : List Str) : N ys = Str.join ⟨#[10]⟩ ys := by
  show Builtin.Str.glued NL ys = _
  rw [PySem.StrLaws.glued_eq_join, NL_eq]
theorem N_len {ys : List Str} (h : ∀ t ∈ ys, t.length ≤ 900) (hl : ys.length ≤ 100) : (N ys).length ≤ 1000000 ∧ (ys.map (·.length)).sum + ys.length * ("\n" : Str).length ≤ 16777216 := by
  have l1 := PySem.StrLaws.join_length_le ⟨#[10]⟩ ys
  have l2 := sum_le ys 900 h
  have l3 : (⟨#[10]⟩ : Str).length = 1 := rfl
  have l4 : ("\n" : Str).length = 1 := by decide +kernel
  rw [l3, ← N_eq] at l1
  rw [l4]
  omega
theorem c_rows_good (pf : PF K) {ys : List Str} (hn : ys ≠ []) (hl : ys.length ≤ 100) (hg : ∀ t ∈ ys, Ln t true) (h : ∀ H', Same H H' → Q (.int 0) H') : sp__law_row_of K [.str (N ys)] H Q E := by
  refine c_row_of pf (split_lines hn fun t ht => (hg t ht).f.nl) (N_len (fun t ht => (hg t ht).f.len) hl).1 (by omega) (fun t ht => ⟨(hg t ht).f.ok, (hg t ht).f.len⟩) (fun _ => h) fun i t hi hf _ => ?_
  have := (hg t (List.mem_of_getElem? hi)).f.row
  rw [hf] at this; cases this
theorem c_rows_bad (pf : PF K) {pre post : List Str} {t : Str} (hl : (pre ++ t :: post).length ≤ 100) (hg : ∀ u ∈ pre, Ln u true) (hb : Ln t false) (hp : ∀ u ∈ post, ∃ b, Ln u b) (h : ∀ H', Same H H' → Q (.int ((pre.length : Int) + 1)) H') :
    sp__law_row_of K [.str (N (pre ++ t :: post))] H Q E := by
  have all : ∀ u ∈ pre ++ t :: post, ∃ b, Ln u b := fun u hu => by
    rcases List.mem_append.mp hu with z | z
    · exact ⟨_, hg u z⟩
    · rcases List.mem_cons.mp z with y | y
      · exact ⟨_, y ▸ hb⟩
      · exact hp u y
  refine c_row_of pf (split_lines (by simp) fun u hu => (all u hu).choose_spec.f.nl) (N_len (fun u hu => (all u hu).choose_spec.f.len) hl).1 (by omega) (fun u hu => ⟨(all u hu).choose_spec.f.ok, (all u hu).choose_spec.f.len⟩) (fun hall => ?_) fun i u hi hf hlt H' s' => ?_
  · have := hall t (by simp)
    rw [hb.f.row] at this; cases this
  · have e : i = pre.length := by
      rcases Nat.lt_trichotomy i pre.length with z | z | z
      · rw [List.getElem?_append_left z] at hi
        have := (hg u (List.mem_of_getElem? hi)).f.row
        rw [hf] at this; cases this
      · exact z
      · have hm : t ∈ (pre ++ t :: post).take i := by
          have e2 : (pre ++ t :: post)[pre.length]? = some t := by simp
          have e3 : ((pre ++ t :: post).take i)[pre.length]? = some t := by rw [List.getElem?_take_of_lt z]; exact e2
          exact List.mem_of_getElem? e3
        have := hlt t hm
        rw [hb.f.row] at this; cases this
    rw [e]
    exact h H' s'
/-! ### the lines -/
def SOME : List Str := (WS.take 18).map J
theorem some_len : SOME.length = 18 := by decide +kernel
theorem ws_chk {ws : List Str} (h : ws ∈ WS) : chk ws = true := List.all_eq_true.mp chk_all ws h
theorem ws_good {ws : List Str} (h : ws ∈ WS) : okW true ws = true := by
  have := ws_chk h
  unfold chk at this
  exact (Bool.and_eq_true_iff.mp this).1
/-- a line of the table -/
def Tab (t : Str) : Prop := ∃ ws ∈ WS, t = J ws
theorem Tab.ln {t : Str} (h : Tab t) : Ln t true := by
  obtain ⟨ws, hw, rfl⟩ := h
  exact ⟨ws, rfl, ws_good hw⟩
theorem some_tab : ∀ t ∈ SOME, Tab t := fun t ht => by
  obtain ⟨ws, hw, rfl⟩ := List.mem_map.mp ht
  exact ⟨ws, List.mem_of_mem_take hw, rfl⟩
theorem cut_ints (cs : List Int) (lo hi : Option Int) : ∃ es : List Int, cutV (cs.map V.int) lo hi = es.map V.int ∧ es.length ≤ cs.length := by
  refine ⟨(cs.drop (HT.sIx cs.length 0 lo)).take (HT.sIx cs.length cs.length hi - HT.sIx cs.length 0 lo), ?_, ?_⟩
  · unfold cutV
    rw [List.length_map, List.map_take, List.map_drop]
  · rw [List.length_take, List.length_drop]; omega
theorem cut20 (cs : List Int) : ∃ es : List Int, cutV (cs.map V.int) none (some 20) = es.map V.int ∧ es.length ≤ 20 := by
  refine ⟨cs.take 20, ?_, ?_⟩
  · unfold cutV
    simp [HT.sIx]
  · rw [List.length_take]; omega
theorem x_repS {z : Str} {i : Int} (h1 : 1 < i ∧ i ≤ 1000) (h2 : 0 < z.length ∧ z.length ≤ 1000) (h : Q (.str (repS z i.toNat)) H) : oRepS (.str z) (.int i) H Q := ⟨z, i, rfl, rfl, h1.1, h1.2, h2.1, h2.2, h⟩
theorem x_addS {a b : Str} (hl : a.length + b.length ≤ 16777216) (h : Q (.str (a ++ b)) H) : oAddStr (.str a) (.str b) H Q := ⟨a, b, rfl, rfl, sl hl, h⟩
theorem c_law_lines {a : Addr} {ns : List Int} (hs : SqL K H a (ns.map V.int)) (h : ∀ p ts H', Same H H' → H' p = some (.lst (ts.map V.str)) → (∀ t ∈ ts, Tab t) → ts ≠ [] → ts.length ≤ 21 → Q (.ref p) H') : sp__law_lines K [.ref a] H Q E := by
  refine i__law_lines ?_
  unfold t__law_lines
  walk_at "vv"
  refine ⟨sl (m := 8) (Nat.le_refl _), fun q1 hq1 => ?_⟩
  have s1 := Same.new (o := .lst [.str "load 1 2 0", .str "store 3 0 1", .str "copy 4 5", .str "drop 7", .str "number 2 -31", .str "name 0 6", .str "read 1 1", .str "word 2 900"]) hq1
  walk_at "vv"
  refine ⟨sl (m := 8) (Nat.le_refl _), fun q2 hq2 => ?_⟩
  have s2 := Same.new (o := .lst [.str "make 3 2 17 40", .str "small", .str "begin", .str "shade 17", .str "look 17 1", .str "move 17 80", .str "end", .str "room 90 young"]) hq2
  refine x_cat (SqX.of (s2 _ _ upd_same)) (SqX.of upd_same) (by rw [sizeLine_eq]; decide) fun q3 hq3 => ?_
  have s3 := Same.trans s1 (Same.trans s2 (Same.new (o := .lst ([.str "load 1 2 0", .str "store 3 0 1", .str "copy 4 5", .str "drop 7", .str "number 2 -31", .str "name 0 6", .str "read 1 1", .str "word 2 900"] ++ [.str "make 3 2 17 40", .str "small", .str "begin", .str "shade 17", .str "look 17 1", .str "move 17 80", .str "end", .str "room 90 young"])) hq3))
  have l3 := upd_same (H := upd (upd H q1 (.lst [.str "load 1 2 0", .str "store 3 0 1", .str "copy 4 5", .str "drop 7", .str "number 2 -31", .str "name 0 6", .str "read 1 1", .str "word 2 900"])) q2 (.lst [.str "make 3 2 17 40", .str "small", .str "begin", .str "shade 17", .str "look 17 1", .str "move 17 80", .str "end", .str "room 90 young"])) (a := q3) (o := .lst ([.str "load 1 2 0", .str "store 3 0 1", .str "copy 4 5", .str "drop 7", .str "number 2 -31", .str "name 0 6", .str "read 1 1", .str "word 2 900"] ++ [.str "make 3 2 17 40", .str "small", .str "begin", .str "shade 17", .str "look 17 1", .str "move 17 80", .str "end", .str "room 90 young"]))
  generalize upd (upd (upd H q1 _) q2 _) q3 _ = H3 at s3 l3
  walk_at "vv"
  refine x_repS (by decide) (by decide +kernel) ?_
  refine x_addS (by decide +kernel) ?_
  walk_at "vv"
  refine x_repS (by decide) (by decide +kernel) ?_
  refine x_addS (by decide +kernel) ?_
  walk_at "vv"
  refine ⟨sl (m := 2) (Nat.le_refl _), fun q4 hq4 => ?_⟩
  have s4 := Same.new (o := .lst [.str ("number 3 " ++ repS "9" (61 : Int).toNat), .str ("word 1 -" ++ repS "9" (61 : Int).toNat)]) hq4
  refine x_cat (SqX.of (s4 _ _ l3)) (SqX.of upd_same) (by rw [sizeLine_eq]; decide) fun q5 hq5 => ?_
  have es : ([.str "load 1 2 0", .str "store 3 0 1", .str "copy 4 5", .str "drop 7", .str "number 2 -31", .str "name 0 6", .str "read 1 1", .str "word 2 900"] ++ [.str "make 3 2 17 40", .str "small", .str "begin", .str "shade 17", .str "look 17 1", .str "move 17 80", .str "end", .str "room 90 young"] ++
      [.str ("number 3 " ++ repS "9" (61 : Int).toNat), .str ("word 1 -" ++ repS "9" (61 : Int).toNat)] : List V) = SOME.map V.str := by decide +kernel
  rw [es]
  have s5 := Same.trans s3 (Same.trans s4 (Same.new (o := .lst (SOME.map V.str)) hq5))
  have l5 := upd_same (H := upd H3 q4 (.lst [.str ("number 3 " ++ repS "9" (61 : Int).toNat), .str ("word 1 -" ++ repS "9" (61 : Int).toNat)])) (a := q5) (o := .lst (SOME.map V.str))
  generalize upd (upd H3 q4 _) q5 (.lst (SOME.map V.str)) = H5 at s5 l5
  walk_at "vv"
  refine ⟨sl (m := 1) (Nat.le_refl _), fun L hL => ?_⟩
  have hL0 := s5.free hL
  walk_at "vv"
  have s6 := Same.new (o := .lst [.str "room 64 old"]) hL
  refine x_slL (Same.sql (Same.trans s5 s6) hs) fun c hc => ?_
  obtain ⟨es', e1, e2⟩ := cut20 ns
  rw [e1]
  have hcl := upd_same (H := upd H5 L (.lst [.str "room 64 old"])) (a := c) (o := .lst (es'.map V.int))
  have s7 := Same.new (o := .lst (es'.map V.int)) hc
  have hLl := s7 _ _ (upd_same (H := H5) (a := L) (o := .lst [.str "room 64 old"]))
  have hl5 := s7 _ _ (s6 _ _ l5)
  have s8 := Same.trans s5 (Same.trans s6 s7)
  generalize upd (upd H5 L (.lst [.str "room 64 old"])) c (.lst (es'.map V.int)) = H6 at hcl hLl hl5 s8
  have nLc : L ≠ c := by intro z; rw [z] at hLl; rw [hLl] at hcl; cases es' <;> cases hcl
  have n5L : q5 ≠ L := ne_of_none l5 hL
  refine x_gList (SqL.of hcl) ?_
  refine L_list (xs := es'.map V.int) (fun i σ H' => ∃ (ts : List Str) (a3 : Option L2.V), σ = [some (.ref a), some (.ref q5), some (.ref L), a3] ∧ Same H H' ∧ H' L = some (.lst (ts.map V.str)) ∧ H' c = some (.lst (es'.map V.int)) ∧ H' q5 = some (.lst (SOME.map V.str)) ∧ (∀ t ∈ ts, Tab t) ∧ ts ≠ [] ∧ ts.length = i + 1)
    ⟨["room 64 old"], _, rfl, s8, hLl, hcl, hl5, fun t ht => by rw [List.mem_singleton] at ht; rw [ht]; exact ⟨["room", "64", "old"], by decide +kernel, by decide +kernel⟩, by simp, rfl⟩ (fun i σ H' _ ⟨_, _, _, _, _, q, _⟩ => SqL.of q) ?_ ?_
  · rintro i x σ H' hi ⟨ts, a3, rfl, s9, hLl', hcl', hq5', tab, ne, tl⟩
    obtain ⟨k, hk, rfl⟩ := get_map hi
    have il := lt_of_get hk
    show tDrop _ _ _ _
    walk_at "vz"
    refine ⟨x_tyL hLl', ?_⟩
    walk_at "vz"
    have k0 : 0 ≤ k % 18 := Int.emod_nonneg _ (by decide)
    have k1 : k % 18 < 18 := Int.emod_lt_of_pos _ (by decide)
    have ek : k % 18 = ((k % 18).toNat : Int) := (Int.toNat_of_nonneg k0).symm
    have kl : (k % 18).toNat < SOME.length := by rw [some_len]; omega
    rw [ek]
    refine x_ixL (SqL.of hq5') (strs_at (w := SOME[(k % 18).toNat]) (List.getElem?_eq_getElem kl)) ?_
    walk_at "vz"
    refine x_append hLl' (by rw [List.length_map, sizeLine_eq]; omega) ?_
    refine ⟨ts ++ [SOME[(k % 18).toNat]], _, rfl, Same.put s9 hL0, by rw [upd_same, List.map_append]; rfl, by rw [upd_ne nLc.symm]; exact hcl', by rw [upd_ne n5L]; exact hq5', fun t ht => ?_, by simp, by simp [tl]⟩
    rcases List.mem_append.mp ht with z | z
    · exact tab t z
    · rw [List.mem_singleton] at z; rw [z]; exact some_tab _ (List.getElem_mem kl)
  · rintro σ H' ⟨ts, a3, rfl, s9, hLl', hcl', hq5', tab, ne, tl⟩
    rw [List.length_map] at tl
    walk_at "vv"
    exact h L ts H' s9 hLl' tab ne (by omega)
end P75

set_option Elab.async false
set_option linter.all false
set_option maxRecDepth 100000
set_option maxHeartbeats 1000000
namespace P75
open PySem PySem.Spec PyProof.Rows L2 SX0 R_k75
variable {K : PySem.W.Frag} {H : Hp} {Q : VK} {E : XK} {σ : L2.St} {D : Ends}
theorem cutT {α : Type} (f : α → V) (xs : List α) (n : Nat) : cutV (xs.map f) none (some (n : Int)) = (xs.take n).map f := by
  unfold cutV
  rw [HT.sIx_nat, List.length_map]
  show ((xs.map f).drop 0).take (min n xs.length - 0) = _
  rw [List.drop_zero, Nat.sub_zero, List.map_take]
  rw [List.take_eq_take_iff, List.length_map]
  omega
theorem cutD {α : Type} (f : α → V) (xs : List α) (n : Nat) : cutV (xs.map f) (some (n : Int)) none = (xs.drop n).map f := by
  unfold cutV
  rw [HT.sIx_nat, HT.sIx_none, List.length_map, ← List.map_drop]
  have e : xs.drop (min n xs.length) = xs.drop n := by
    by_cases h : n ≤ xs.length
    · rw [Nat.min_eq_left h]
    · rw [Nat.min_eq_right (by omega), List.drop_of_length_le (Nat.le_refl _), List.drop_of_length_le (by omega)]
  rw [e]
  refine List.take_of_length_le ?_
  rw [List.length_map, List.length_drop]
  omega
theorem cutN1 {α : Type} (f : α → V) (xs : List α) (h : 1 ≤ xs.length) : cutV (xs.map f) none (some (-1)) = xs.dropLast.map f := by
  unfold cutV
  have e : HT.sIx (xs.map f).length (xs.map f).length (some (-1)) = xs.length - 1 := by
    show (if (-1 : Int) < 0 then ((-1 : Int) + ((xs.map f).length : Int)).toNat else min (-1 : Int).toNat (xs.map f).length) = _
    rw [if_pos (by decide), List.length_map]
    omega
  rw [e]
  show ((xs.map f).drop 0).take (xs.length - 1 - 0) = _
  rw [List.drop_zero, Nat.sub_zero, List.dropLast_eq_take, List.map_take]
theorem app_toList (a b : Str) : (a ++ b).cps.toList = a.cps.toList ++ b.cps.toList := by
  show (a.cps ++ b.cps).toList = _
  simp
theorem J_pre (o w0 : Str) (r : List Str) : o ++ J (w0 :: r) = J ((o ++ w0) :: r) := by
  refine str_ext ?_
  rw [app_toList, J_eq, J_eq]
  cases r with
  | nil => exact (app_toList o w0).symm
  | cons b r => rw [tl_join, tl_join, app_toList, List.append_assoc]
theorem x_joinW {b : Bool} {vs : List Str} {p : Addr} (hb : okW b vs = true) (hp : H p = some (.lst (vs.map V.str))) (h : Q (.str (J vs)) H) : cJoin K (.str " ") [.ref p] H Q := by
  obtain ⟨_, h2, _, h4⟩ := okW_parts hb
  have l2 := sum_le vs 80 fun w hw => (wd_parts (h2 w hw)).2.2.1
  have l3 : (" " : Str).length = 1 := by decide +kernel
  exact ⟨" ", p, vs, rfl, rfl, .inl (SqL.of hp), by rw [l3]; omega, h⟩
theorem ws_chk2 {ws : List Str} (h : ws ∈ WS) : chk2 ws = true := List.all_eq_true.mp chk2_all ws h
theorem ws_eqs {ws : List Str} (h : ws ∈ WS) : eqs ws = true := List.all_eq_true.mp eqs_all ws h
structure WF (ws : List Str) : Prop where
  g : okW true ws = true
  c0 : okW false (sh :: ws.drop 1) = true
  c1 : okW false (ws ++ L3) = true
  c2 : ws.length ≤ 1 ∨ okW false ws.dropLast = true
  c3 : okW false (dbl ws) = true
  c4 : okW false (em :: ws) = true
  c4' : okW false (ws ++ LE) = true
  c5 : okW false (v5 ws) = true
  c6 : okW false (ws.map Txt.upper) = true
  d0 : ∀ o ∈ ODDS, okW false ((o ++ xx ++ ws.headD em) :: ws.drop 1) = true
  d1 : ∀ a, a < ws.length → a ≠ 0 → ∀ o ∈ ODDS, okW false (ws.take a ++ (o :: ws.drop (a + 1))) = true
  e1 : J ws ++ S3 = J (ws ++ L3)
  e3 : Txt.replace (J ws) SP S2 ++ (if ws.length = 1 then SP else em) = J (dbl ws)
  e4 : SP ++ J ws = J (em :: ws)
  e4' : J ws ++ SP = J (ws ++ LE)
  e5 : J (ws.take 1 ++ (yg :: ws.drop 2)) ++ (if ws.length < 2 then S1 else em) = J (v5 ws)
  e6 : Txt.upper (J ws) = J (ws.map Txt.upper)
  l : ws.length ≤ 5
theorem ws_wf {ws : List Str} (h : ws ∈ WS) : WF ws := by
  have a := ws_chk h
  have b := ws_chk2 h
  have c := ws_eqs h
  unfold chk at a
  unfold chk2 at b
  unfold eqs at c
  simp only [Bool.and_eq_true, Bool.or_eq_true, decide_eq_true_eq] at a b c
  obtain ⟨a1, a2, a3, a4, a5, a6, a7, a8, a9⟩ := a
  obtain ⟨b1, b2⟩ := b
  obtain ⟨c1, c2, c3, c4, c5, c6, c7⟩ := c
  refine ⟨a1, a2, a3, a4, a5, a6, a7, a8, a9, List.all_eq_true.mp b1, fun k hk hk0 o ho => ?_, c1, c2, c3, c4, c5, c6, c7⟩
  have := List.all_eq_true.mp b2 k (List.mem_range.mpr hk)
  rw [Bool.or_eq_true] at this
  rcases this with z | z
  · exact absurd (of_decide_eq_true z) hk0
  · exact List.all_eq_true.mp z o ho
theorem odd_mem {k : Nat} (hk : k < 9) {o : Str} (h : o ∈ O1 ++ O2 k) : o ∈ ODDS := by
  have a := List.all_eq_true.mp sub_odds k (List.mem_range.mpr hk)
  have b := List.all_eq_true.mp a o h
  exact List.contains_iff_mem.mp b
theorem J_len {b : Bool} {vs : List Str} (h : okW b vs = true) : (J vs).length ≤ 900 := (Ln.mk ⟨vs, rfl, h⟩ : Ln (J vs) b).f.len
end P75

set_option Elab.async false
set_option linter.all false
set_option maxRecDepth 100000
set_option maxHeartbeats 2000000
namespace P75
open PySem PySem.Spec PyProof.Rows L2 SX0 R_k75
variable {K : PySem.W.Frag} {H : Hp} {Q : VK} {E : XK} {σ : L2.St} {D : Ends}
theorem x_ifRep {ta te : TE} {n : Int} {i : Nat} {c1 c2 : Str} (h : ta σ H fun x H1 => ∃ k, x = .int k ∧
  if decide (k = n) = true then ∃ z, σ[i]? = some (some (.str z)) ∧ z.length + (z.length + 1) * c2.length ≤ 16777216 ∧ te σ H1 fun y H2 => oAddStr (.str (Txt.replace z c1 c2)) y H2 D.rt
  else D.nx σ H1) : tIfRep ta n i c1 c2 te D σ H := h
theorem c_spoilt {t : Str} {cell : Int} (ht : Tab t) (h : ∀ s H', Ln s false → Same H H' → Q (.str s) H') : sp__law_spoilt K [.str t, .int cell] H Q E := by
  obtain ⟨ws, hw, rfl⟩ := ht
  have F := ws_wf hw
  have tl := J_len F.g
  have ne := (okW_parts F.g).1
  have lpos : 1 ≤ ws.length := List.length_pos_iff.mpr ne
  have Fl := F.l
  have sp : Txt.split (J ws) " " = ws := split_words ne fun w hw => (wd_parts ((okW_parts F.g).2.1 w hw)).1
  have fin : ∀ (vs : List Str) (H' : Hp), okW false vs = true → Same H H' → Q (.str (J vs)) H' := fun vs H' hv s' => h _ H' ⟨vs, rfl, hv⟩ s'
  refine i__law_spoilt ?_
  unfold t__law_spoilt
  walk_at "vz"
  refine x_m1 ?_
  walk_at "vz"
  refine ⟨⟨_, rfl⟩, ?_⟩
  walk_at "vz"
  refine ⟨J ws, " ", rfl, rfl, by decide +kernel, by rw [sizeLine_eq]; omega, fun p hp => ?_⟩
  rw [sp]
  have s1 := Same.new (o := .lst (ws.map V.str)) hp
  have hpl := upd_same (H := H) (a := p) (o := .lst (ws.map V.str))
  generalize upd H p (.lst (ws.map V.str)) = H1 at s1 hpl
  walk_at "vz"
  refine ⟨sl (m := 17) (Nat.le_refl _), fun q1 hq1 => ?_⟩
  have eo1 : ([.str "", .str "00", .str "01", .str "-0", .str "+1", .str "1_0", .str "1.0", .str "x", .str "1x", .str "--1", .str "-", .str "True", .str "None", .str "(1,)", .str "1,", .str "0x1", .str "~"] : List V) = O1.map V.str := rfl
  rw [eo1]
  have s2 := Same.new (o := .lst (O1.map V.str)) hq1
  have hq1l := upd_same (H := H1) (a := q1) (o := .lst (O1.map V.str))
  have hpl2 := s2 _ _ hpl
  have s12 := Same.trans s1 s2
  generalize upd H1 q1 (.lst (O1.map V.str)) = H2 at s12 hpl2 hq1l
  clear s2
  walk_at "vz"
  have k0 : 0 ≤ cell / 9 % 9 := Int.emod_nonneg _ (by decide)
  have k1 : cell / 9 % 9 < 9 := Int.emod_lt_of_pos _ (by decide)
  refine x_repS ⟨by omega, by omega⟩ (by decide +kernel) ?_
  walk_at "vz"
  refine x_repS (by decide) (by decide +kernel) ?_
  refine x_addS (by decide +kernel) ?_
  walk_at "vz"
  refine ⟨sl (m := 5) (Nat.le_refl _), fun q2 hq2 => ?_⟩
  have ek : (62 + cell / 9 % 9).toNat = 62 + (cell / 9 % 9).toNat := by omega
  have eo2 : ([.str "1e3", .str "-01", .str "young0", .str (repS "9" (62 + cell / 9 % 9).toNat), .str ("-" ++ repS "9" (62 : Int).toNat)] : List V) = (O2 (cell / 9 % 9).toNat).map V.str := by rw [ek]; rfl
  rw [eo2]
  have kn : (cell / 9 % 9).toNat < 9 := by omega
  generalize (cell / 9 % 9).toNat = k at kn
  have s3 := Same.new (o := .lst ((O2 k).map V.str)) hq2
  refine x_cat (SqX.of (s3 _ _ hq1l)) (SqX.of upd_same) (by rw [List.length_map, List.length_map, sizeLine_eq]; show 17 + 5 ≤ _; decide) fun od hod => ?_
  rw [← List.map_append]
  have s4 := Same.trans s3 (Same.new (o := .lst ((O1 ++ O2 k).map V.str)) hod)
  have hol := upd_same (H := upd H2 q2 (.lst ((O2 k).map V.str))) (a := od) (o := .lst ((O1 ++ O2 k).map V.str))
  have hpl4 := s4 _ _ hpl2
  have s5 := Same.trans s12 s4
  generalize upd (upd H2 q2 (.lst ((O2 k).map V.str))) od (.lst ((O1 ++ O2 k).map V.str)) = H4 at s5 hol hpl4
  have ol : (O1 ++ O2 k).length = 22 := rfl
  clear s3 s4 hq1l hpl2 s12 s1 hpl
  walk_at "vz"
  refine x_lenL (SqL.of hpl4) ?_
  rw [List.length_map]
  refine x_mod (by omega) ?_
  walk_at "vz"
  have oddAt : ∀ n : Int, ∃ o, atI ((O1 ++ O2 k).map V.str) (n % (((O1 ++ O2 k).map V.str).length : Int)) = some (.str o) ∧ o ∈ ODDS ∧ o.length ≤ 80 := fun n => by
    rw [List.length_map, ol]
    have a0 : 0 ≤ n % ((22 : Nat) : Int) := Int.emod_nonneg _ (by decide)
    have a1 : n % ((22 : Nat) : Int) < 22 := Int.emod_lt_of_pos _ (by decide)
    have ea : n % ((22 : Nat) : Int) = ((n % ((22 : Nat) : Int)).toNat : Int) := (Int.toNat_of_nonneg a0).symm
    have al : (n % ((22 : Nat) : Int)).toNat < (O1 ++ O2 k).length := by rw [ol]; omega
    have om := odd_mem kn (List.getElem_mem al)
    refine ⟨(O1 ++ O2 k)[(n % ((22 : Nat) : Int)).toNat], by
      have q := strs_at (ws := O1 ++ O2 k) (n := (n % ((22 : Nat) : Int)).toNat) (List.getElem?_eq_getElem al)
      rw [← ea] at q
      exact q, om, ?_⟩
    have hd := F.d0 _ om
    have := (wd_parts ((okW_parts hd).2.1 _ List.mem_cons_self)).2.2.1
    have e1 : ∀ a b : Str, (a ++ b).length = a.length + b.length := fun a b => by show (a.cps ++ b.cps).size = _; rw [Array.size_append]; rfl
    rw [e1, e1] at this
    omega
  refine x_iteI (fun h0 => ?_) fun h0 => ?_
  · walk_at "vz"
    refine x_m1 ?_
    walk_at "vz"
    refine ⟨⟨_, rfl⟩, ?_⟩
    walk_at "vz"
    refine ⟨sl (m := 1) (Nat.le_refl _), fun q4 hq4 => ?_⟩
    have u1 := Same.new (o := .lst [.str "shades"]) hq4
    walk_at "vz"
    refine x_slL (SqL.of (u1 _ _ hpl4)) fun q5 hq5 => ?_
    have ec := cutD V.str ws 1
    rw [show ((1 : Nat) : Int) = 1 from rfl] at ec
    rw [ec]
    have u2 := Same.new (o := .lst ((ws.drop 1).map V.str)) hq5
    refine x_cat (SqX.of (u2 _ _ upd_same)) (SqX.of upd_same) (by rw [List.length_map, List.length_drop, List.length_singleton, sizeLine_eq]; omega) fun q6 hq6 => ?_
    walk_at "vz"
    refine x_joinW F.c0 upd_same ?_
    exact fin _ _ F.c0 (Same.trans s5 (Same.trans u1 (Same.trans u2 (Same.new hq6))))
  walk_at "vz"
  refine x_iteI (fun h1 => ?_) fun h1 => ?_
  · walk_at "vz"
    refine x_addS (by have : (" 3" : Str).length = 2 := by decide +kernel
                      omega) ?_
    have e : J ws ++ " 3" = J (ws ++ L3) := F.e1
    rw [e]
    exact fin _ _ F.c1 s5
  -- the cases from the third on
  have rest : ∀ De : Ends, De.rt = Q → (tSeq (tIfRep (tOp oMod (tVar 1) (tC (.int 9))) 3 0 " " "  " (tOp (rIxL K) (tLst (tCons (tC (.str "")) (tCons (tC (.str " ")) tNil))) (tCB cInt1 (tCons (tOp rEq (tCB (cLenSeq K) (tCons (tVar 2) tNil)) (tC (.int 1))) tNil))))
 (tSeq (tIfS (tTest (tOp rEq (tOp oMod (tVar 1) (tC (.int 9))) (tC (.int 4)))) (tRet (tOp (rIxL K) (tLst (tCons (tOp oAddStr (tC (.str " ")) (tVar 0)) (tCons (tOp oAddStr (tVar 0) (tC (.str " "))) tNil))) (tOp oMod (tVar 3) (tC (.int 2))))) tNext)
 (tSeq (tIfS (tTest (tOp rEq (tOp oMod (tVar 1) (tC (.int 9))) (tC (.int 5)))) (tRet (tOp oAddStr (tM1 (cJoin K) (tC (.str " ")) (tOp (rCatS K) (tOp (rCatS K) (tSl (rSlL K) (tVar 2) tNoPart (tPart (tC (.int 1)))) (tLst (tCons (tC (.str "young")) tNil))) (tSl (rSlL K) (tVar 2) (tPart (tC (.int 2))) tNoPart))) (tOp (rIxL K) (tLst (tCons (tC (.str "")) (tCons (tC (.str " 1")) tNil))) (tCB cInt1 (tCons (tOp oLt (tCB (cLenSeq K) (tCons (tVar 2) tNil)) (tC (.int 2))) tNil))))) tNext)
 (tSeq (tIfS (tTest (tOp rEq (tOp oMod (tVar 1) (tC (.int 9))) (tC (.int 6)))) (tRet (tM0 cUpper (tVar 0))) tNext)
 (tSeq (tIfS (tTest (tOp rEq (tVar 5) (tC (.int 0)))) (tRet (tOp oAddStr (tOp oAddStr (tOp (rIxL K) (tVar 4) (tOp oMod (tOp oFdv (tVar 3) (tC (.int 7))) (tCB (cLenSeq K) (tCons (tVar 4) tNil)))) (tC (.str "x"))) (tVar 0))) tNext)
 (tRet (tM1 (cJoin K) (tC (.str " ")) (tOp (rCatS K) (tOp (rCatS K) (tSl (rSlL K) (tVar 2) tNoPart (tPart (tVar 5))) (tLst (tCons (tOp (rIxL K) (tVar 4) (tOp oMod (tOp oFdv (tVar 3) (tC (.int 7))) (tCB (cLenSeq K) (tCons (tVar 4) tNil)))) tNil))) (tSl (rSlL K) (tVar 2) (tPart (tOp oAdd (tVar 5) (tC (.int 1)))) tNoPart))))))))) De
        [some (.str (J ws)), some (.int cell), some (.ref p), some (.int (cell / 9)), some (.ref od), some (.int (cell / 9 % (ws.length : Int)))] H4 := by
    intro De hDe
    have l1 : (" " : Str).length = 1 := by decide +kernel
    have l2 : ("  " : Str).length = 2 := by decide +kernel
    have lx : ("x" : Str).length = 1 := by decide +kernel
    have le0 : ("" : Str).length = 0 := by decide +kernel
    refine x_seq ?_
    refine x_ifRep ?_
    walk_at "vz"
    refine x_ite (fun h3 => ?_) fun h3 => ?_
    · refine ⟨J ws, rfl, by rw [l2]; omega, ?_⟩
      walk_at "vz"
      refine ⟨sl (m := 2) (Nat.le_refl _), fun q hq => ?_⟩
      have u := Same.new (o := .lst [.str "", .str " "]) hq
      walk_at "vz"
      refine x_lenL (SqL.of (u _ _ hpl4)) ?_
      rw [List.length_map]
      walk_at "vz"
      have e3 := F.e3
      have lr : (Txt.replace (J ws) SP S2).length ≤ 900 := by
        have := J_len F.c3
        rw [← e3] at this
        have e1 : ∀ a b : Str, (a ++ b).length = a.length + b.length := fun a b => by show (a.cps ++ b.cps).size = _; rw [Array.size_append]; rfl
        rw [e1] at this
        omega
      have fin3 : ∀ (z : Str), z.length ≤ 1 → (if ws.length = 1 then SP else em) = z → oAddStr (.str (Txt.replace (J ws) " " "  ")) (.str z) (upd H4 q (.lst [.str "", .str " "])) De.rt := fun z zl ez => by
        have e : Txt.replace (J ws) " " "  " ++ z = J (dbl ws) := by rw [← ez]; exact e3
        refine x_addS (by have : (Txt.replace (J ws) " " "  ").length ≤ 900 := lr
                          omega) ?_
        rw [e, hDe]
        exact fin _ _ F.c3 (Same.trans s5 u)
      by_cases hl : ws.length = 1
      · rw [show (if decide (V.int (ws.length : Int) = V.int 1) = true then (1 : Int) else 0) = 1 from by rw [hl]; rfl]
        refine x_ixL (SqL.of upd_same) (v := .str " ") rfl ?_
        exact fin3 " " (by rw [l1]; exact Nat.le_refl _) (if_pos hl)
      · rw [show (if decide (V.int (ws.length : Int) = V.int 1) = true then (1 : Int) else 0) = 0 from if_neg (by simp; omega)]
        refine x_ixL (SqL.of upd_same) (v := .str "") rfl ?_
        exact fin3 "" (by rw [le0]; omega) (if_neg hl)
    walk_at "vz"
    refine x_iteI (fun h4 => ?_) fun h4 => ?_
    · walk_at "vz"
      refine x_addS (by rw [l1]; omega) ?_
      walk_at "vz"
      refine x_addS (by rw [l1]; omega) ?_
      walk_at "vz"
      refine ⟨sl (m := 2) (Nat.le_refl _), fun q hq => ?_⟩
      walk_at "vz"
      have m0 : 0 ≤ cell / 9 % 2 := Int.emod_nonneg _ (by decide)
      have m1 : cell / 9 % 2 < 2 := Int.emod_lt_of_pos _ (by decide)
      rw [hDe]
      rcases (by omega : cell / 9 % 2 = 0 ∨ cell / 9 % 2 = 1) with e | e <;> rw [e]
      · refine x_ixL (SqL.of upd_same) (v := .str (" " ++ J ws)) rfl ?_
        have e4 : " " ++ J ws = J (em :: ws) := F.e4
        rw [e4]
        exact fin _ _ F.c4 (Same.trans s5 (Same.new hq))
      · refine x_ixL (SqL.of upd_same) (v := .str (J ws ++ " ")) rfl ?_
        have e4 : J ws ++ " " = J (ws ++ LE) := F.e4'
        rw [e4]
        exact fin _ _ F.c4' (Same.trans s5 (Same.new hq))
    walk_at "vz"
    refine x_iteI (fun h5 => ?_) fun h5 => ?_
    · walk_at "vz"
      refine x_m1 ?_
      walk_at "vz"
      refine ⟨⟨_, rfl⟩, ?_⟩
      walk_at "vz"
      refine x_slL (SqL.of hpl4) fun q4 hq4 => ?_
      have ec := cutT V.str ws 1
      rw [show ((1 : Nat) : Int) = 1 from rfl] at ec
      rw [ec]
      have u1 := Same.new (o := .lst ((ws.take 1).map V.str)) hq4
      walk_at "vz"
      refine ⟨sl (m := 1) (Nat.le_refl _), fun q5 hq5 => ?_⟩
      have u2 := Same.new (o := .lst [.str "young"]) hq5
      refine x_cat (SqX.of (u2 _ _ upd_same)) (SqX.of upd_same) (by rw [List.length_map, List.length_take, List.length_singleton, sizeLine_eq]; omega) fun q6 hq6 => ?_
      have u3 := Same.new (o := .lst ((ws.take 1).map V.str ++ [.str "young"])) hq6
      have u13 := Same.trans u1 (Same.trans u2 u3)
      walk_at "vz"
      refine x_slL (SqL.of (u13 _ _ hpl4)) fun q7 hq7 => ?_
      have ec2 := cutD V.str ws 2
      rw [show ((2 : Nat) : Int) = 2 from rfl] at ec2
      rw [ec2]
      have u4 := Same.new (o := .lst ((ws.drop 2).map V.str)) hq7
      refine x_cat (SqX.of (u4 _ _ upd_same)) (SqX.of upd_same) (by rw [List.length_append, List.length_map, List.length_map, List.length_take, List.length_drop, List.length_singleton, sizeLine_eq]; omega) fun q8 hq8 => ?_
      have ev : (ws.take 1).map V.str ++ [.str "young"] ++ (ws.drop 2).map V.str = (ws.take 1 ++ (yg :: ws.drop 2)).map V.str := by simp [yg]
      rw [ev]
      have u5 := Same.new (o := .lst ((ws.take 1 ++ (yg :: ws.drop 2)).map V.str)) hq8
      have u15 := Same.trans u13 (Same.trans u4 u5)
      have wdy : ∀ w ∈ ws.take 1 ++ (yg :: ws.drop 2), w.length ≤ 80 := fun w hw' => by
        have all := (okW_parts F.g).2.1
        rcases List.mem_append.mp hw' with z | z
        · exact (wd_parts (all w (List.mem_of_mem_take z))).2.2.1
        · rcases List.mem_cons.mp z with y | y
          · rw [y]; decide +kernel
          · exact (wd_parts (all w (List.mem_of_mem_drop y))).2.2.1
      have sl5 := sum_le _ 80 wdy
      have ln5 : (ws.take 1 ++ (yg :: ws.drop 2)).length ≤ 7 := by rw [List.length_append, List.length_cons, List.length_take, List.length_drop]; omega
      refine ⟨" ", q8, _, rfl, rfl, .inl (SqL.of upd_same), by rw [l1]; omega, ?_⟩
      walk_at "vz"
      refine ⟨sl (m := 2) (Nat.le_refl _), fun q9 hq9 => ?_⟩
      have u6 := Same.new (o := .lst [.str "", .str " 1"]) hq9
      have u16 := Same.trans u15 u6
      walk_at "vz"
      refine x_lenL (SqL.of (u16 _ _ hpl4)) ?_
      rw [List.length_map]
      walk_at "vz"
      have l11 : (" 1" : Str).length = 2 := by decide +kernel
      have l5 : (Txt.join " " (ws.take 1 ++ (yg :: ws.drop 2))).length ≤ 900 := by
        have := PySem.StrLaws.join_length_le ⟨#[32]⟩ (ws.take 1 ++ (yg :: ws.drop 2))
        rw [← J_eq, show (⟨#[32]⟩ : Str).length = 1 from rfl] at this
        unfold J at this
        omega
      have fin5 : ∀ (z : Str), z.length ≤ 2 → (if ws.length < 2 then S1 else em) = z → ∀ H', Same H4 H' → oAddStr (.str (Txt.join " " (ws.take 1 ++ (yg :: ws.drop 2)))) (.str z) H' De.rt := fun z zl ez H' s' => by
        have e : Txt.join " " (ws.take 1 ++ (yg :: ws.drop 2)) ++ z = J (v5 ws) := by rw [← ez]; exact F.e5
        refine x_addS (by omega) ?_
        rw [e, hDe]
        exact fin _ _ F.c5 (Same.trans s5 s')
      by_cases hl : ws.length < 2
      · rw [show (if decide ((ws.length : Int) < 2) = true then (1 : Int) else 0) = 1 from if_pos (by simp; omega)]
        refine x_ixL (SqL.of upd_same) (v := .str " 1") rfl ?_
        exact fin5 " 1" (by rw [l11]; exact Nat.le_refl _) (if_pos hl) _ u16
      · rw [show (if decide ((ws.length : Int) < 2) = true then (1 : Int) else 0) = 0 from if_neg (by simp; omega)]
        refine x_ixL (SqL.of upd_same) (v := .str "") rfl ?_
        exact fin5 "" (by rw [le0]; omega) (if_neg hl) _ u16
    walk_at "vz"
    refine x_iteI (fun h6 => ?_) fun h6 => ?_
    · walk_at "vz"
      refine x_m0 ?_
      walk_at "vz"
      refine ⟨⟨_, rfl⟩, J ws, rfl, rfl, by omega, ?_⟩
      rw [F.e6, hDe]
      exact fin _ _ F.c6 s5
    walk_at "vz"
    refine x_iteI (fun h7 => ?_) fun h7 => ?_
    · walk_at "vz"
      refine x_lenL (SqL.of hol) ?_
      refine x_mod (by rw [List.length_map, ol]; decide) ?_
      obtain ⟨o, ho, om, oll⟩ := oddAt (cell / 9 / 7)
      refine x_ixL (SqL.of hol) ho ?_
      walk_at "vz"
      refine x_addS (by rw [lx]; omega) ?_
      walk_at "vz"
      have e1 : ∀ a b : Str, (a ++ b).length = a.length + b.length := fun a b => by show (a.cps ++ b.cps).size = _; rw [Array.size_append]; rfl
      refine x_addS (by rw [e1, lx]; omega) ?_
      obtain ⟨w0, r, ew⟩ : ∃ w0 r, ws = w0 :: r := by
        cases ws with
        | nil => exact absurd rfl ne
        | cons a b => exact ⟨a, b, rfl⟩
      have hd := F.d0 o om
      rw [ew] at hd
      have ej : o ++ "x" ++ J ws = J ((o ++ xx ++ w0) :: r) := by rw [ew]; exact J_pre (o ++ xx) w0 r
      rw [ej, hDe]
      exact fin _ _ hd s5
    · walk_at "vz"
      have a0 : 0 ≤ cell / 9 % (ws.length : Int) := Int.emod_nonneg _ (by omega)
      have a1 : cell / 9 % (ws.length : Int) < ws.length := Int.emod_lt_of_pos _ (by omega)
      have ea : cell / 9 % (ws.length : Int) = ((cell / 9 % (ws.length : Int)).toNat : Int) := (Int.toNat_of_nonneg a0).symm
      have an : (cell / 9 % (ws.length : Int)).toNat < ws.length := by omega
      have az : (cell / 9 % (ws.length : Int)).toNat ≠ 0 := by omega
      rw [ea]
      generalize (cell / 9 % (ws.length : Int)).toNat = a at an az
      refine x_m1 ?_
      walk_at "vz"
      refine ⟨⟨_, rfl⟩, ?_⟩
      walk_at "vz"
      refine x_slL (SqL.of hpl4) fun q4 hq4 => ?_
      rw [cutT V.str ws a]
      have u1 := Same.new (o := .lst ((ws.take a).map V.str)) hq4
      walk_at "vz"
      refine x_lenL (SqL.of (u1 _ _ hol)) ?_
      refine x_mod (by rw [List.length_map, ol]; decide) ?_
      obtain ⟨o, ho, om, oll⟩ := oddAt (cell / 9 / 7)
      refine x_ixL (SqL.of (u1 _ _ hol)) ho ?_
      walk_at "vz"
      refine ⟨sl (m := 1) (Nat.le_refl _), fun q5 hq5 => ?_⟩
      have u2 := Same.new (o := .lst [.str o]) hq5
      refine x_cat (SqX.of (u2 _ _ upd_same)) (SqX.of upd_same) (by rw [List.length_map, List.length_take, List.length_singleton, sizeLine_eq]; omega) fun q6 hq6 => ?_
      have u3 := Same.new (o := .lst ((ws.take a).map V.str ++ [.str o])) hq6
      have u13 := Same.trans u1 (Same.trans u2 u3)
      walk_at "vz"
      refine x_slL (SqL.of (u13 _ _ hpl4)) fun q7 hq7 => ?_
      have ec2 := cutD V.str ws (a + 1)
      rw [show ((a + 1 : Nat) : Int) = (a : Int) + 1 from by omega] at ec2
      rw [ec2]
      have u4 := Same.new (o := .lst ((ws.drop (a + 1)).map V.str)) hq7
      refine x_cat (SqX.of (u4 _ _ upd_same)) (SqX.of upd_same) (by rw [List.length_append, List.length_map, List.length_map, List.length_take, List.length_drop, List.length_singleton, sizeLine_eq]; omega) fun q8 hq8 => ?_
      have ev : (ws.take a).map V.str ++ [.str o] ++ (ws.drop (a + 1)).map V.str = (ws.take a ++ (o :: ws.drop (a + 1))).map V.str := by simp
      rw [ev]
      have hb := F.d1 a an az o om
      refine x_joinW hb upd_same ?_
      rw [hDe]
      exact fin _ _ hb (Same.trans s5 (Same.trans u13 (Same.trans u4 (Same.new hq8))))
  walk_at "vz"
  refine x_iteI (fun h2 => ?_) fun h2 => ?_
  · walk_at "vz"
    refine x_lenL (SqL.of hpl4) ?_
    rw [List.length_map]
    walk_at "vz"
    refine x_ite (fun hg => ?_) fun hng => ?_
    · walk_at "vz"
      refine x_m1 ?_
      walk_at "vz"
      refine ⟨⟨_, rfl⟩, ?_⟩
      walk_at "vz"
      refine x_slL (SqL.of hpl4) fun q4 hq4 => ?_
      rw [cutN1 V.str ws lpos]
      have c2 : okW false ws.dropLast = true := by
        rcases F.c2 with z | z
        · omega
        · exact z
      refine x_joinW c2 upd_same ?_
      exact fin _ _ c2 (Same.trans s5 (Same.new hq4))
    · walk_at "vz"
      exact rest _ rfl
  · walk_at "vz"
    exact rest _ rfl
end P75

set_option Elab.async false
set_option linter.all false
set_option maxRecDepth 100000
set_option maxHeartbeats 2000000
namespace P75
open PySem PySem.Spec PyProof.Rows L2 SX0 R_k75
variable {K : PySem.W.Frag} {H : Hp} {Q : VK} {E : XK} {σ : L2.St} {D : Ends}
theorem x_joinN {ys : List Str} {p : Addr} (hy : ∀ t ∈ ys, ∃ b, Ln t b) (hl : ys.length ≤ 100) (hp : SqL K H p (ys.map V.str)) (h : Q (.str (N ys)) H) : cJoin K (.str "\n") [.ref p] H Q :=
  ⟨"\n", p, ys, rfl, rfl, .inl hp, (N_len (fun t ht => (hy t ht).choose_spec.f.len) hl).2, h⟩
theorem ln_em : Ln "" false := ⟨[em], by decide +kernel, by decide +kernel⟩
theorem ln_no : Ln "no" false := ⟨["no"], by decide +kernel, by decide +kernel⟩
theorem join_end (c : Nat) : ∀ ts : List Str, ts ≠ [] → (Str.join ⟨#[c]⟩ (ts ++ LE)).cps.toList = (Str.join ⟨#[c]⟩ ts).cps.toList ++ [c]
  | [], h => absurd rfl h
  | [a], _ => by
    show (Str.join ⟨#[c]⟩ [a, ""]).cps.toList = _
    rw [tl_join]
    rfl
  | a :: b :: r, _ => by
    have ih := join_end c (b :: r) (by simp)
    show (Str.join ⟨#[c]⟩ (a :: b :: (r ++ LE))).cps.toList = _
    rw [tl_join, tl_join]
    rw [show (b :: (r ++ LE)) = (b :: r) ++ LE from rfl, ih]
    simp
theorem N_end {ts : List Str} (h : ts ≠ []) : N ts ++ "\n" = N (ts ++ LE) := by
  refine str_ext ?_
  rw [app_toList, N_eq, N_eq, join_end 10 ts h]
  rfl
theorem c_rows_empty (pf : PF K) (h : ∀ H', Same H H' → Q (.int ((0 : Nat) + 1)) H') : sp__law_row_of K [.str ""] H Q E := by
  have ee : ("" : Str) = N (([] : List Str) ++ ("" : Str) :: ([] : List Str)) := by decide +kernel
  have m := c_rows_bad (K := K) (H := H) (Q := Q) (E := E) pf (pre := []) (post := []) (t := "") (by simp) (fun u hu => by cases hu) ln_em (fun u hu => by cases hu) h
  rw [← ee] at m
  exact m
theorem c_law (pf : PF K) {a : Addr} {ns : List Int} (hs : SqX K H a (ns.map V.int)) (h : ∀ H', Q (.bl true) H') : sp_law K [.ref a] H Q E := by
  have hs' := hs.sql
  refine i_law ?_
  unfold t_law
  walk_at "vz"
  refine c_law_lines hs' fun p ts H1 s1 hpl tab ne tl => ?_
  have ln : ∀ t ∈ ts, Ln t true := fun t ht => (tab t ht).ln
  have lnb : ∀ t ∈ ts, ∃ b, Ln t b := fun t ht => ⟨_, ln t ht⟩
  have tpos : 1 ≤ ts.length := List.length_pos_iff.mpr ne
  walk_at "vz"
  refine x_m1 ?_
  walk_at "vz"
  refine ⟨⟨_, rfl⟩, ?_⟩
  walk_at "vz"
  refine x_joinN lnb (by omega) (SqL.of hpl) ?_
  walk_at "vz"
  refine c_rows_good pf ne (by omega) ln fun H2 s2 => ?_
  walk_at "vz"
  refine x_iteF ?_
  walk_at "vz"
  refine c_rows_empty pf fun H3 s3 => ?_
  walk_at "vz"
  refine x_iteF ?_
  walk_at "vz"
  have s13 := Same.trans s1 (Same.trans s2 s3)
  have hp3 := s3 _ _ (s2 _ _ hpl)
  refine ⟨sl (m := 1) (Nat.le_refl _), fun q1 hq1 => ?_⟩
  have u1 := Same.new (o := .lst [.int 0]) hq1
  walk_at "vz"
  refine x_slL (Same.sql (Same.trans s13 u1) hs') fun q2 hq2 => ?_
  obtain ⟨es, e1, e2⟩ := cut20 ns
  rw [e1]
  have u2 := Same.new (o := .lst (es.map V.int)) hq2
  refine x_cat (SqX.of (u2 _ _ upd_same)) (SqX.of upd_same) (by rw [List.length_map, List.length_singleton, sizeLine_eq]; omega) fun q3 hq3 => ?_
  have ec : ([.int 0] ++ es.map V.int : List V) = (0 :: es).map V.int := rfl
  rw [ec]
  have u3 := Same.new (o := .lst ((0 :: es).map V.int)) hq3
  have hq3l := upd_same (H := upd (upd H3 q1 (.lst [.int 0])) q2 (.lst (es.map V.int))) (a := q3) (o := .lst ((0 :: es).map V.int))
  have hp4 := u3 _ _ (u2 _ _ (u1 _ _ hp3))
  generalize upd (upd (upd H3 q1 (.lst [.int 0])) q2 (.lst (es.map V.int))) q3 (.lst ((0 :: es).map V.int)) = H4 at hq3l hp4
  refine x_gList (SqL.of hq3l) ?_
  refine L_list (xs := (0 :: es).map V.int) (fun i σ H' => ∃ (a2 a3 a4 : Option L2.V), σ = [some (.ref a), some (.ref p), a2, a3, a4] ∧ Same H4 H') ⟨_, _, _, rfl, Same.refl _⟩ (fun i σ H' _ ⟨_, _, _, _, q⟩ => SqL.of (q _ _ hq3l)) ?_ ?_
  · rintro i x σ H' hi ⟨a2, a3, a4, rfl, s5⟩
    obtain ⟨cell, _, rfl⟩ := get_map hi
    have hp5 := s5 _ _ hp4
    show tSeq _ _ _ _ _
    walk_at "vz"
    refine x_lenL (SqL.of hp5) ?_
    rw [List.length_map]
    refine x_mod (by omega) ?_
    have a0 : 0 ≤ cell / 300 % (ts.length : Int) := Int.emod_nonneg _ (by omega)
    have a1 : cell / 300 % (ts.length : Int) < ts.length := Int.emod_lt_of_pos _ (by omega)
    have ea : cell / 300 % (ts.length : Int) = ((cell / 300 % (ts.length : Int)).toNat : Int) := (Int.toNat_of_nonneg a0).symm
    have an : (cell / 300 % (ts.length : Int)).toNat < ts.length := by omega
    rw [ea]
    generalize (cell / 300 % (ts.length : Int)).toNat = k at an
    have pl : (ts.take k).length = k := by rw [List.length_take]; omega
    walk_at "vz"
    refine x_slL (SqL.of hp5) fun q4 hq4 => ?_
    rw [cutT V.str ts k]
    have v1' := Same.new (o := .lst ((ts.take k).map V.str)) hq4
    walk_at "vz"
    refine x_ixL (SqL.of (v1' _ _ hp5)) (strs_at (w := ts[k]) (List.getElem?_eq_getElem an)) ?_
    walk_at "vz"
    refine c_spoilt (tab _ (List.getElem_mem an)) fun s H6 hb s6 => ?_
    walk_at "vz"
    refine ⟨sl (m := 1) (Nat.le_refl _), fun q5 hq5 => ?_⟩
    have v2 := Same.new (o := .lst [.str s]) hq5
    refine x_cat (SqX.of (v2 _ _ (s6 _ _ upd_same))) (SqX.of upd_same) (by rw [List.length_map, List.length_singleton, sizeLine_eq]; omega) fun q6 hq6 => ?_
    have v3 := Same.new (o := .lst ((ts.take k).map V.str ++ [.str s])) hq6
    have v13 := Same.trans v1' (Same.trans s6 (Same.trans v2 v3))
    walk_at "vz"
    refine x_slL (SqL.of (v13 _ _ hp5)) fun q7 hq7 => ?_
    have ec2 := cutD V.str ts (k + 1)
    rw [show ((k + 1 : Nat) : Int) = (k : Int) + 1 from by omega] at ec2
    rw [ec2]
    have v4 := Same.new (o := .lst ((ts.drop (k + 1)).map V.str)) hq7
    refine x_cat (SqX.of (v4 _ _ upd_same)) (SqX.of upd_same) (by rw [List.length_append, List.length_map, List.length_map, List.length_drop, List.length_singleton, sizeLine_eq]; omega) fun q8 hq8 => ?_
    have ev : (ts.take k).map V.str ++ [.str s] ++ (ts.drop (k + 1)).map V.str = (ts.take k ++ s :: ts.drop (k + 1)).map V.str := by simp
    rw [ev]
    have v5' := Same.new (o := .lst ((ts.take k ++ s :: ts.drop (k + 1)).map V.str)) hq8
    have v15 := Same.trans v13 (Same.trans v4 v5')
    have hbad := upd_same (H := upd (upd (upd H6 q5 (.lst [.str s])) q6 (.lst ((ts.take k).map V.str ++ [.str s]))) q7 (.lst ((ts.drop (k + 1)).map V.str))) (a := q8) (o := .lst ((ts.take k ++ s :: ts.drop (k + 1)).map V.str))
    generalize upd (upd (upd (upd H6 q5 (.lst [.str s])) q6 (.lst ((ts.take k).map V.str ++ [.str s]))) q7 (.lst ((ts.drop (k + 1)).map V.str))) q8 (.lst ((ts.take k ++ s :: ts.drop (k + 1)).map V.str)) = H7 at v15 hbad
    have gpre : ∀ u ∈ ts.take k, Ln u true := fun u hu => ln u (List.mem_of_mem_take hu)
    have gpost : ∀ u ∈ ts.drop (k + 1), ∃ b, Ln u b := fun u hu => lnb u (List.mem_of_mem_drop hu)
    have blen : (ts.take k ++ s :: ts.drop (k + 1)).length ≤ 30 := by rw [List.length_append, List.length_cons, pl, List.length_drop]; omega
    have ball : ∀ u ∈ ts.take k ++ s :: ts.drop (k + 1), ∃ b, Ln u b := fun u hu => by
      rcases List.mem_append.mp hu with z | z
      · exact ⟨_, gpre u z⟩
      · rcases List.mem_cons.mp z with y | y
        · exact ⟨_, y ▸ hb⟩
        · exact gpost u y
    walk_at "vz"
    refine x_m1 ?_
    walk_at "vz"
    refine ⟨⟨_, rfl⟩, ?_⟩
    walk_at "vz"
    refine x_joinN ball (by omega) (SqL.of hbad) ?_
    walk_at "vz"
    refine c_rows_bad pf (by omega) gpre hb gpost fun H8 s8 => ?_
    walk_at "vz"
    rw [pl]
    refine x_iteIN (fun z => absurd rfl z) fun _ => ?_
    walk_at "vz"
    refine x_m1 ?_
    walk_at "vz"
    refine ⟨⟨_, rfl⟩, ?_⟩
    walk_at "vz"
    refine ⟨sl (m := 1) (Nat.le_refl _), fun q9 hq9 => ?_⟩
    have w1 := Same.new (o := .lst [.str "no"]) hq9
    refine x_cat (SqX.of (w1 _ _ (s8 _ _ hbad))) (SqX.of upd_same) (by rw [List.length_map, List.length_singleton, sizeLine_eq]; omega) fun q10 hq10 => ?_
    have ev2 : (ts.take k ++ s :: ts.drop (k + 1)).map V.str ++ [.str "no"] = (ts.take k ++ s :: (ts.drop (k + 1) ++ (["no"] : List Str))).map V.str := by simp
    rw [ev2]
    have w2 := Same.new (o := .lst ((ts.take k ++ s :: (ts.drop (k + 1) ++ (["no"] : List Str))).map V.str)) hq10
    have gpost2 : ∀ u ∈ ts.drop (k + 1) ++ (["no"] : List Str), ∃ b, Ln u b := fun u hu => by
      rcases List.mem_append.mp hu with z | z
      · exact gpost u z
      · rw [List.mem_singleton] at z; exact ⟨_, z ▸ ln_no⟩
    have blen2 : (ts.take k ++ s :: (ts.drop (k + 1) ++ (["no"] : List Str))).length ≤ 31 := by rw [List.length_append, List.length_cons, List.length_append, pl, List.length_drop, List.length_singleton]; omega
    have ball2 : ∀ u ∈ ts.take k ++ s :: (ts.drop (k + 1) ++ (["no"] : List Str)), ∃ b, Ln u b := fun u hu => by
      rcases List.mem_append.mp hu with z | z
      · exact ⟨_, gpre u z⟩
      · rcases List.mem_cons.mp z with y | y
        · exact ⟨_, y ▸ hb⟩
        · exact gpost2 u y
    refine x_joinN ball2 (by omega) (SqL.of upd_same) ?_
    walk_at "vz"
    refine c_rows_bad pf (by omega) gpre hb gpost2 fun H9 s9 => ?_
    walk_at "vz"
    rw [pl]
    refine x_iteIN (fun z => absurd rfl z) fun _ => ?_
    have s59 := Same.trans s5 (Same.trans v15 (Same.trans s8 (Same.trans w1 (Same.trans w2 s9))))
    have hp9 := s59 _ _ hp4
    walk_at "vz"
    refine x_m1 ?_
    walk_at "vz"
    refine ⟨⟨_, rfl⟩, ?_⟩
    walk_at "vz"
    refine x_slL (SqL.of hp9) fun r1 hr1 => ?_
    rw [cutT V.str ts k]
    have y1 := Same.new (o := .lst ((ts.take k).map V.str)) hr1
    walk_at "vz"
    refine ⟨sl (m := 1) (Nat.le_refl _), fun r2 hr2 => ?_⟩
    have y2 := Same.new (o := .lst [.str ""]) hr2
    refine x_cat (SqX.of (y2 _ _ upd_same)) (SqX.of upd_same) (by rw [List.length_map, List.length_singleton, sizeLine_eq]; omega) fun r3 hr3 => ?_
    have y3 := Same.new (o := .lst ((ts.take k).map V.str ++ [.str ""])) hr3
    have y13 := Same.trans y1 (Same.trans y2 y3)
    walk_at "vz"
    refine x_slL (SqL.of (y13 _ _ hp9)) fun r4 hr4 => ?_
    rw [cutD V.str ts k]
    have y4 := Same.new (o := .lst ((ts.drop k).map V.str)) hr4
    refine x_cat (SqX.of (y4 _ _ upd_same)) (SqX.of upd_same) (by rw [List.length_append, List.length_map, List.length_map, List.length_drop, List.length_singleton, sizeLine_eq]; omega) fun r5 hr5 => ?_
    have ev3 : (ts.take k).map V.str ++ [.str ""] ++ (ts.drop k).map V.str = (ts.take k ++ (("" : Str) :: ts.drop k)).map V.str := by simp
    rw [ev3]
    have y5 := Same.new (o := .lst ((ts.take k ++ (("" : Str) :: ts.drop k)).map V.str)) hr5
    have y15 := Same.trans y13 (Same.trans y4 y5)
    have gpost3 : ∀ u ∈ ts.drop k, ∃ b, Ln u b := fun u hu => lnb u (List.mem_of_mem_drop hu)
    have blen3 : (ts.take k ++ (("" : Str) :: ts.drop k)).length ≤ 30 := by rw [List.length_append, List.length_cons, pl, List.length_drop]; omega
    have ball3 : ∀ u ∈ ts.take k ++ (("" : Str) :: ts.drop k), ∃ b, Ln u b := fun u hu => by
      rcases List.mem_append.mp hu with z | z
      · exact ⟨_, gpre u z⟩
      · rcases List.mem_cons.mp z with y | y
        · exact ⟨_, y ▸ ln_em⟩
        · exact gpost3 u y
    refine x_joinN ball3 (by omega) (SqL.of upd_same) ?_
    walk_at "vz"
    refine c_rows_bad pf (by omega) gpre ln_em gpost3 fun H10 s10 => ?_
    walk_at "vz"
    rw [pl]
    refine x_iteIN (fun z => absurd rfl z) fun _ => ?_
    walk_at "vz"
    exact ⟨_, _, _, rfl, Same.trans s59 (Same.trans y15 s10)⟩
  · rintro σ H' ⟨a2, a3, a4, rfl, s5⟩
    have hp5 := s5 _ _ hp4
    walk_at "vz"
    refine x_m1 ?_
    walk_at "vz"
    refine ⟨⟨_, rfl⟩, ?_⟩
    walk_at "vz"
    refine x_joinN lnb (by omega) (SqL.of hp5) ?_
    have l1 : ("\n" : Str).length = 1 := by decide +kernel
    walk_at "vz"
    have nl := (N_len (fun t ht => (ln t ht).f.len) (by omega : ts.length ≤ 100)).1
    refine x_addS (a := N ts) (b := "\n") (by omega) ?_
    rw [N_end ne]
    walk_at "vz"
    refine c_rows_bad pf (pre := ts) (post := []) (by rw [List.length_append, List.length_singleton]; omega) ln ln_em (fun u hu => by cases hu) fun H6 s6 => ?_
    walk_at "vz"
    refine x_lenL (SqL.of (s6 _ _ hp5)) ?_
    rw [List.length_map]
    walk_at "vz"
    rw [show decide (V.int ((ts.length : Int) + 1) = V.int ((ts.length : Int) + 1)) = true from decide_eq_true rfl]
    exact h H6
end P75

set_option maxRecDepth 100000
theorem PySem.Challenge.cw_stillheap_k75_no_logs_texts_holds : PySem.Challenge.rw_stillheap_k75_no_logs_texts.Holds := by
  exact D_k75.holds_of fun K pf H a ns h1 h2 h3 h4 => P75.c_law pf h4 fun _ => rfl

